import PyProof.Rows.All
import Wide.All
import OpenK.AllK
import Wide.FinOn
import HandS.ForMost
import HandS.ForExc
import HandS.Wide
import HandS.IsInst
import HandS.ExcOwn
import HandS.TryOnly
import HandS.WordsExc
import HandS.Zip
import HandS.TupLe
import HandS.Rev
import KE.DataEq
import HandS.NoneIn
import HandS.Style
import PySem.Challenge.RW_easelroom_k07_on_one_line
set_option Elab.async false
set_option linter.all false
set_option maxRecDepth 100000
namespace Mi
open PySem L2 PyProof.Rows

/-! ### 1. data, and how it stands in a heap -/
abbrev D := PyData
def scrD (ns : List Int) : D := PyData.dict [(.none, .list (ns.map PyData.int))]
mutual
inductive Rp (K : PySem.W.Frag) (H : Hp) : V → D → Prop
  | non : Rp K H .non .none
  | bl (b : Bool) : Rp K H (.bl b) (.bool b)
  | int (i : Int) : Rp K H (.int i) (.int i)
  | str (x : Str) : Rp K H (.str x) (.str x)
  | lst {a : Addr} {xs : List V} {ds : List D} : H a = some (.lst xs) → RpA K H xs ds → Rp K H (.ref a) (.list ds)
  | tup {a : Addr} {xs : List V} {ds : List D} : SqT K H a xs → RpA K H xs ds → Rp K H (.ref a) (.tuple ds)
  | scr {a : Addr} {ns : List Int} : SqL K H a (ns.map V.int) → Rp K H (.ref a) (PyData.dict [(.none, .list (ns.map PyData.int))])
inductive RpA (K : PySem.W.Frag) (H : Hp) : List V → List D → Prop
  | nil : RpA K H [] []
  | cons {v : V} {vs : List V} {d : D} {ds : List D} : Rp K H v d → RpA K H vs ds → RpA K H (v :: vs) (d :: ds)
end

theorem same_rd {H H' : Hp} (e : Same H H') {a : Addr} {u : HO} (h : Rd H a u) : Rd H' a u := by
  rcases h with h | ⟨o, h⟩
  · exact .inl (e a _ h)
  · exact .inr ⟨o, e a _ h⟩
theorem same_l {K : PySem.W.Frag} {H H' : Hp} (e : Same H H') {a : Addr} {xs : List V} (h : SqL K H a xs) : SqL K H' a xs := by
  rcases h with h | h
  · exact .inl (same_rd e h)
  · exact .inr h
theorem same_t {K : PySem.W.Frag} {H H' : Hp} (e : Same H H') {a : Addr} {xs : List V} (h : SqT K H a xs) : SqT K H' a xs := by
  rcases h with h | h
  · exact .inl (same_rd e h)
  · exact .inr h
theorem same_new {H : Hp} {p : Addr} {o : HO} (h : H p = none) : Same H (upd H p o) := fun a u e => by
  rw [upd_ne (ne_of_none e h)]; exact e

mutual
theorem Rp.mono {K : PySem.W.Frag} {H H' : Hp} (e : Same H H') : ∀ {v : V} {d : D}, Rp K H v d → Rp K H' v d
  | _, _, .non => .non
  | _, _, .bl b => .bl b
  | _, _, .int i => .int i
  | _, _, .str x => .str x
  | _, _, .lst h r => .lst (e _ _ h) (RpA.mono e r)
  | _, _, .tup h r => .tup (same_t e h) (RpA.mono e r)
  | _, _, .scr h => .scr (same_l e h)
theorem RpA.mono {K : PySem.W.Frag} {H H' : Hp} (e : Same H H') : ∀ {vs : List V} {ds : List D}, RpA K H vs ds → RpA K H' vs ds
  | _, _, .nil => .nil
  | _, _, .cons a r => .cons (Rp.mono e a) (RpA.mono e r)
end
mutual
/-- no list, no dict within -/
def smp : D → Bool
  | .list _ => false
  | .dict _ => false
  | .tuple ds => smpA ds
  | .none => true
  | .bool _ => true
  | .int _ => true
  | .str _ => true
def smpA : List D → Bool
  | [] => true
  | d :: ds => smp d && smpA ds
end
mutual
theorem Rp.tups {K : PySem.W.Frag} {H H' : Hp} (e : ∀ a xs, SqT K H a xs → SqT K H' a xs) : ∀ {v : V} {d : D}, Rp K H v d → smp d = true → Rp K H' v d
  | _, _, .non, _ => .non
  | _, _, .bl b, _ => .bl b
  | _, _, .int i, _ => .int i
  | _, _, .str x, _ => .str x
  | _, _, .lst _ _, h => by simp [smp] at h
  | _, _, .tup h r, s => .tup (e _ _ h) (RpA.tups e r (by simpa [smp] using s))
  | _, _, .scr _, h => by simp [smp] at h
theorem RpA.tups {K : PySem.W.Frag} {H H' : Hp} (e : ∀ a xs, SqT K H a xs → SqT K H' a xs) : ∀ {vs : List V} {ds : List D}, RpA K H vs ds → smpA ds = true → RpA K H' vs ds
  | _, _, .nil, _ => .nil
  | _, _, .cons a r, s => by
    simp only [smpA, Bool.and_eq_true] at s
    exact .cons (Rp.tups e a s.1) (RpA.tups e r s.2)
end
section
variable {K : PySem.W.Frag} {H : Hp}
theorem RpA.len : ∀ {vs : List V} {ds : List D}, RpA K H vs ds → vs.length = ds.length
  | _, _, .nil => rfl
  | _, _, .cons _ r => by simp [RpA.len r]
theorem RpA.get : ∀ {vs : List V} {ds : List D} {i : Nat} {v : V}, RpA K H vs ds → vs[i]? = some v → ∃ d, ds[i]? = some d ∧ Rp K H v d
  | _, _, i, v, .nil, h => by simp at h
  | _, _, 0, v, .cons a r, h => by simp at h; subst h; exact ⟨_, by simp, a⟩
  | _, _, i + 1, v, .cons a r, h => by
    obtain ⟨d, h1, h2⟩ := RpA.get (i := i) (v := v) r (by simpa using h)
    exact ⟨d, by simpa using h1, h2⟩
theorem RpA.getD : ∀ {vs : List V} {ds : List D} {i : Nat} {d : D}, RpA K H vs ds → ds[i]? = some d → ∃ v, vs[i]? = some v ∧ Rp K H v d
  | _, _, i, v, .nil, h => by simp at h
  | _, _, 0, v, .cons a r, h => by simp at h; subst h; exact ⟨_, by simp, a⟩
  | _, _, i + 1, v, .cons a r, h => by
    obtain ⟨d, h1, h2⟩ := RpA.getD (i := i) (d := v) r (by simpa using h)
    exact ⟨d, by simpa using h1, h2⟩
theorem RpA.app : ∀ {vs ws : List V} {ds es : List D}, RpA K H vs ds → RpA K H ws es → RpA K H (vs ++ ws) (ds ++ es)
  | _, _, _, _, .nil, s => s
  | _, _, _, _, .cons a r, s => .cons a (RpA.app r s)
theorem RpA.take : ∀ {vs : List V} {ds : List D} (n : Nat), RpA K H vs ds → RpA K H (vs.take n) (ds.take n)
  | _, _, 0, _ => by simp; exact .nil
  | _, _, _ + 1, .nil => by simp; exact .nil
  | _, _, n + 1, .cons a r => by simp; exact .cons a (RpA.take n r)
theorem RpA.drop : ∀ {vs : List V} {ds : List D} (n : Nat), RpA K H vs ds → RpA K H (vs.drop n) (ds.drop n)
  | _, _, 0, r => by simpa using r
  | _, _, _ + 1, .nil => by simp; exact .nil
  | _, _, n + 1, .cons a r => by simpa using RpA.drop n r
theorem RpA.set {v : V} {d : D} (q : Rp K H v d) : ∀ {vs : List V} {ds : List D} (n : Nat), RpA K H vs ds → RpA K H (vs.set n v) (ds.set n d)
  | _, _, _, .nil => by simp; exact .nil
  | _, _, 0, .cons a r => by simp; exact .cons q r
  | _, _, n + 1, .cons a r => by simp; exact .cons a (RpA.set q n r)
theorem RpA.dropLast : ∀ {vs : List V} {ds : List D}, RpA K H vs ds → RpA K H vs.dropLast ds.dropLast
  | _, _, .nil => .nil
  | _, _, .cons a .nil => .nil
  | _, _, .cons a (.cons b r) => by simpa using RpA.cons a (RpA.dropLast (.cons b r))
theorem RpA.rev : ∀ {vs : List V} {ds : List D}, RpA K H vs ds → RpA K H vs.reverse ds.reverse
  | _, _, .nil => .nil
  | _, _, .cons a r => by simpa using RpA.app (RpA.rev r) (.cons a .nil)
theorem RpA.ints : ∀ {vs : List V} {ns : List Int}, RpA K H vs (ns.map PyData.int) → vs = ns.map V.int
  | _, [], .nil => rfl
  | _, n :: ns, .cons a r => by
    cases a
    rw [RpA.ints r]; rfl
theorem RpA.of_ints : ∀ {ns : List Int}, RpA K H (ns.map V.int) (ns.map PyData.int)
  | [] => .nil
  | n :: ns => .cons (.int n) RpA.of_ints
theorem RpA.bools : ∀ {vs : List V} {ns : List Bool}, RpA K H vs (ns.map PyData.bool) → vs = ns.map V.bl
  | _, [], .nil => rfl
  | _, n :: ns, .cons a r => by
    cases a
    rw [RpA.bools r]; rfl
end
mutual
theorem Rp.dp {K : PySem.W.Frag} {H : Hp} : ∀ {v : V} {d : D}, Rp K H v d → d.plain = true → Dp K H v d
  | _, _, .non, _ => .non
  | _, _, .bl b, _ => .bl b
  | _, _, .int i, _ => .int i
  | _, _, .str x, _ => .str x
  | _, _, .lst h r, p => .lst (SqL.of h) (RpA.dp r (by simpa [PyData.plain] using p))
  | _, _, .tup h r, p => .tup h (RpA.dp r (by simpa [PyData.plain] using p))
  | _, _, .scr _, p => by simp [PyData.plain] at p
theorem RpA.dp {K : PySem.W.Frag} {H : Hp} : ∀ {vs : List V} {ds : List D}, RpA K H vs ds → PyData.plainAll ds = true → DpAll K H vs ds
  | _, _, .nil, _ => .nil
  | _, _, .cons a r, p => by
    simp only [PyData.plainAll, Bool.and_eq_true] at p
    exact .cons (Rp.dp a p.1) (RpA.dp r p.2)
end
end Mi
set_option Elab.async false
set_option linter.all false
set_option maxRecDepth 100000
namespace Mi
open PySem L2 PyProof.Rows

/-! ### 2. the small language -/
inductive BOp | add | sub | mul | div | mod | pow | band | shr
  deriving DecidableEq
inductive COp | eq | ne | lt | le | gt | ge | isn | notn | inn | nin
  deriving DecidableEq
inductive Bf | len | abs | max2 | min2 | sum | max | min | tuple | list | all | any | int
  deriving DecidableEq
inductive Ty | int | bool | tuple | list | str
  deriving DecidableEq
inductive Tg | one (i : Nat) | many (is : List Nat)
  deriving DecidableEq
mutual
inductive Ex
  | var (i : Nat)
  | int (n : Int)
  | bl (b : Bool)
  | non
  | str (s : Str)
  | cst (c : Nat)
  | bin (o : BOp) (a b : Ex)
  | neg (a : Ex)
  | cmp (o : COp) (a b : Ex)
  | cmp2 (o p : COp) (a b c : Ex)
  | and (a b : Ex)
  | or (a b : Ex)
  | one (a : Ex)
  | not (a : Ex)
  | ite (c a b : Ex)
  | tup (as : Exs)
  | lst (as : Exs)
  | sub (a i : Ex)
  | slc (a : Ex) (lo hi : Ox)
  | blt (f : Bf) (as : Exs)
  | isi (a : Ex) (t : Ty)
  | call (f : Nat) (as : Exs)
  | ct (f g : Nat) (as bs : Exs)
  | pop (i : Nat)
  | lc (e : Ex) (tg : Tg) (it : Ti) (c : Ox) (own : List Nat)
inductive Exs
  | nil
  | cons (e : Ex) (r : Exs)
inductive Ox
  | no
  | so (e : Ex)
inductive Ti
  | seq (a : Ex)
  | rng1 (a : Ex)
  | rng2 (a b : Ex)
  | zip (a b : Ex)
  | rev (a : Ex)
end
mutual
inductive Cm
  | exp (e : Ex)
  | app (i : Nat) (e : Ex)
  | ext (i : Nat) (e : Ex)
  | set (i : Nat) (e : Ex)
  | unp (is : List Nat) (e : Ex)
  | par (i j : Nat) (a b : Ex)
  | sub (i : Nat) (k e : Ex)
  | aug (o : BOp) (i : Nat) (e : Ex)
  | iff (c : Ex) (a b : Cms)
  | whl (c : Ex) (b : Cms)
  | for (tg : Tg) (it : Ti) (b : Cms)
  | ret (e : Ex)
  | retN
  | pas
  | brk
  | cnt
  | rse (c : Nat)
inductive Cms
  | nil
  | cons (s : Cm) (r : Cms)
end

/-! ### 3. what it does, over data -/
/-- whose a list is: anybody's (never changed again), this frame's alone, lent by the caller -/
inductive Fl | fro | own | lent
  deriving DecidableEq
abbrev Sl := Option (D × Fl)
abbrev Dl := List Sl
/-- an exception: its class by number, its fields -/
structure Xn where
  cls : Nat
  args : List D
def look : Dl → Nat → Sl
  | [], _ => none
  | x :: _, 0 => x
  | _ :: r, n + 1 => look r n
def putAt : Dl → Nat → Sl → Dl
  | [], _, _ => []
  | _ :: r, 0, y => y :: r
  | x :: r, n + 1, y => x :: putAt r n y
inductive Ar | val (d : D) | ref (i : Nat)
def dat (δ : Dl) : Ar → Option D
  | .val d => some d
  | .ref i => (look δ i).map (·.1)
def dats (δ : Dl) : List Ar → Option (List D)
  | [] => some []
  | a :: r => match dat δ a, dats δ r with
    | some d, some ds => some (d :: ds)
    | _, _ => none
def asVar : Ex → Option Nat
  | .var i => some i
  | _ => none
abbrev KD := D → Bool → Dl → Prop
abbrev XD := Xn → Dl → Prop
/-- an argument: a name is looked up late, anything else is frozen -/
def arg (v : Option Nat) (w : KD → Prop) (δ : Dl) (k : Ar → Dl → Prop) : Prop := match v with
  | some i => (look δ i).isSome = true ∧ k (.ref i) δ
  | none => w fun d _ δ' => k (.val d) δ'

/-- a factor's size -/
def okMul (i j : Int) : Prop := i.natAbs.log2 + j.natAbs.log2 < 1000000
def okDiv (j : Int) : Prop := j ≠ 0 ∧ j.natAbs.log2 < 9000
def okPow (i j : Int) : Prop := 0 ≤ j ∧ j ≤ 1000000 ∧ i.natAbs < 2 ^ 64
def bop (o : BOp) (x y : D) (k : D → Bool → Prop) : Prop := match o, x, y with
  | .add, .int i, .int j => k (.int (i + j)) false
  | .add, .list xs, .list ys => xs.length + ys.length ≤ 1000000 ∧ k (.list (xs ++ ys)) true
  | .add, .tuple xs, .tuple ys => (xs ≠ [] ∧ ys ≠ [] ∧ xs.length + ys.length ≤ 1000000) ∧ k (.tuple (xs ++ ys)) false
  | .sub, .int i, .int j => k (.int (i - j)) false
  | .mul, .int i, .int j => okMul i j ∧ k (.int (i * j)) false
  | .div, .int i, .int j => okDiv j ∧ k (.int (i.fdiv j)) false
  | .mod, .int i, .int j => j ≠ 0 ∧ k (.int (i.fmod j)) false
  | .pow, .int i, .int j => okPow i j ∧ k (.int (i ^ j.toNat)) false
  | _, _, _ => False
def cmpOk (x y : D) : Prop := x.plain = true ∧ y.plain = true ∧ min x.depth y.depth ≤ 60
def cop (o : COp) (x y : D) (k : Bool → Prop) : Prop := match o with
  | .eq => cmpOk x y ∧ k (PyData.eqv x y)
  | .ne => cmpOk x y ∧ k (!PyData.eqv x y)
  | .isn => match y with
    | .none => k (match x with | .none => true | _ => false)
    | .bool b => (match x with | .bool c => k (decide (c = b)) | _ => False)
    | _ => False
  | .notn => match y with
    | .none => k (match x with | .none => false | _ => true)
    | .bool b => (match x with | .bool c => k (!decide (c = b)) | _ => False)
    | _ => False
  | .lt => match x, y with | .int i, .int j => k (decide (i < j)) | _, _ => False
  | .le => match x, y with | .int i, .int j => k (decide (i ≤ j)) | _, _ => False
  | .gt => match x, y with | .int i, .int j => k (decide (j < i)) | _, _ => False
  | .ge => match x, y with | .int i, .int j => k (decide (j ≤ i)) | _, _ => False
  | .inn => match y with
    | .list ys => (cmpOk x y) ∧ k (ys.any fun z => PyData.eqv z x)
    | .tuple ys => (cmpOk x y) ∧ k (ys.any fun z => PyData.eqv z x)
    | _ => False
  | .nin => match y with
    | .list ys => (cmpOk x y) ∧ k (!ys.any fun z => PyData.eqv z x)
    | .tuple ys => (cmpOk x y) ∧ k (!ys.any fun z => PyData.eqv z x)
    | _ => False
def scrOf : D → Option (List D)
  | .dict [(.none, .list ns)] => some ns
  | _ => none
/-- some, and then -/
def onS {α : Type} (o : Option α) (k : α → Prop) : Prop := match o with | some a => k a | none => False
theorem ex_of {α : Type} {o : Option α} {P : α → Prop} (h : onS o P) : ∃ a, o = some a ∧ P a := by
  cases o with
  | none => exact h.elim
  | some a => exact ⟨a, rfl, h⟩
/-- an item -/
def sbs (x y : D) (k : D → Prop) : Prop := match x, y with
  | .list xs, .int i => onS (atI xs i) k
  | .tuple xs, .int i => onS (atI xs i) k
  | .dict [(.none, .list xs)], .int i => onS (atI xs i) k
  | _, _ => False
def cutD (xs : List D) (lo hi : Option Int) : List D := (xs.drop (HT.sIx xs.length 0 lo)).take (HT.sIx xs.length xs.length hi - HT.sIx xs.length 0 lo)
def slcd (x : D) (lo hi : Option Int) (k : D → Bool → Prop) : Prop := match x with
  | .list xs => k (.list (cutD xs lo hi)) true
  | .tuple xs => ¬ (HT.sIx xs.length 0 lo = 0 ∧ HT.sIx xs.length xs.length hi = xs.length) ∧ k (.tuple (cutD xs lo hi)) false
  | _ => False
def intsOf : List D → Option (List Int)
  | [] => some []
  | .int i :: r => (intsOf r).map (i :: ·)
  | _ => none
def boolsOf : List D → Option (List Bool)
  | [] => some []
  | .bool i :: r => (boolsOf r).map (i :: ·)
  | _ => none
def itemsOf : D → Option (List D)
  | .list xs => some xs
  | .tuple xs => some xs
  | .dict [(.none, .list xs)] => some xs
  | _ => none
/-- the built-ins -/
def blt (f : Bf) (as : List D) (k : D → Bool → Prop) : Prop := match f, as with
  | .len, [x] => onS (itemsOf x) fun xs => k (.int xs.length) false
  | .abs, [.int i] => k (.int (if i < 0 then -i else i)) false
  | .max2, [.int i, .int j] => k (.int (if j > i then j else i)) false
  | .min2, [.int i, .int j] => k (.int (if j < i then j else i)) false
  | .sum, [.list xs] => onS (intsOf xs) fun ns => k (.int ns.sum) false
  | .max, [.list xs] => ∃ ns, intsOf xs = some ns ∧ 0 < ns.length ∧ ∀ m, m ∈ ns → (∀ y, y ∈ ns → y ≤ m) → k (.int m) false
  | .min, [.list xs] => ∃ ns, intsOf xs = some ns ∧ 0 < ns.length ∧ ∀ m, m ∈ ns → (∀ y, y ∈ ns → m ≤ y) → k (.int m) false
  | .tuple, [.list xs] => k (.tuple xs) false
  | .tuple, [.tuple xs] => k (.tuple xs) false
  | .list, [.list xs] => k (.list xs) true
  | .list, [.tuple xs] => k (.list xs) true
  | .all, [.list xs] => onS (boolsOf xs) fun bs => k (.bool (bs.all id)) false
  | .any, [.list xs] => onS (boolsOf xs) fun bs => k (.bool (bs.any id)) false
  | .int, [.int i] => k (.int i) false
  | .int, [.bool b] => k (.int (if b then 1 else 0)) false
  | _, _ => False
def isT (x : D) : Ty → Bool
  | .int => match x with | .int _ => true | .bool _ => true | _ => false
  | .bool => match x with | .bool _ => true | _ => false
  | .tuple => match x with | .tuple _ => true | _ => false
  | .list => match x with | .list _ => true | _ => false
  | .str => match x with | .str _ => true | _ => false
def isScr : D → Bool
  | .dict _ => true
  | _ => false
def truth : D → Option Bool
  | .none => some false
  | .bool b => some b
  | .int i => some (i != 0)
  | .list xs => some (!xs.isEmpty)
  | .tuple xs => some (!xs.isEmpty)
  | _ => none
def truK (d : D) (k : Bool → Prop) : Prop := onS (truth d) k
/-- a def of the program: what it does with data; which parameters are lent; whether it hands back a new list -/
structure FI where
  name : Str
  ps : List Str
  lent : List Bool
  fresh : Bool
  T : List D → (D → List D → Prop) → (Xn → List D → Prop) → Prop
structure Gd where
  fs : List FI
  cs : List (Str × D)
  xs : List Str
def isOwn : Sl → Bool
  | some (_, .own) => true
  | some (_, .lent) => true
  | _ => false
def isLent : Sl → Bool
  | some (_, .lent) => true
  | _ => false
def frz : Sl → Sl
  | some (d, .own) => some (d, .fro)
  | x => x
/-- the lent arguments are names whose lists are this frame's or lent to it -/
def lentOk (δ : Dl) : List Bool → List Ar → Bool
  | true :: ls, .ref i :: as => isOwn (look δ i) && lentOk δ ls as
  | false :: ls, _ :: as => lentOk δ ls as
  | [], [] => true
  | _, _ => false
/-- the names lent -/
def lentIs : List Bool → List Ar → List Nat
  | true :: ls, .ref i :: as => i :: lentIs ls as
  | _ :: ls, _ :: as => lentIs ls as
  | _, _ => []
/-- a lent argument's new data -/
def newOf (j : Nat) : List Bool → List Ar → List D → Option D
  | true :: ls, .ref i :: as, d :: ds => if i = j then some d else newOf j ls as ds
  | _ :: ls, _ :: as, _ :: ds => newOf j ls as ds
  | _, _, _ => none
def reSl : Sl → Option D → Sl
  | some (_, f), some d => some (d, f)
  | x, _ => x
def backAt (ls : List Bool) (as : List Ar) (os : List D) : Nat → Dl → Dl
  | _, [] => []
  | n, x :: r => reSl x (newOf n ls as os) :: backAt ls as os (n + 1) r
def back (δ : Dl) (ls : List Bool) (as : List Ar) (os : List D) : Dl := backAt ls as os 0 δ
/-- no lent name is handed in once more -/
def noClash (lis : List Nat) : List Bool → List Ar → Bool
  | false :: ls, .ref i :: as => !lis.contains i && noClash lis ls as
  | _ :: ls, _ :: as => noClash lis ls as
  | _, _ => true
def isList : D → Bool
  | .list _ => true
  | _ => false
def lentsOk : List Bool → List D → Bool
  | true :: ls, .list ds :: os => smpA ds && lentsOk ls os
  | true :: _, _ :: _ => false
  | false :: ls, _ :: os => lentsOk ls os
  | [], [] => true
  | _, _ => false
/-- a result that may lean on nothing of the caller's own: simple, or a new list of simple things -/
def resOk (fresh : Bool) (r : D) : Bool := if fresh then (match r with | .list ds => smpA ds | _ => false) else smp r
/-- every list of the frame's own is lent -/
def ownIn (δ : Dl) (L : List Nat) : Bool := (List.range δ.length).all fun j => !isOwn (look δ j) || L.contains j
def callK (z : Bool) (fi : FI) (as : List Ar) (δ : Dl) (K : KD) (E : XD) : Prop :=
  (lentOk δ fi.lent as = true ∧ (lentIs fi.lent as).Nodup ∧ noClash (lentIs fi.lent as) fi.lent as = true) ∧ onS (dats δ as) fun ds =>
    fi.T ds (fun r os => os.length = as.length ∧ lentsOk fi.lent os = true ∧
      if resOk fi.fresh r = true then K r fi.fresh (back δ fi.lent as os)
      else ((z = false ∧ fi.fresh = false ∧ fi.lent.all (fun l => !l) = true ∧ δ.all (fun s => !isLent s) = true) ∧ K r false (δ.map frz)) ∨
        ((z = false ∧ ownIn δ (lentIs fi.lent as) = true) ∧ K r fi.fresh (back δ fi.lent as os)))
    (fun x os => os.length = as.length ∧ lentsOk fi.lent os = true ∧ E x (back δ fi.lent as os))
/-- whose lists the slots are: no more than before -/
def flS : Sl → Sl → Bool
  | none, _ => true
  | some (_, .fro), _ => true
  | some (_, .own), some (_, .own) => true
  | some (_, .lent), some (_, .lent) => true
  | _, _ => false
def flB : Dl → Dl → Bool
  | x :: r, y :: s => flS x y && flB r s
  | [], [] => true
  | _, _ => false
/-- a value goes to a name -/
def setK (i : Nat) (x : D × Fl) (δ : Dl) (k : Dl → Prop) : Prop := isLent (look δ i) = false ∧ k (putAt δ i (some x))
def flOf (d : D) (fr : Bool) : Fl := if fr && isList d then .own else .fro
def setsK : List Nat → List D → Dl → (Dl → Prop) → Prop
  | [], [], δ, k => k δ
  | i :: is, d :: ds, δ, k => setK i (d, .fro) δ fun δ' => setsK is ds δ' k
  | _, _, _, _ => False
def bindT (tg : Tg) (x : D) (δ : Dl) (k : Dl → Prop) : Prop := match tg, x with
  | .one i, d => setK i (d, .fro) δ k
  | .many is, .tuple ds => is.length = ds.length ∧ setsK is ds δ k
  | .many is, .list ds => is.length = ds.length ∧ setsK is ds δ k
  | .many _, _ => False
def srcOk (src : Option Nat) (items : List D) (δ : Dl) : Prop := match src with
  | none => True
  | some j => ∃ f, look δ j = some (.list items, f)
def wipeD (δ : Dl) : List Nat → Dl
  | [] => δ
  | i :: is => putAt (wipeD δ is) i none
/-- behind a comprehension: its own names are as they were -/
def unwipe (δ0 δ : Dl) : List Nat → Dl
  | [] => δ
  | i :: is => putAt (unwipe δ0 δ is) i (look δ0 i)
def lcL (src : Option Nat) (all : List D) (own : List Nat) (bnd : D → Dl → (Dl → Prop) → Prop) (tst : Dl → (Bool → Dl → Prop) → Prop) (elt : Dl → (D → Dl → Prop) → Prop) (fin : List D → Dl → Prop) : List D → List D → Dl → Prop
  | [], acc, δ => fin acc δ
  | x :: r, acc, δ => bnd x δ fun δ1 => tst δ1 fun b δ2 =>
      if b = true then elt δ2 fun d δ3 => acc.length < 1000000 ∧ srcOk src all δ3 ∧ lcL src all own bnd tst elt fin r (acc ++ [d]) (wipeD δ3 own)
      else srcOk src all δ2 ∧ lcL src all own bnd tst elt fin r acc (wipeD δ2 own)
def okRng (i : Int) : Prop := -(2 ^ 62) ≤ i ∧ i < 2 ^ 62
def rngD (lo : Int) (n : Nat) : List D := (List.range n).map fun (k : Nat) => PyData.int (lo + (k : Int))
def zipD : List D → List D → List D
  | x :: xs, y :: ys => .tuple [x, y] :: zipD xs ys
  | _, _ => []
def srcOf (δ : Dl) (a : Ar) : Option Nat := match a with
  | .ref i => if isOwn (look δ i) = true then some i else none
  | _ => none
mutual
def wpE (G : Gd) : Bool → Ex → Dl → KD → XD → Prop
  | z, .var i, δ, K, _ => (match look δ i with
    | some (d, .fro) => K d false δ
    | some (d, .own) => K d false (putAt δ i (some (d, .fro)))
    | _ => False)
  | z, .int n, δ, K, _ => K (.int n) false δ
  | z, .bl b, δ, K, _ => K (.bool b) false δ
  | z, .non, δ, K, _ => K .none false δ
  | z, .str s, δ, K, _ => K (.str s) false δ
  | z, .cst c, δ, K, _ => onS G.cs[c]? fun c => K c.2 false δ
  | z, .bin o a b, δ, K, E => arg (asVar a) (fun k => wpE G z a δ k E) δ fun x δ1 => arg (asVar b) (fun k => wpE G z b δ1 k E) δ1 fun y δ2 =>
      (match dat δ2 x, dat δ2 y with | some d, some e => bop o d e fun r f => K r f δ2 | _, _ => False)
  | z, .neg a, δ, K, E => wpE G z a δ (fun d _ δ1 => match d with | .int i => K (.int (-i)) false δ1 | _ => False) E
  | z, .cmp o a b, δ, K, E => arg (asVar a) (fun k => wpE G z a δ k E) δ fun x δ1 => arg (asVar b) (fun k => wpE G z b δ1 k E) δ1 fun y δ2 =>
      (match dat δ2 x, dat δ2 y with | some d, some e => cop o d e fun r => K (.bool r) false δ2 | _, _ => False)
  | z, .cmp2 o p a b c, δ, K, E => arg (asVar a) (fun k => wpE G z a δ k E) δ fun x δ1 => arg (asVar b) (fun k => wpE G z b δ1 k E) δ1 fun y δ2 =>
      (match dat δ2 x, dat δ2 y with
      | some d, some e => cop o d e fun r => if r = true then arg (asVar c) (fun k => wpE G z c δ2 k E) δ2 fun z δ3 =>
          (match dat δ3 y, dat δ3 z with | some e', some g => cop p e' g fun r' => K (.bool r') false δ3 | _, _ => False)
        else K (.bool false) false δ2
      | _, _ => False)
  | z, .and a b, δ, K, E => wpE G z a δ (fun d _ δ1 => match d with | .bool c => if c = true then wpE G z b δ1 K E else K (.bool false) false δ1 | _ => False) E
  | z, .or a b, δ, K, E => wpE G z a δ (fun d _ δ1 => match d with | .bool c => if c = true then K (.bool true) false δ1 else wpE G z b δ1 K E | _ => False) E
  | z, .one a, δ, K, E => wpE G z a δ K E
  | z, .not a, δ, K, E => wpE G z a δ (fun d _ δ1 => match d with | .bool c => K (.bool (!c)) false δ1 | _ => False) E
  | z, .ite c a b, δ, K, E => wpT G z c δ (fun r δ1 => if r = true then wpE G z a δ1 (fun d _ δ2 => K d false δ2) E else wpE G z b δ1 (fun d _ δ2 => K d false δ2) E) E
  | z, .tup as, δ, K, E => wpVs G z as δ (fun ds δ1 => ds.length ≤ 1000000 ∧ K (.tuple ds) false δ1) E
  | z, .lst as, δ, K, E => wpVs G z as δ (fun ds δ1 => ds.length ≤ 1000000 ∧ K (.list ds) true δ1) E
  | z, .sub a b, δ, K, E => arg (asVar a) (fun k => wpE G z a δ k E) δ fun x δ1 => arg (asVar b) (fun k => wpE G z b δ1 k E) δ1 fun y δ2 =>
      (match dat δ2 x, dat δ2 y with | some d, some e => sbs d e fun r => K r false δ2 | _, _ => False)
  | z, .slc a lo hi, δ, K, E => arg (asVar a) (fun k => wpE G z a δ k E) δ fun x δ1 => wpO G z lo δ1 (fun l δ2 => wpO G z hi δ2 (fun h δ3 =>
      match dat δ3 x with | some d => slcd d l h fun r f => K r f δ3 | none => False) E) E
  | z, .blt f as, δ, K, E => wpAs G z as δ (fun xs δ1 => onS (dats δ1 xs) fun ds => blt f ds fun r fr => K r fr δ1) E
  | z, .isi a t, δ, K, E => arg (asVar a) (fun k => wpE G z a δ k E) δ fun x δ1 => (match dat δ1 x with | some d => isScr d = false ∧ K (.bool (isT d t)) false δ1 | none => False)
  | z, .call f as, δ, K, E => wpAs G z as δ (fun xs δ1 => onS G.fs[f]? fun fi => callK z fi xs δ1 K E) E
  | z, .ct f g as bs, δ, K, E => wpAs G z as δ (fun xs δ1 => onS G.fs[g]? fun gi => callK z gi xs δ1 (fun d fr δ2 => fr = true ∧
      wpAs G true bs δ2 (fun ys δ3 => onS G.fs[f]? fun fi => callK z fi (.ref δ3.length :: ys) (δ3 ++ [some (d, .own)])
        (fun r fr2 δ4 => flB δ4 (δ3 ++ [some (d, .own)]) = true ∧ K r fr2 δ4.dropLast)
        (fun x δ4 => flB δ4 (δ3 ++ [some (d, .own)]) = true ∧ E x δ4.dropLast)) E) E) E
  | z, .pop i, δ, K, _ => (match look δ i with
    | some (.list ds, f) => f ≠ .fro ∧ onS ds[ds.length - 1]? fun d => K d false (putAt δ i (some (.list ds.dropLast, f)))
    | _ => False)
  | z, .lc e tg it c own, δ, K, E => wpI G z it δ (fun items src δ1 =>
      (own.all (fun i => !isOwn (look δ1 i)) && (match src with | some j => !own.contains j | none => true)) = true ∧
      lcL src items own (bindT tg) (fun δ2 k => wpC G true c δ2 k) (fun δ2 k => wpE G true e δ2 (fun d _ δ3 => k d δ3) fun _ _ => False)
        (fun acc δ2 => K (.list acc) true (unwipe δ1 δ2 own)) items [] (wipeD δ1 own)) E
def wpVs (G : Gd) : Bool → Exs → Dl → (List D → Dl → Prop) → XD → Prop
  | z, .nil, δ, k, _ => k [] δ
  | z, .cons e r, δ, k, E => wpE G z e δ (fun d _ δ1 => wpVs G z r δ1 (fun ds δ2 => k (d :: ds) δ2) E) E
def wpAs (G : Gd) : Bool → Exs → Dl → (List Ar → Dl → Prop) → XD → Prop
  | z, .nil, δ, k, _ => k [] δ
  | z, .cons e r, δ, k, E => arg (asVar e) (fun k => wpE G z e δ k E) δ fun x δ1 => wpAs G z r δ1 (fun xs δ2 => k (x :: xs) δ2) E
def wpO (G : Gd) : Bool → Ox → Dl → (Option Int → Dl → Prop) → XD → Prop
  | z, .no, δ, k, _ => k none δ
  | z, .so e, δ, k, E => wpE G z e δ (fun d _ δ1 => match d with | .int i => k (some i) δ1 | _ => False) E
/-- a comprehension's test: nothing is raised there -/
def wpC (G : Gd) : Bool → Ox → Dl → (Bool → Dl → Prop) → Prop
  | z, .no, δ, k => k true δ
  | z, .so e, δ, k => wpT G z e δ k fun _ _ => False
def wpT (G : Gd) : Bool → Ex → Dl → (Bool → Dl → Prop) → XD → Prop
  | z, .and a b, δ, k, E => wpT G z a δ (fun c δ1 => if c = true then wpT G z b δ1 k E else k false δ1) E
  | z, .or a b, δ, k, E => wpT G z a δ (fun c δ1 => if c = true then k true δ1 else wpT G z b δ1 k E) E
  | z, .one a, δ, k, E => wpT G z a δ k E
  | z, .not a, δ, k, E => wpT G z a δ (fun c δ1 => k (!c) δ1) E
  | z, .var i, δ, k, _ => (match look δ i with | some (d, _) => truK d fun b => k b δ | none => False)
  | z, .int n, δ, k, _ => k (n != 0) δ
  | z, .bl b, δ, k, _ => k b δ
  | z, .cmp o a b, δ, K, E => arg (asVar a) (fun k => wpE G z a δ k E) δ fun x δ1 => arg (asVar b) (fun k => wpE G z b δ1 k E) δ1 fun y δ2 =>
      (match dat δ2 x, dat δ2 y with | some d, some e => cop o d e fun r => K r δ2 | _, _ => False)
  | z, .cmp2 o p a b c, δ, K, E => arg (asVar a) (fun k => wpE G z a δ k E) δ fun x δ1 => arg (asVar b) (fun k => wpE G z b δ1 k E) δ1 fun y δ2 =>
      (match dat δ2 x, dat δ2 y with
      | some d, some e => cop o d e fun r => if r = true then arg (asVar c) (fun k => wpE G z c δ2 k E) δ2 fun z δ3 =>
          (match dat δ3 y, dat δ3 z with | some e', some g => cop p e' g fun r' => K r' δ3 | _, _ => False)
        else K false δ2
      | _, _ => False)
  | z, .blt f as, δ, k, E => wpAs G z as δ (fun xs δ1 => onS (dats δ1 xs) fun ds => blt f ds fun r _ => truK r fun b => k b δ1) E
  | z, .isi a t, δ, K, E => arg (asVar a) (fun k => wpE G z a δ k E) δ fun x δ1 => (match dat δ1 x with | some d => isScr d = false ∧ K (isT d t) δ1 | none => False)
  | z, .call f as, δ, k, E => wpAs G z as δ (fun xs δ1 => onS G.fs[f]? fun fi => callK z fi xs δ1 (fun r _ δ2 => truK r fun b => k b δ2) E) E
  | _, _, _, _, _ => False
def wpI (G : Gd) : Bool → Ti → Dl → (List D → Option Nat → Dl → Prop) → XD → Prop
  | z, .seq a, δ, k, E => arg (asVar a) (fun k => wpE G z a δ k E) δ fun x δ1 => (match dat δ1 x with
    | some d => onS (itemsOf d) fun xs => k xs (srcOf δ1 x) δ1
    | none => False)
  | z, .rng1 a, δ, k, E => wpE G z a δ (fun d _ δ1 => match d with | .int i => okRng i ∧ k (rngD 0 i.toNat) none δ1 | _ => False) E
  | z, .rng2 a b, δ, k, E => wpE G z a δ (fun d _ δ1 => wpE G z b δ1 (fun e _ δ2 => match d, e with | .int i, .int j => (okRng i ∧ okRng j) ∧ k (rngD i (j - i).toNat) none δ2 | _, _ => False) E) E
  | z, .zip a b, δ, k, E => wpE G z a δ (fun d _ δ1 => wpE G z b δ1 (fun e _ δ2 => match d, e with
    | .list xs, .list ys => k (zipD xs ys) none δ2
    | .tuple xs, .tuple ys => k (zipD xs ys) none δ2
    | _, _ => False) E) E
  | z, .rev a, δ, k, E => wpE G z a δ (fun d _ δ1 => match d with
    | .list xs => k xs.reverse none δ1
    | .tuple xs => k xs.reverse none δ1
    | _ => False) E
end

/-- what is wanted behind a statement -/
structure DE where
  nx : Dl → Prop
  rt : D → Bool → Dl → Prop
  bk : Dl → Prop
  ct : Dl → Prop
  ex : XD
def loopN (cond : Dl → (Bool → Dl → Prop) → Prop) (body : Dl → DE → Prop) (E : DE) : Nat → Dl → Prop
  | 0, _ => False
  | n + 1, δ => cond δ fun b δ1 => if b = true then body δ1 { E with nx := loopN cond body E n, ct := loopN cond body E n, bk := E.nx } else E.nx δ1
def forL (bnd : D → Dl → (Dl → Prop) → Prop) (body : Dl → DE → Prop) (E : DE) : List D → Dl → Prop
  | [], δ => E.nx δ
  | x :: r, δ => bnd x δ fun δ1 => body δ1 { E with nx := forL bnd body E r, ct := forL bnd body E r, bk := E.nx }
/-- a name whose list is the frame's own, or lent -/
def ownL (δ : Dl) (i : Nat) : Prop := match look δ i with
  | some (.list _, .own) => True
  | some (.list _, .lent) => True
  | _ => False
def augK (o : BOp) (x : Int) (d : D) (k : Int → Prop) : Prop := match o, d with
  | .add, .int y => k (x + y)
  | .sub, .int y => k (x - y)
  | _, _ => False
def frzSrc (src : Option Nat) (δ : Dl) (k : Dl → Prop) : Prop := match src with
  | none => k δ
  | some j => isLent (look δ j) = false ∧ k (putAt δ j (frz (look δ j)))
mutual
def wpS (G : Gd) : Cm → Dl → DE → Prop
  | .exp e, δ, E => wpE G false e δ (fun _ _ δ1 => E.nx δ1) E.ex
  | .app i e, δ, E => ownL δ i ∧ wpE G false e δ (fun d _ δ1 => match look δ1 i with
    | some (.list ds, f) => (f ≠ .fro ∧ ds.length < 1000000) ∧ E.nx (putAt δ1 i (some (.list (ds ++ [d]), f)))
    | _ => False) E.ex
  | .ext i e, δ, E => ownL δ i ∧ wpE G false e δ (fun d _ δ1 => match look δ1 i, d with
    | some (.list ds, f), .list es => (f ≠ .fro ∧ ds.length + es.length ≤ 1000000) ∧ E.nx (putAt δ1 i (some (.list (ds ++ es), f)))
    | _, _ => False) E.ex
  | .set i e, δ, E => wpE G false e δ (fun d fr δ1 => setK i (d, flOf d fr) δ1 E.nx) E.ex
  | .unp is e, δ, E => wpE G false e δ (fun d _ δ1 => bindT (.many is) d δ1 E.nx) E.ex
  | .par i j a b, δ, E => wpE G false a δ (fun d _ δ1 => wpE G false b δ1 (fun e _ δ2 => setK i (d, .fro) δ2 fun δ3 => setK j (e, .fro) δ3 E.nx) E.ex) E.ex
  | .sub i k e, δ, E => ownL δ i ∧ wpE G false e δ (fun d _ δ1 => wpE G false k δ1 (fun x _ δ2 => match look δ2 i, x with
    | some (.list ds, f), .int n => f ≠ .fro ∧ onS (ixN ds.length n) fun j => E.nx (putAt δ2 i (some (.list (ds.set j d), f)))
    | _, _ => False) E.ex) E.ex
  | .aug o i e, δ, E => (match look δ i with
    | some (.int x, .fro) => wpE G false e δ (fun d _ δ1 => augK o x d fun z => setK i (.int z, .fro) δ1 E.nx) E.ex
    | _ => False)
  | .iff c a b, δ, E => wpT G false c δ (fun r δ1 => if r = true then wpSs G a δ1 E else wpSs G b δ1 E) E.ex
  | .whl c b, δ, E => ∃ n, loopN (fun δ1 k => wpT G false c δ1 k E.ex) (fun δ1 E1 => wpSs G b δ1 E1) E n δ
  | .for tg it b, δ, E => wpI G false it δ (fun items src δ1 => frzSrc src δ1 fun δ2 => forL (bindT tg) (fun δ3 E1 => wpSs G b δ3 E1) E items δ2) E.ex
  | .ret e, δ, E => (match asVar e with
    | some i => (match look δ i with | some (d, .own) => E.rt d true (putAt δ i none) | some (d, .fro) => E.rt d false δ | _ => False)
    | none => wpE G false e δ (fun d fr δ1 => E.rt d fr δ1) E.ex)
  | .retN, δ, E => E.rt .none false δ
  | .pas, δ, E => E.nx δ
  | .brk, δ, E => E.bk δ
  | .cnt, δ, E => E.ct δ
  | .rse c, δ, E => E.ex ⟨c, []⟩ δ
def wpSs (G : Gd) : Cms → Dl → DE → Prop
  | .nil, δ, E => E.nx δ
  | .cons s r, δ, E => wpS G s δ { E with nx := fun δ1 => wpSs G r δ1 E }
end
end Mi
set_option Elab.async false
set_option linter.all false
set_option maxRecDepth 100000
namespace Mi
open PySem L2 PyProof.Rows

/-! ### 4. slots, stores -/
theorem look_put_same : ∀ (δ : Dl) (i : Nat) (x : Sl), i < δ.length → look (putAt δ i x) i = x
  | [], i, x, h => by simp at h
  | y :: r, 0, x, _ => rfl
  | y :: r, n + 1, x, h => by
    show look (putAt r n x) n = x
    exact look_put_same r n x (by simpa using h)
theorem look_put_ne : ∀ (δ : Dl) (i j : Nat) (x : Sl), j ≠ i → look (putAt δ i x) j = look δ j
  | [], i, j, x, h => rfl
  | y :: r, 0, 0, x, h => absurd rfl h
  | y :: r, 0, j + 1, x, _ => rfl
  | y :: r, n + 1, 0, x, _ => rfl
  | y :: r, n + 1, j + 1, x, h => by
    show look (putAt r n x) j = look r j
    exact look_put_ne r n j x (fun e => h (by rw [e]))
theorem put_len : ∀ (δ : Dl) (i : Nat) (x : Sl), (putAt δ i x).length = δ.length
  | [], _, _ => rfl
  | y :: r, 0, x => rfl
  | y :: r, n + 1, x => by simp [putAt, put_len r n x]
theorem look_lt : ∀ {δ : Dl} {i : Nat} {x : D × Fl}, look δ i = some x → i < δ.length
  | [], i, x, h => by simp [look] at h
  | y :: r, 0, x, h => by simp
  | y :: r, n + 1, x, h => by
    have := look_lt (δ := r) (i := n) (x := x) h
    simpa using this
theorem look_put {δ : Dl} {i j : Nat} {x : Sl} {y : D × Fl} (h : look (putAt δ i x) j = some y) : (j = i ∧ x = some y ∧ i < δ.length) ∨ (j ≠ i ∧ look δ j = some y) := by
  have hl := look_lt h
  rw [put_len] at hl
  by_cases e : j = i
  · subst e
    rw [look_put_same _ _ _ hl] at h
    exact .inl ⟨rfl, h, hl⟩
  · rw [look_put_ne _ _ _ _ e] at h
    exact .inr ⟨e, h⟩

abbrev Frag := PySem.W.Frag
abbrev Sv := L2.St

/-- a is the frame's own, by some slot -/
def Owned (δ : Dl) (σ : Sv) (a : Addr) : Prop := ∃ i d f, look δ i = some (d, f) ∧ f ≠ .fro ∧ σ[i]? = some (some (.ref a))
/-- the frame's data slots δ stand in its slots σ: F is what is never changed again, H the heap -/
structure Rep (K : Frag) (Z : Addr → Prop) (δ : Dl) (σ : Sv) (F H : Hp) : Prop where
  len : σ.length = δ.length
  sub : Same F H
  fro : ∀ i d, look δ i = some (d, .fro) → ∃ v, σ[i]? = some (some v) ∧ Rp K F v d
  own : ∀ i d f, look δ i = some (d, f) → f ≠ .fro → ∃ a xs ds, d = .list ds ∧ σ[i]? = some (some (.ref a)) ∧ F a = none ∧ H a = some (.lst xs) ∧ RpA K F xs ds
  inj : ∀ i j d e f g a, look δ i = some (d, f) → f ≠ .fro → look δ j = some (e, g) → g ≠ .fro → σ[i]? = some (some (.ref a)) → σ[j]? = some (some (.ref a)) → i = j
  zz : ∀ b, Z b → F b = none ∧ (∃ xs, H b = some (.lst xs)) ∧ ¬ Owned δ σ b
/-- a result -/
def RRep (K : Frag) (Z : Addr → Prop) (δ : Dl) (σ : Sv) (F H : Hp) (v : V) (d : D) (fr : Bool) : Prop :=
  if fr = true then ∃ p xs ds, v = .ref p ∧ d = .list ds ∧ F p = none ∧ H p = some (.lst xs) ∧ RpA K F xs ds ∧ ¬ Owned δ σ p ∧ ¬ Z p
  else Rp K F v d
/-- what an expression leaves as it was -/
structure Ext (δ δ' : Dl) (σ : Sv) (F F' H H' : Hp) : Prop where
  sub : Same F F'
  own : ∀ a, Owned δ' σ a → Owned δ σ a
  frm : ∀ b o, H b = some o → ¬ Owned δ σ b → H' b = some o
  lnt : ∀ i d, look δ i = some (d, .lent) → ∃ d', look δ' i = some (d', .lent)
theorem Ext.refl {δ : Dl} {σ : Sv} {F H : Hp} : Ext δ δ σ F F H H := ⟨Same.refl _, fun _ h => h, fun _ _ h _ => h, fun _ d h => ⟨d, h⟩⟩
theorem Ext.trans {δ δ1 δ2 : Dl} {σ : Sv} {F F1 F2 H H1 H2 : Hp} (a : Ext δ δ1 σ F F1 H H1) (b : Ext δ1 δ2 σ F1 F2 H1 H2) : Ext δ δ2 σ F F2 H H2 :=
  ⟨a.sub.trans b.sub, fun x h => a.own x (b.own x h), fun c o h n => b.frm c o (a.frm c o h n) fun q => n (a.own c q), fun i d h => by
    obtain ⟨d', h'⟩ := a.lnt i d h
    exact b.lnt i d' h'⟩
section
variable {K : Frag} {Z : Addr → Prop} {δ : Dl} {σ : Sv} {F H H' F' : Hp}
theorem Rep.not_own (R : Rep K Z δ σ F H) {a : Addr} {o : HO} (h : F a = some o) : ¬ Owned δ σ a := fun ⟨i, d, f, h1, h2, h3⟩ => by
  obtain ⟨a', xs, ds, _, q, z, _⟩ := R.own i d f h1 h2
  rw [h3] at q; cases q
  rw [h] at z; cases z
theorem Owned.there (R : Rep K Z δ σ F H) {a : Addr} (h : Owned δ σ a) : F a = none ∧ ∃ xs, H a = some (.lst xs) := by
  obtain ⟨i, d, f, h1, h2, h3⟩ := h
  obtain ⟨a', xs, ds, _, q, z, y, _⟩ := R.own i d f h1 h2
  rw [h3] at q; cases q
  exact ⟨z, xs, y⟩
theorem Rep.new_not (R : Rep K Z δ σ F H) {a : Addr} (h : H a = none) : ¬ Owned δ σ a := fun q => by
  obtain ⟨_, xs, e⟩ := q.there R
  rw [h] at e; cases e
/-- the heap grows; what is never changed grows with it -/
theorem Rep.grow (R : Rep K Z δ σ F H) (s : Same H H') (sf : Same F F') (sub : Same F' H') (ok : ∀ a, Owned δ σ a → F' a = none) (zk : ∀ b, Z b → F' b = none) : Rep K Z δ σ F' H' where
  len := R.len
  sub := sub
  fro := fun i d h => by
    obtain ⟨v, e, r⟩ := R.fro i d h
    exact ⟨v, e, r.mono sf⟩
  own := fun i d f h hf => by
    obtain ⟨a, xs, ds, e1, e2, e3, e4, r⟩ := R.own i d f h hf
    exact ⟨a, xs, ds, e1, e2, ok a ⟨i, d, f, h, hf, e2⟩, s _ _ e4, r.mono sf⟩
  inj := R.inj
  zz := fun b z => by
    obtain ⟨_, ⟨xs, e⟩, n⟩ := R.zz b z
    exact ⟨zk b z, ⟨xs, s _ _ e⟩, n⟩
/-- a new thing that is never changed again -/
theorem Rep.new (R : Rep K Z δ σ F H) {p : Addr} {o : HO} (h : H p = none) : Rep K Z δ σ (upd F p o) (upd H p o) :=
  R.grow (same_new h) (same_new (R.sub.free h)) (fun b u e => by
    by_cases hb : b = p
    · subst hb; rw [upd_same] at e ⊢; exact e
    · rw [upd_ne hb] at e ⊢; exact R.sub b u e) (fun a q => by
    rw [upd_ne (by rintro rfl; exact R.new_not h q)]
    exact (q.there R).1) fun b z => by
    obtain ⟨n, ⟨xs, e⟩, _⟩ := R.zz b z
    rw [upd_ne (by rintro rfl; rw [h] at e; cases e)]
    exact n
/-- a new thing that is still whoever's -/
theorem Rep.newO (R : Rep K Z δ σ F H) {p : Addr} {o : HO} (h : H p = none) : Rep K Z δ σ F (upd H p o) :=
  R.grow (same_new h) (Same.refl _) (R.sub.trans (same_new h)) (fun a q => (q.there R).1) fun b z => (R.zz b z).1
theorem Ext.new (R : Rep K Z δ σ F H) {p : Addr} {o : HO} (h : H p = none) : Ext δ δ σ F (upd F p o) H (upd H p o) :=
  ⟨same_new (R.sub.free h), fun _ q => q, fun b u e _ => same_new h b u e, fun _ d h => ⟨d, h⟩⟩
theorem Ext.newO (R : Rep K Z δ σ F H) {p : Addr} {o : HO} (h : H p = none) : Ext δ δ σ F F H (upd H p o) :=
  ⟨Same.refl _, fun _ q => q, fun b u e _ => same_new h b u e, fun _ d h => ⟨d, h⟩⟩
/-- a result that nobody changes any more -/
theorem RRep.frz (R : Rep K Z δ σ F H) {v : V} {d : D} {fr : Bool} (r : RRep K Z δ σ F H v d fr) : ∃ F', Ext δ δ σ F F' H H ∧ Rep K Z δ σ F' H ∧ Rp K F' v d := by
  cases fr with
  | false => exact ⟨F, Ext.refl, R, r⟩
  | true =>
    obtain ⟨p, xs, ds, rfl, rfl, h1, h2, h3, h4, h5⟩ := r
    have sf : Same F (upd F p (.lst xs)) := same_new h1
    refine ⟨upd F p (.lst xs), ⟨sf, fun _ q => q, fun _ _ e _ => e, fun _ d h => ⟨d, h⟩⟩, R.grow (Same.refl _) sf (fun b u e => ?_) (fun a q => ?_) (fun b z => by rw [upd_ne (by rintro rfl; exact h5 z)]; exact (R.zz b z).1), .lst upd_same (h3.mono sf)⟩
    · by_cases hb : b = p
      · subst hb; rw [upd_same] at e; cases e; exact h2
      · rw [upd_ne hb] at e; exact R.sub b u e
    · rw [upd_ne (by rintro rfl; exact h4 q)]
      exact (q.there R).1
/-- a name's list becomes anybody's -/
theorem Rep.frzAt (R : Rep K Z δ σ F H) {i : Nat} {d : D} (h : look δ i = some (d, .own)) : ∃ F' v, σ[i]? = some (some v) ∧ Rp K F' v d ∧ Rep K Z (putAt δ i (some (d, .fro))) σ F' H ∧ Ext δ (putAt δ i (some (d, .fro))) σ F F' H H := by
  obtain ⟨a, xs, ds, rfl, e2, e3, e4, r⟩ := R.own i d .own h (by decide)
  have sf : Same F (upd F a (.lst xs)) := same_new e3
  have old : ∀ j e g, look (putAt δ i (some (.list ds, .fro))) j = some (e, g) → g ≠ .fro → j ≠ i ∧ look δ j = some (e, g) := fun j e g q hg => by
    rcases look_put q with ⟨rfl, z, _⟩ | z
    · cases z; exact absurd rfl hg
    · exact z
  have rp : Rp K (upd F a (.lst xs)) (.ref a) (.list ds) := .lst upd_same (r.mono sf)
  refine ⟨upd F a (.lst xs), .ref a, e2, rp, ⟨by rw [put_len]; exact R.len, fun b u e => ?_, fun j e q => ?_, fun j e g q hg => ?_, fun j k e1 e2' g1 g2 b q1 hg1 q2 hg2 s1 s2 => ?_, fun b z => ?_⟩, ⟨sf, fun b ⟨j, e, g, q, hg, s⟩ => ?_, fun _ _ e _ => e, fun j e q => ⟨e, by
    by_cases hj : j = i
    · subst hj; rw [h] at q; cases q
    · rw [look_put_ne _ _ _ _ hj]; exact q⟩⟩⟩
  · by_cases hb : b = a
    · subst hb; rw [upd_same] at e; cases e; exact e4
    · rw [upd_ne hb] at e; exact R.sub b u e
  · rcases look_put q with ⟨rfl, z, _⟩ | ⟨_, z⟩
    · cases z; exact ⟨_, e2, rp⟩
    · obtain ⟨v, e', r'⟩ := R.fro j e z
      exact ⟨v, e', r'.mono sf⟩
  · obtain ⟨hj, z⟩ := old j e g q hg
    obtain ⟨b, ys, es, w1, w2, w3, w4, w5⟩ := R.own j e g z hg
    have hb : b ≠ a := by
      rintro rfl
      exact hj (R.inj j i e _ g .own b z hg h (by decide) w2 e2)
    exact ⟨b, ys, es, w1, w2, by rw [upd_ne hb]; exact w3, w4, w5.mono sf⟩
  · exact R.inj j k e1 e2' g1 g2 b (old j e1 g1 q1 hg1).2 hg1 (old k e2' g2 q2 hg2).2 hg2 s1 s2
  · obtain ⟨n, t, nn⟩ := R.zz b z
    exact ⟨by rw [upd_ne (by rintro rfl; exact nn ⟨i, _, .own, h, by decide, e2⟩)]; exact n, t, fun ⟨j, e, g, q, hg, s⟩ => nn ⟨j, e, g, (old j e g q hg).2, hg, s⟩⟩
  · exact ⟨j, e, g, (old j e g q hg).2, hg, s⟩
/-- a slot's new data: the list at its address is changed -/
theorem Rep.write (R : Rep K Z δ σ F H) {i : Nat} {ds es : List D} {f : Fl} {a : Addr} {ys : List V} (h : look δ i = some (.list ds, f)) (hf : f ≠ .fro) (ha : σ[i]? = some (some (.ref a))) (r : RpA K F ys es) :
    Rep K Z (putAt δ i (some (.list es, f))) σ F (upd H a (.lst ys)) ∧ Ext δ (putAt δ i (some (.list es, f))) σ F F H (upd H a (.lst ys)) := by
  obtain ⟨a', xs, ds', _, e2, e3, e4, _⟩ := R.own i _ f h hf
  rw [ha] at e2; cases e2
  have old : ∀ j e g, look (putAt δ i (some (.list es, f))) j = some (e, g) → ∃ e', look δ j = some (e', g) := fun j e g q => by
    rcases look_put q with ⟨rfl, z, _⟩ | ⟨_, z⟩
    · cases z; exact ⟨_, h⟩
    · exact ⟨_, z⟩
  refine ⟨⟨by rw [put_len]; exact R.len, fun b u e => ?_, fun j e q => ?_, fun j e g q hg => ?_, fun j k e1 e2' g1 g2 b q1 hg1 q2 hg2 s1 s2 => ?_, fun b z => ?_⟩, ⟨Same.refl _, fun b ⟨j, e, g, q, hg, s⟩ => ?_, fun b o e n => ?_, fun j e q => by
    by_cases hj : j = i
    · subst hj; rw [h] at q; cases q
      exact ⟨_, look_put_same _ _ _ (look_lt h)⟩
    · exact ⟨e, by rw [look_put_ne _ _ _ _ hj]; exact q⟩⟩⟩
  · rw [upd_ne (by rintro rfl; rw [e3] at e; cases e)]; exact R.sub b u e
  · rcases look_put q with ⟨rfl, z, _⟩ | ⟨_, z⟩
    · cases z; exact absurd rfl hf
    · exact R.fro j e z
  · rcases look_put q with ⟨rfl, z, _⟩ | ⟨hj, z⟩
    · cases z; exact ⟨a, ys, es, rfl, ha, e3, upd_same, r⟩
    · obtain ⟨b, zs, es', w1, w2, w3, w4, w5⟩ := R.own j e g z hg
      have hb : b ≠ a := by
        rintro rfl
        exact hj (R.inj j i e _ g f b z hg h hf w2 ha)
      exact ⟨b, zs, es', w1, w2, w3, by rw [upd_ne hb]; exact w4, w5⟩
  · obtain ⟨x, q1'⟩ := old j e1 g1 q1
    obtain ⟨y, q2'⟩ := old k e2' g2 q2
    exact R.inj j k x y g1 g2 b q1' hg1 q2' hg2 s1 s2
  · obtain ⟨n, ⟨zs, t⟩, nn⟩ := R.zz b z
    refine ⟨n, ⟨zs, by rw [upd_ne (by rintro rfl; exact nn ⟨i, _, f, h, hf, ha⟩)]; exact t⟩, fun ⟨j, e, g, q, hg, s⟩ => ?_⟩
    obtain ⟨x, q'⟩ := old j e g q
    exact nn ⟨j, x, g, q', hg, s⟩
  · obtain ⟨x, q'⟩ := old j e g q
    exact ⟨j, x, g, q', hg, s⟩
  · rw [upd_ne (by rintro rfl; exact n ⟨i, _, f, h, hf, ha⟩)]; exact e
/-- a name gets a new value -/
theorem Rep.set (R : Rep K Z δ σ F H) {i : Nat} {d : D} {fr : Bool} {v : V} (hi : i < σ.length) (r : RRep K Z δ σ F H v d fr) : Rep K Z (putAt δ i (some (d, flOf d fr))) (σ.set i (some v)) F H := by
  have hl : i < δ.length := by rw [← R.len]; exact hi
  have hs : ∀ j, j ≠ i → (σ.set i (some v))[j]? = σ[j]? := fun j hj => by rw [List.getElem?_set]; rw [if_neg (Ne.symm hj)]
  have hs' : (σ.set i (some v))[i]? = some (some v) := by rw [List.getElem?_set]; simp [hi]
  cases fr with
  | false =>
    have hfl : flOf d false = .fro := rfl
    rw [hfl]
    refine ⟨by rw [put_len, List.length_set]; exact R.len, R.sub, fun j e q => ?_, fun j e g q hg => ?_, fun j k e1 e2 g1 g2 b q1 hg1 q2 hg2 s1 s2 => ?_, fun b z => ?_⟩
    · rcases look_put q with ⟨rfl, z, _⟩ | ⟨hj, z⟩
      · cases z; exact ⟨v, hs', r⟩
      · obtain ⟨u, e', r'⟩ := R.fro j e z
        exact ⟨u, by rw [hs j hj]; exact e', r'⟩
    · rcases look_put q with ⟨rfl, z, _⟩ | ⟨hj, z⟩
      · cases z; exact absurd rfl hg
      · obtain ⟨b, ys, es, w1, w2, w⟩ := R.own j e g z hg
        exact ⟨b, ys, es, w1, by rw [hs j hj]; exact w2, w⟩
    · rcases look_put q1 with ⟨rfl, z, _⟩ | ⟨hj, z1⟩
      · cases z; exact absurd rfl hg1
      rcases look_put q2 with ⟨rfl, z, _⟩ | ⟨hk, z2⟩
      · cases z; exact absurd rfl hg2
      rw [hs _ hj] at s1
      rw [hs _ hk] at s2
      exact R.inj j k e1 e2 g1 g2 b z1 hg1 z2 hg2 s1 s2
    · obtain ⟨n, t, nn⟩ := R.zz b z
      refine ⟨n, t, fun ⟨j, e, g, q, hg, s⟩ => ?_⟩
      rcases look_put q with ⟨rfl, z, _⟩ | ⟨hj, z⟩
      · cases z; exact hg rfl
      · rw [hs _ hj] at s
        exact nn ⟨j, e, g, z, hg, s⟩
  | true =>
    obtain ⟨p, xs, ds, rfl, rfl, h1, h2, h3, h4, h5⟩ := r
    have hfl : flOf (.list ds) true = .own := rfl
    rw [hfl]
    refine ⟨by rw [put_len, List.length_set]; exact R.len, R.sub, fun j e q => ?_, fun j e g q hg => ?_, fun j k e1 e2 g1 g2 b q1 hg1 q2 hg2 s1 s2 => ?_, fun b z => ?_⟩
    · rcases look_put q with ⟨rfl, z, _⟩ | ⟨hj, z⟩
      · cases z
      · obtain ⟨u, e', r'⟩ := R.fro j e z
        exact ⟨u, by rw [hs j hj]; exact e', r'⟩
    · rcases look_put q with ⟨rfl, z, _⟩ | ⟨hj, z⟩
      · cases z; exact ⟨p, xs, ds, rfl, hs', h1, h2, h3⟩
      · obtain ⟨b, ys, es, w1, w2, w⟩ := R.own j e g z hg
        exact ⟨b, ys, es, w1, by rw [hs j hj]; exact w2, w⟩
    · rcases look_put q1 with ⟨rfl, z, _⟩ | ⟨hj, z1⟩
      · rcases look_put q2 with ⟨rfl, z', _⟩ | ⟨hk, z2⟩
        · rfl
        · rw [hs'] at s1; cases s1
          rw [hs _ hk] at s2
          exact absurd ⟨k, e2, g2, z2, hg2, s2⟩ h4
      · rcases look_put q2 with ⟨rfl, z', _⟩ | ⟨hk, z2⟩
        · rw [hs'] at s2; cases s2
          rw [hs _ hj] at s1
          exact absurd ⟨j, e1, g1, z1, hg1, s1⟩ h4
        · rw [hs _ hj] at s1
          rw [hs _ hk] at s2
          exact R.inj j k e1 e2 g1 g2 b z1 hg1 z2 hg2 s1 s2
    · obtain ⟨n, t, nn⟩ := R.zz b z
      refine ⟨n, t, fun ⟨j, e, g, q, hg, s⟩ => ?_⟩
      rcases look_put q with ⟨rfl, w, _⟩ | ⟨hj, w⟩
      · rw [hs'] at s; cases s
        exact h5 z
      · rw [hs _ hj] at s
        exact nn ⟨j, e, g, w, hg, s⟩
/-- a name is forgotten -/
theorem Rep.drop (R : Rep K Z δ σ F H) (i : Nat) : Rep K Z (putAt δ i none) σ F H := by
  have old : ∀ j x, look (putAt δ i none) j = some x → look δ j = some x := fun j x q => by
    rcases look_put q with ⟨rfl, z, _⟩ | ⟨_, z⟩
    · cases z
    · exact z
  exact ⟨by rw [put_len]; exact R.len, R.sub, fun j e q => R.fro j e (old _ _ q), fun j e g q hg => R.own j e g (old _ _ q) hg, fun j k e1 e2 g1 g2 b q1 hg1 q2 hg2 s1 s2 => R.inj j k e1 e2 g1 g2 b (old _ _ q1) hg1 (old _ _ q2) hg2 s1 s2, fun b z => by
    obtain ⟨n, t, nn⟩ := R.zz b z
    exact ⟨n, t, fun ⟨j, e, g, q, hg, s⟩ => nn ⟨j, e, g, old _ _ q, hg, s⟩⟩⟩
end
end Mi
set_option Elab.async false
set_option linter.all false
set_option maxRecDepth 100000
namespace Mi
open PySem L2 PyProof.Rows

/-! ### 5. the promise of a def over data -/
def Args (K : Frag) (F H : Hp) : List Bool → List V → List D → Prop
  | false :: ls, v :: vs, d :: ds => Rp K F v d ∧ Args K F H ls vs ds
  | true :: ls, v :: vs, d :: ds => (∃ a xs es, v = .ref a ∧ d = .list es ∧ F a = none ∧ H a = some (.lst xs) ∧ RpA K F xs es) ∧ Args K F H ls vs ds
  | [], [], [] => True
  | _, _, _ => False
def Outs (K : Frag) (F H : Hp) : List Bool → List V → List D → Prop
  | false :: ls, _ :: vs, _ :: ds => Outs K F H ls vs ds
  | true :: ls, v :: vs, d :: ds => (∃ a xs es, v = .ref a ∧ d = .list es ∧ F a = none ∧ H a = some (.lst xs) ∧ RpA K F xs es) ∧ Outs K F H ls vs ds
  | [], [], [] => True
  | _, _, _ => False
def lentVs : List Bool → List V → List V
  | true :: ls, v :: vs => v :: lentVs ls vs
  | _ :: ls, _ :: vs => lentVs ls vs
  | _, _ => []
def Res (K : Frag) (H F' H' : Hp) (v : V) (r : D) (fresh : Bool) : Prop :=
  if fresh = true then ∃ p xs es, v = .ref p ∧ r = .list es ∧ H p = none ∧ F' p = none ∧ H' p = some (.lst xs) ∧ RpA K F' xs es else Rp K F' v r
/-- an exception as it stands -/
def XRep (mg : Str → Option Value) (xs : List Str) (x : Xn) (cls : Value) (dx : Option Addr) (H : Hp) : Prop :=
  ∃ (nm : Str) (C : Addr), xs[x.cls]? = some nm ∧ mg nm = some (.ref C) ∧ cls = .ref C ∧ x.args = [] ∧ dx = none
def spD (K : Frag) (mg : Str → Option Value) (xs : List Str) (fi : FI) : Sp := fun vs H Q E => ∃ (ds : List D) (Qd : D → List D → Prop) (Ed : Xn → List D → Prop) (F : Hp),
  vs.length = fi.ps.length ∧ Same F H ∧ (∀ b, F b = none → H b ≠ none → V.ref b ∈ lentVs fi.lent vs) ∧ Args K F H fi.lent vs ds ∧ (lentVs fi.lent vs).Nodup ∧ fi.T ds Qd Ed ∧
  (∀ r os, Qd r os → ∀ v H' F', Same F F' → Same F' H' → Outs K F' H' fi.lent vs os → Res K H F' H' v r fi.fresh → Q v H') ∧
  (∀ x os, Ed x os → ∀ cls dx H' F', Same F F' → Same F' H' → Outs K F' H' fi.lent vs os → XRep mg xs x cls dx H' → E cls dx H')

def bltNames : List Str := ["len", "abs", "max", "min", "sum", "tuple", "list", "all", "any", "int", "bool", "str", "isinstance", "range", "zip", "reversed"]
/-- what a body may lean on -/
structure Cxt (G : Gd) (X : Cx) (k : Nat) : Prop where
  fns : ∀ (i : Nat) (fi : FI), G.fs[i]? = some fi → ∃ f fd, FnOk X.prog X.w X.K X.mg X.base (L2.CX X.prog X.w) k f fd fi.ps (spD X.K X.mg G.xs fi) ∧ X.mg fi.name = some (.ref f) ∧ PySem.W.keepIn X.K (.ref f) = true ∧ Binds X.K fd fi.ps []
  blt : ∀ n ∈ bltNames, X.mg n = none
  cst : ∀ (i : Nat) (n : Str) (d : D), G.cs[i]? = some (n, d) → ∃ v u, X.mg n = some u ∧ RelV v u ∧ ∀ H, Rp X.K H v d
  xcs : ∀ (i : Nat) (n : Str), G.xs[i]? = some n → ∃ (C : Addr) (bm : List Value) (B newId initId : String), ExcBaseFacts B newId initId bm ∧ PySem.W.excIn X.K C bm newId = true ∧ X.mg n = some (.ref C) ∧ PySem.W.keepIn X.K (.ref C) = true ∧
    PySem.W.subIn X.K (.ref C) (.type "BaseException") = some true ∧ PySem.W.typeIn X.K (.ref C) = some (.type "type")
  room : Room k X.A
  calm : X.calm = true
  nd : X.N.Nodup
theorem Cxt.blk {G : Gd} {X : Cx} {k : Nat} (c : Cxt G X k) (s : Shared) (H : Hp) (scope : Scope) (cenv : Env) (fp : List Addr) : Cxt G (X.blk s H scope cenv fp) k :=
  ⟨c.fns, c.blt, c.cst, c.xcs, c.room, c.calm, c.nd⟩

/-- what is wanted of an exception; what must be let alone (lists that are being made); whether there may be such -/
structure Wz where
  W : WX
  Z : Addr → Prop
  z : Bool
  hz : z = false → ∀ b, ¬ Z b
/-! ### 6. readings -/
section
variable (G : Gd) (X : Cx) (W : Wz)
def OkE (δ : Dl) (σ : Sv) (F H : Hp) (Ed : XD) : Prop :=
  ∀ x δ', Ed x δ' → ∀ cls dx H' F', Ext δ δ' σ F F' H H' → Rep X.K W.Z δ' σ F' H' → XRep X.mg G.xs x cls dx H' → W.W cls dx σ H'
def OkK (δ : Dl) (σ : Sv) (F H : Hp) (Kd : KD) (Q : VK) : Prop :=
  ∀ d fr δ', Kd d fr δ' → ∀ v H' F', Ext δ δ' σ F F' H H' → Rep X.K W.Z δ' σ F' H' → RRep X.K W.Z δ' σ F' H' v d fr → Q v H'
def tE (m : Ex) : TE := fun σ H Q => ∃ (δ : Dl) (F : Hp) (Kd : KD) (Ed : XD), Rep X.K W.Z δ σ F H ∧ wpE G W.z m δ Kd Ed ∧ OkK X W δ σ F H Kd Q ∧ OkE G X W δ σ F H Ed
def ArV (F : Hp) (σ : Sv) : Ar → V → Prop
  | .val d, v => Rp X.K F v d
  | .ref i, v => σ[i]? = some (some v)
def tA (m : Ex) : TE := fun σ H Q => ∃ (δ : Dl) (F : Hp) (k : Ar → Dl → Prop) (Ed : XD), Rep X.K W.Z δ σ F H ∧ arg (asVar m) (fun kk => wpE G W.z m δ kk Ed) δ k ∧
  (∀ x δ', k x δ' → ∀ v H' F', Ext δ δ' σ F F' H H' → Rep X.K W.Z δ' σ F' H' → ArV X F' σ x v → Q v H') ∧ OkE G X W δ σ F H Ed
def tT (m : Ex) : TT := fun σ H Q => ∃ (δ : Dl) (F : Hp) (k : Bool → Dl → Prop) (Ed : XD), Rep X.K W.Z δ σ F H ∧ wpT G W.z m δ k Ed ∧
  (∀ b δ', k b δ' → ∀ H' F', Ext δ δ' σ F F' H H' → Rep X.K W.Z δ' σ F' H' → Q b H') ∧ OkE G X W δ σ F H Ed
def ArVs (F : Hp) (σ : Sv) : List Ar → List V → Prop
  | [], [] => True
  | x :: xs, v :: vs => ArV X F σ x v ∧ ArVs F σ xs vs
  | _, _ => False
def tAs (ms : Exs) : TA := fun σ H Q => ∃ (δ : Dl) (F : Hp) (k : List Ar → Dl → Prop) (Ed : XD), Rep X.K W.Z δ σ F H ∧ wpAs G W.z ms δ k Ed ∧
  (∀ xs δ', k xs δ' → ∀ vs H' F', Ext δ δ' σ F F' H H' → Rep X.K W.Z δ' σ F' H' → ArVs X F' σ xs vs → Q vs H') ∧ OkE G X W δ σ F H Ed
def tVs (ms : Exs) : TA := fun σ H Q => ∃ (δ : Dl) (F : Hp) (k : List D → Dl → Prop) (Ed : XD), Rep X.K W.Z δ σ F H ∧ wpVs G W.z ms δ k Ed ∧
  (∀ ds δ', k ds δ' → ∀ vs H' F', Ext δ δ' σ F F' H H' → Rep X.K W.Z δ' σ F' H' → RpA X.K F' vs ds → Q vs H') ∧ OkE G X W δ σ F H Ed
def tOx (m : Ox) : TO := fun σ H Q => ∃ (δ : Dl) (F : Hp) (k : Option Int → Dl → Prop) (Ed : XD), Rep X.K W.Z δ σ F H ∧ wpO G W.z m δ k Ed ∧
  (∀ o δ', k o δ' → ∀ H' F', Ext δ δ' σ F F' H H' → Rep X.K W.Z δ' σ F' H' → Q o H') ∧ OkE G X W δ σ F H Ed
end
theorem PE.imp {X : Cx} {e : Expr} {t t' : TE} (h : PE X e t) (i : ∀ σ H Q, t' σ H Q → t σ H Q) : PE X e t' := ⟨fun p s σ H Q I q => h.run p s σ H Q I (i σ H Q q)⟩
theorem PT.imp {X : Cx} {e : Expr} {t t' : TT} (h : PT X e t) (i : ∀ σ H Q, t' σ H Q → t σ H Q) : PT X e t' := ⟨fun p s σ H Q I q => h.run p s σ H Q I (i σ H Q q)⟩
theorem PW.imp {X : Cx} {e : Expr} {t t' : TT} (h : PW X e t) (i : ∀ σ H Q, t' σ H Q → t σ H Q) : PW X e t' := ⟨fun w p s σ H Q I q => h.run w p s σ H Q I (i σ H Q q)⟩
theorem PA.imp {X : Cx} {e : List Expr} {t t' : TA} (h : PA X e t) (i : ∀ σ H Q, t' σ H Q → t σ H Q) : PA X e t' := ⟨fun w p s σ H Q I q => h.run w p s σ H Q I (i σ H Q q)⟩
theorem PO.imp {X : Cx} {e : Option Expr} {t t' : TO} (h : PO X e t) (i : ∀ σ H Q, t' σ H Q → t σ H Q) : PO X e t' := ⟨fun p s σ H Q I q => h.run p s σ H Q I (i σ H Q q)⟩
section
variable {G : Gd} {X : Cx} {W : Wz} {Z : Addr → Prop} {δ δ1 : Dl} {σ : Sv} {F F1 H H1 : Hp}
theorem OkE.go {Ed : XD} (h : OkE G X W δ σ F H Ed) (e : Ext δ δ1 σ F F1 H H1) : OkE G X W δ1 σ F1 H1 Ed :=
  fun x δ' q cls dx H' F' e' r z => h x δ' q cls dx H' F' (e.trans e') r z
theorem ArV.go {x : Ar} {v : V} (h : ArV X F σ x v) (e : Same F F1) : ArV X F1 σ x v := by
  cases x with
  | val d => exact Rp.mono e h
  | ref i => exact h
theorem ArVs.go (e : Same F F1) : ∀ {xs : List Ar} {vs : List V}, ArVs X F σ xs vs → ArVs X F1 σ xs vs
  | [], [], _ => trivial
  | _ :: _, _ :: _, ⟨a, b⟩ => ⟨a.go e, ArVs.go e b⟩
/-- what a looked up argument is -/
theorem dat_rp {x : Ar} {v : V} {d : D} (R : Rep X.K Z δ σ F H) (a : ArV X F σ x v) (h : dat δ x = some d) :
    Rp X.K F v d ∨ ∃ p xs ds, v = .ref p ∧ d = .list ds ∧ F p = none ∧ H p = some (.lst xs) ∧ RpA X.K F xs ds := by
  cases x with
  | val e =>
    cases h
    exact .inl a
  | ref i =>
    have a : σ[i]? = some (some v) := a
    have h : (look δ i).map (·.1) = some d := h
    cases l : look δ i with
    | none => rw [l] at h; cases h
    | some p =>
      obtain ⟨e, f⟩ := p
      rw [l] at h
      have h : e = d := Option.some.inj h
      subst h
      cases f with
      | fro =>
        obtain ⟨u, e1, r⟩ := R.fro i e l
        rw [a] at e1; cases e1
        exact .inl r
      | own =>
        obtain ⟨p, xs, ds, e1, e2, e3, e4, r⟩ := R.own i e _ l (by decide)
        rw [a] at e2; cases e2
        exact .inr ⟨p, xs, ds, rfl, e1, e3, e4, r⟩
      | lent =>
        obtain ⟨p, xs, ds, e1, e2, e3, e4, r⟩ := R.own i e _ l (by decide)
        rw [a] at e2; cases e2
        exact .inr ⟨p, xs, ds, rfl, e1, e3, e4, r⟩
theorem dat_H {x : Ar} {v : V} {d : D} (R : Rep X.K Z δ σ F H) (a : ArV X F σ x v) (h : dat δ x = some d) : Rp X.K H v d := by
  rcases dat_rp R a h with r | ⟨p, xs, ds, rfl, rfl, _, e, r⟩
  · exact r.mono R.sub
  · exact .lst e (r.mono R.sub)
theorem dat_int {x : Ar} {v : V} {i : Int} (R : Rep X.K Z δ σ F H) (a : ArV X F σ x v) (h : dat δ x = some (.int i)) : v = .int i := by
  cases dat_H R a h; rfl
theorem dat_list {x : Ar} {v : V} {ds : List D} (R : Rep X.K Z δ σ F H) (a : ArV X F σ x v) (h : dat δ x = some (.list ds)) :
    ∃ p xs, v = .ref p ∧ H p = some (.lst xs) ∧ RpA X.K F xs ds := by
  rcases dat_rp R a h with r | ⟨p, xs, ds', rfl, e0, _, e, r⟩
  · cases r with
    | lst e r => exact ⟨_, _, rfl, R.sub _ _ e, r⟩
  · cases e0
    exact ⟨p, xs, rfl, e, r⟩
theorem dat_tup {x : Ar} {v : V} {ds : List D} (R : Rep X.K Z δ σ F H) (a : ArV X F σ x v) (h : dat δ x = some (.tuple ds)) :
    ∃ p xs, v = .ref p ∧ SqT X.K F p xs ∧ RpA X.K F xs ds := by
  rcases dat_rp R a h with r | ⟨p, xs, ds', rfl, e0, _, e, r⟩
  · cases r with
    | tup e r => exact ⟨_, _, rfl, e, r⟩
  · cases e0
theorem dat_non {x : Ar} {v : V} {d : D} (R : Rep X.K Z δ σ F H) (a : ArV X F σ x v) (h : dat δ x = some d) (n : isList d = false) : Rp X.K F v d := by
  rcases dat_rp R a h with r | ⟨p, xs, ds, rfl, rfl, _⟩
  · exact r
  · cases n
end
theorem line1e6 {n : Nat} (h : n ≤ 1000000) : n ≤ sizeLine := by rw [sizeLine_eq]; omega
theorem lt1e6 {n : Nat} (h : n < 1000000) : n < sizeLine := by rw [sizeLine_eq]; omega

/-! ### 7. operators -/
section
variable {X : Cx}
def CDivN9 (_ j : Int) : Prop := j ≠ 0 ∧ j.natAbs.log2 < 9000
theorem op_fdiv9 : OpR X (binaryOp .FloorDiv) (rI CDivN9 fun i j => .int (i.fdiv j)) := opI fun _ _ _ _ _ _ _ hc q => floordiv_int hc.1 q (.inl (PyProof.noPylong_of_log2 hc.2))
def aop : BOp → Operator
  | .add => .Add | .sub => .Sub | .mul => .Mult | .div => .FloorDiv | .mod => .Mod | .pow => .Pow | .band => .BitAnd | .shr => .RShift
def rB (K : Frag) : BOp → R2
  | .add => fun x y H Q => rI0 (fun i j => .int (i + j)) x y H Q ∨ rCat x y H Q ∨ rCatT K x y H Q
  | .sub => rI0 fun i j => .int (i - j)
  | .mul => rI CMulW fun i j => .int (i * j)
  | .div => rI CDivN9 fun i j => .int (i.fdiv j)
  | .mod => rI (fun _ j => j ≠ 0) fun i j => .int (i.fmod j)
  | .pow => rI CPow fun i j => .int (i ^ j.toNat)
  | .band => rI0 fun i j => .int (Builtin.bitAnd i j)
  | .shr => rI (fun _ j => 0 ≤ j) fun i j => .int (i / 2 ^ j.toNat)
theorem op_B (o : BOp) : OpR X (binaryOp (aop o)) (rB X.K o) := by
  cases o
  · exact op_add.or (op_cat.or op_catT)
  · exact op_sub
  · exact op_mulW
  · exact op_fdiv9
  · exact op_modN
  · exact op_pow
  · exact op_and
  · exact op_shr
/-- what an operation over data hands on -/
def Goes (X : Cx) (Z : Addr → Prop) (δ : Dl) (σ : Sv) (F H : Hp) (k : D → Bool → Prop) (Q : VK) : Prop :=
  ∀ d fr, k d fr → ∀ v H' F', Ext δ δ σ F F' H H' → Rep X.K Z δ σ F' H' → RRep X.K Z δ σ F' H' v d fr → Q v H'
variable {Z : Addr → Prop} {δ : Dl} {σ : Sv} {F H : Hp}
theorem Goes.here {k : D → Bool → Prop} {Q : VK} {d : D} {v : V} (g : Goes X Z δ σ F H k Q) (R : Rep X.K Z δ σ F H) (h : k d false) (r : Rp X.K F v d) : Q v H :=
  g d false h v H F Ext.refl R r
/-- a new list -/
theorem Goes.newL {k : D → Bool → Prop} {Q : VK} {ds : List D} {xs : List V} {p : Addr} (g : Goes X Z δ σ F H k Q) (R : Rep X.K Z δ σ F H) (h : k (.list ds) true) (hp : H p = none) (r : RpA X.K F xs ds) : Q (.ref p) (upd H p (.lst xs)) :=
  g _ true h _ _ F (Ext.newO R hp) (R.newO hp) ⟨p, xs, ds, rfl, rfl, R.sub.free hp, upd_same, r, R.new_not hp, fun z => by
    obtain ⟨_, ⟨xs, e⟩, _⟩ := R.zz _ z
    rw [hp] at e; cases e⟩
/-- a new tuple -/
theorem Goes.newT {k : D → Bool → Prop} {Q : VK} {ds : List D} {xs : List V} {p : Addr} (g : Goes X Z δ σ F H k Q) (R : Rep X.K Z δ σ F H) (h : k (.tuple ds) false) (hp : H p = none) (r : RpA X.K F xs ds) : Q (.ref p) (upd H p (.tup xs)) :=
  g _ false h _ _ (upd F p (.tup xs)) (Ext.new R hp) (R.new hp) (.tup (SqT.of upd_same) (r.mono (same_new (R.sub.free hp))))
theorem bop_ok {o : BOp} {x y : Ar} {v w : V} {d e : D} {k : D → Bool → Prop} {Q : VK} (R : Rep X.K Z δ σ F H) (a : ArV X F σ x v) (b : ArV X F σ y w) (hx : dat δ x = some d) (hy : dat δ y = some e)
    (h : bop o d e k) (g : Goes X Z δ σ F H k Q) : rB X.K o v w H Q := by
  have both : ∀ {i j : Int}, d = .int i → e = .int j → v = .int i ∧ w = .int j := fun e1 e2 => by
    subst e1; subst e2
    exact ⟨dat_int R a hx, dat_int R b hy⟩
  cases o with
  | add =>
    cases d <;> cases e <;> first | exact h.elim | skip
    · obtain ⟨rfl, rfl⟩ := both rfl rfl
      exact .inl ⟨_, _, rfl, rfl, g.here R h (.int _)⟩
    · obtain ⟨hl, h⟩ := h
      obtain ⟨p, xs, rfl, e1, r1⟩ := dat_list R a hx
      obtain ⟨q, ys, rfl, e2, r2⟩ := dat_list R b hy
      refine .inr (.inl ⟨p, q, xs, ys, rfl, rfl, e1, e2, ?_, fun l hl => g.newL R h hl (r1.app r2)⟩)
      rw [r1.len, r2.len]; exact line1e6 hl
    · obtain ⟨⟨h1, h2, hl⟩, h⟩ := h
      obtain ⟨p, xs, rfl, e1, r1⟩ := dat_tup R a hx
      obtain ⟨q, ys, rfl, e2, r2⟩ := dat_tup R b hy
      have l1 := r1.len
      have l2 := r2.len
      refine .inr (.inr ⟨p, q, xs, ys, rfl, rfl, same_t R.sub e1, same_t R.sub e2, ?_, ?_, fun z => ?_, fun _ l hl => g.newT R h hl (r1.app r2)⟩)
      · rintro rfl; exact h1 (List.length_eq_zero_iff.mp (by simpa using l1.symm))
      · rw [l1, l2]; exact line1e6 hl
      · subst z; exact absurd (List.length_eq_zero_iff.mp (by simpa using l2.symm)) h2
  | sub =>
    cases d <;> cases e <;> first | exact h.elim | skip
    obtain ⟨rfl, rfl⟩ := both rfl rfl
    exact ⟨_, _, rfl, rfl, g.here R h (.int _)⟩
  | mul =>
    cases d <;> cases e <;> first | exact h.elim | skip
    obtain ⟨rfl, rfl⟩ := both rfl rfl
    exact ⟨_, _, rfl, rfl, h.1, g.here R h.2 (.int _)⟩
  | div =>
    cases d <;> cases e <;> first | exact h.elim | skip
    obtain ⟨rfl, rfl⟩ := both rfl rfl
    exact ⟨_, _, rfl, rfl, h.1, g.here R h.2 (.int _)⟩
  | mod =>
    cases d <;> cases e <;> first | exact h.elim | skip
    obtain ⟨rfl, rfl⟩ := both rfl rfl
    exact ⟨_, _, rfl, rfl, h.1, g.here R h.2 (.int _)⟩
  | pow =>
    cases d <;> cases e <;> first | exact h.elim | skip
    obtain ⟨rfl, rfl⟩ := both rfl rfl
    exact ⟨_, _, rfl, rfl, h.1, g.here R h.2 (.int _)⟩
  | band => exact h.elim
  | shr => exact h.elim

def acmp : COp → CmpOp
  | .eq => .Eq | .ne => .NotEq | .lt => .Lt | .le => .LtE | .gt => .Gt | .ge => .GtE | .isn => .Is | .notn => .IsNot | .inn => .In | .nin => .NotIn
def CmpR (X : Cx) (o : COp) : R2 := fun v w H Q => ∃ x y, Rp X.K H v x ∧ Rp X.K H w y ∧ cop o x y fun b => Q (.bl b) H
theorem rp_int {v : V} {i : Int} {K : Frag} (r : Rp K H v (.int i)) : v = .int i := by cases r; rfl
theorem units60 {k : Nat} (hr : Room k X.A) {n : Nat} (h : n ≤ 60) : X.A.units + 1 + n < cLine := by
  have := hr.un
  omega
theorem op_C {k : Nat} (hr : Room k X.A) (o : COp) : OpR X (compareOp (acmp o)) (CmpR X o) := by
  intro pins s σ H x y v u Q I rx ry h
  obtain ⟨d, e, r1, r2, h⟩ := h
  cases o with
  | eq =>
    obtain ⟨⟨h1, h2, h3⟩, h⟩ := h
    obtain ⟨as, q1⟩ := Dp.reads I d x v (r1.dp h1) rx
    obtain ⟨bs, q2⟩ := Dp.reads I e y u (r2.dp h2) ry
    exact PySem.SeqAt.eq_plain q1 q2 h1 h2 (by have := units60 hr h3; omega) ⟨.bl _, H, I, rfl, h⟩
  | ne =>
    obtain ⟨⟨h1, h2, h3⟩, h⟩ := h
    obtain ⟨as, q1⟩ := Dp.reads I d x v (r1.dp h1) rx
    obtain ⟨bs, q2⟩ := Dp.reads I e y u (r2.dp h2) ry
    exact PySem.SeqAt.ne_plain q1 q2 h1 h2 (by have := units60 hr h3; omega) ⟨.bl _, H, I, rfl, h⟩
  | isn =>
    cases e <;> first | exact h.elim | skip
    · cases r2
      refine op_isN pins s σ H x .non v u Q I rx ry ⟨rfl, ?_⟩
      cases r1 <;> exact h
    · cases d <;> first | exact h.elim | skip
      cases r1; cases r2
      exact op_is_bl pins s σ H _ _ v u Q I rx ry ⟨_, _, rfl, rfl, h⟩
  | notn =>
    cases e <;> first | exact h.elim | skip
    · cases r2
      refine op_notN pins s σ H x .non v u Q I rx ry ⟨rfl, ?_⟩
      cases r1 <;> exact h
    · cases d <;> first | exact h.elim | skip
      cases r1; cases r2
      exact op_isnot_bl pins s σ H _ _ v u Q I rx ry ⟨_, _, rfl, rfl, h⟩
  | lt =>
    cases d <;> cases e <;> first | exact h.elim | skip
    cases r1; cases r2
    exact op_lt pins s σ H _ _ v u Q I rx ry ⟨_, _, rfl, rfl, h⟩
  | le =>
    cases d <;> cases e <;> first | exact h.elim | skip
    cases r1; cases r2
    exact op_le pins s σ H _ _ v u Q I rx ry ⟨_, _, rfl, rfl, h⟩
  | gt =>
    cases d <;> cases e <;> first | exact h.elim | skip
    cases r1; cases r2
    exact op_gt pins s σ H _ _ v u Q I rx ry ⟨_, _, rfl, rfl, h⟩
  | ge =>
    cases d <;> cases e <;> first | exact h.elim | skip
    cases r1; cases r2
    exact op_ge pins s σ H _ _ v u Q I rx ry ⟨_, _, rfl, rfl, h⟩
  | inn =>
    cases e <;> first | exact h.elim | skip
    all_goals
      obtain ⟨⟨h1, h2, h3⟩, h⟩ := h
      obtain ⟨as, q1⟩ := Dp.reads I d x v (r1.dp h1) rx
      obtain ⟨bs, q2⟩ := Dp.reads I _ y u (r2.dp h2) ry
      have h4 : min d.depth (PyData.depthAll _ + 1) ≤ 60 := h3
    · exact PySem.SeqAt.in_list_data q2 q1 (by simpa [PyData.plain] using h2) h1 (by have := hr.un; omega) ⟨.bl _, H, I, rfl, h⟩
    · exact PySem.SeqAt.in_tuple_data q2 q1 (by simpa [PyData.plain] using h2) h1 (by have := hr.un; omega) ⟨.bl _, H, I, rfl, h⟩
  | nin =>
    cases e <;> first | exact h.elim | skip
    all_goals
      obtain ⟨⟨h1, h2, h3⟩, h⟩ := h
      obtain ⟨as, q1⟩ := Dp.reads I d x v (r1.dp h1) rx
      obtain ⟨bs, q2⟩ := Dp.reads I _ y u (r2.dp h2) ry
      have h4 : min d.depth (PyData.depthAll _ + 1) ≤ 60 := h3
    · exact PySem.SeqAt.notIn_list_data q2 q1 (by simpa [PyData.plain] using h2) h1 (by have := hr.un; omega) ⟨.bl _, H, I, rfl, h⟩
    · exact PySem.SeqAt.notIn_tuple_data q2 q1 (by simpa [PyData.plain] using h2) h1 (by have := hr.un; omega) ⟨.bl _, H, I, rfl, h⟩
end
end Mi
set_option Elab.async false
set_option linter.all false
set_option maxRecDepth 100000
namespace Mi
open PySem L2 PyProof.Rows

/-! ### 8. a text is what the small language says -/
def visB (sc : Scope) (x : Str) : Bool := match sc.names.lookup x with
  | some .local => true
  | some .cell => true
  | some .free => true
  | _ => false
def glB (sc : Scope) (x : Str) : Bool := match sc.names.lookup x with
  | some .globalImplicit => true
  | _ => false
def tgtB (fn : Str → Bool) (sc : Scope) (x : Str) : Bool := match sc.names.lookup x with
  | some .local => true
  | some .cell => fn x
  | _ => false
def okNm (x : Str) : Bool := !(x == ("__debug__" : Str)) && !(x == ("__classdict__" : Str))
def nice : Expr → Bool
  | .Starred _ _ => false
  | .Slice _ _ _ _ => false
  | .Set _ _ _ => false
  | _ => true
def bnm : Bf → Str
  | .len => "len" | .abs => "abs" | .max2 => "max" | .min2 => "min" | .sum => "sum" | .max => "max" | .min => "min" | .tuple => "tuple" | .list => "list" | .all => "all" | .any => "any" | .int => "int"
def tnm : Ty → String
  | .int => "int" | .bool => "bool" | .tuple => "tuple" | .list => "list" | .str => "str"
def ownN (N : List Str) (own : List Nat) : List (Str × Nat) := own.map fun i => (N.getD i "", i)
def okVar (N : List Str) (sc : Scope) (i : Nat) (x : Str) : Bool := decide (N[i]? = some x) && visB sc x && okNm x
def okTg1 (N : List Str) (fn : Str → Bool) (sc : Scope) (i : Nat) : Expr → Bool
  | .Name x _ => decide (N[i]? = some x) && tgtB fn sc x
  | _ => false
def okTgs (N : List Str) (fn : Str → Bool) (sc : Scope) : List Nat → List Expr → Bool
  | [], [] => true
  | i :: is, e :: es => okTg1 N fn sc i e && okTgs N fn sc is es
  | _, _ => false
def okTg (N : List Str) (fn : Str → Bool) (sc : Scope) : Tg → Expr → Bool
  | .one i, e => okTg1 N fn sc i e
  | .many is, .Tuple es _ _ => okTgs N fn sc is es
  | _, _ => false
mutual
def okE (G : Gd) (N : List Str) (sc : Scope) : Ex → Expr → Bool
  | .var i, .Name x _ => okVar N sc i x
  | .int n, .Constant (.int m) _ _ => decide (n = m)
  | .bl b, .Constant (.bool c) _ _ => decide (b = c)
  | .non, .Constant .none _ _ => true
  | .str x, .Constant (.str y) _ _ => decide (x = y)
  | .cst c, .Name x _ => glB sc x && okNm x && decide ((G.cs[c]?).map (·.1) = some x)
  | .bin o a b, .BinOp l op r _ => decide (op = aop o) && okE G N sc a l && okE G N sc b r
  | .neg a, .UnaryOp .USub l _ => okE G N sc a l
  | .cmp o a b, .Compare l [op] [r] _ => decide (op = acmp o) && !behindInMarks op r && okE G N sc a l && okE G N sc b r
  | .cmp2 o p a b c, .Compare l [op, op'] [r, q] _ => decide (op = acmp o) && decide (op' = acmp p) && !behindInMarks op' q && okE G N sc a l && okE G N sc b r && okE G N sc c q
  | .and a b, .BoolOp .And (l :: m :: r) pos => okE G N sc a l && okE G N sc b (.BoolOp .And (m :: r) pos)
  | .or a b, .BoolOp .Or (l :: m :: r) pos => okE G N sc a l && okE G N sc b (.BoolOp .Or (m :: r) pos)
  | .one a, .BoolOp _ [l] _ => okE G N sc a l
  | .not a, .UnaryOp .Not l _ => okE G N sc a l
  | .ite c a b, .IfExp c' a' b' _ => okE G N sc c c' && okE G N sc a a' && okE G N sc b b'
  | .tup as, .Tuple es _ _ => okEs G N sc as es
  | .lst as, .List es _ => okEs G N sc as es
  | .sub a i, .Subscript l r _ => nice r && okE G N sc a l && okE G N sc i r
  | .slc a lo hi, .Subscript l (.Slice l' h' none _) _ => okE G N sc a l && okO G N sc lo l' && okO G N sc hi h'
  | .blt f (.cons a as), .Call (.Name x _) (e :: es) [] _ => decide (x = bnm f) && glB sc x && okEs G N sc (.cons a as) (e :: es)
  | .isi a t, .Call (.Name x _) [e, .Name y _] [] _ => decide (x = ("isinstance" : Str)) && glB sc x && decide (y = Str.ofString (tnm t)) && glB sc y && nice e && okE G N sc a e
  | .ct f g as bs, .Call (.Name x _) (.Call (.Name y _) (e2 :: es2) [] _ :: es) [] _ => (glB sc x && okNm x && decide ((G.fs[f]?).map (·.name) = some x)) && ((glB sc y && okNm y && decide ((G.fs[g]?).map (·.name) = some y)) && (okEs G N sc as (e2 :: es2) && okEs G N sc bs es))
  | .call f as, .Call (.Name x _) es [] _ => glB sc x && okNm x && decide ((G.fs[f]?).map (·.name) = some x) && okEs G N sc as es
  | .pop i, .Call (.Attribute (.Name x _) m apos) [] [] cpos => decide (m = ("pop" : Str)) && decide (apos.endLine = cpos.line) && okVar N sc i x
  | .lc e tg it c own, .ListComp elt [⟨tgt, iter, ifs, a⟩] scope _ => decide (a = 0) && nice iter && okI G N sc it iter tgt && blkC N sc scope (ownN N own) &&
      okTg N (fun x => scope.names.lookup x == some .cell) (relS scope sc) tg tgt && okC G N (relS scope sc) c ifs && okE G N (relS scope sc) e elt && okTgO own tg
  | _, _ => false
def okEs (G : Gd) (N : List Str) (sc : Scope) : Exs → List Expr → Bool
  | .nil, [] => true
  | .cons m ms, e :: es => nice e && okE G N sc m e && okEs G N sc ms es
  | _, _ => false
def okO (G : Gd) (N : List Str) (sc : Scope) : Ox → Option Expr → Bool
  | .no, none => true
  | .so m, some e => okE G N sc m e
  | _, _ => false
def okC (G : Gd) (N : List Str) (sc : Scope) : Ox → List Expr → Bool
  | .no, [] => true
  | .so m, [e] => okE G N sc m e
  | _, _ => false
def okI (G : Gd) (N : List Str) (sc : Scope) : Ti → Expr → Expr → Bool
  | .seq a, e, _ => okE G N sc a e
  | .rng1 a, .Call (.Name x _) [e] [] _, _ => decide (x = ("range" : Str)) && glB sc x && nice e && okE G N sc a e
  | .rng2 a b, .Call (.Name x _) [e, f] [] _, _ => decide (x = ("range" : Str)) && glB sc x && nice e && nice f && okE G N sc a e && okE G N sc b f
  | .zip a b, .Call (.Name x _) [e, f] [] _, .Tuple _ _ _ => decide (x = ("zip" : Str)) && glB sc x && nice e && nice f && okE G N sc a e && okE G N sc b f
  | .rev a, .Call (.Name x _) [e] [] _, _ => decide (x = ("reversed" : Str)) && glB sc x && nice e && okE G N sc a e
  | _, _, _ => false
/-- a comprehension's targets are its own names -/
def okTgO (own : List Nat) : Tg → Bool
  | .one i => own.contains i
  | .many is => is.all fun i => own.contains i
end
theorem vis_of {sc : Scope} {x : Str} (h : visB sc x = true) : Vis sc x := by
  unfold visB at h
  unfold Vis
  split at h <;> simp_all
theorem gl_of {X : Cx} {x : Str} (h : glB X.env.scope x = true) : Gl X x := by
  unfold glB at h
  show X.env.scope.names.lookup x = some .globalImplicit
  split at h <;> simp_all
theorem star_of {e : Expr} {es : List Expr} {env : Env} (h : nice e = true) : starEach (e :: es) env = (false, eval e env) :: starEach es env := by
  cases e <;> first | rfl | simp [nice] at h
theorem plain_of {e : Expr} {pos : Pos} {env : Env} : ∀ {es : List Expr}, es.all nice = true → (backTo pos (starEach es env)).any (·.1) = false
  | [], _ => rfl
  | e :: es, h => by
    simp only [List.all_cons, Bool.and_eq_true] at h
    rw [star_of h.1]
    show (false || (backTo pos (starEach es env)).any (·.1)) = false
    rw [plain_of (e := e) h.2]; rfl
end Mi
set_option Elab.async false
set_option linter.all false
set_option maxRecDepth 100000
namespace Mi
open PySem L2 PyProof.Rows

/-! ### 9. each form keeps what the small language says -/
theorem ifT {A B : Prop} (h : if true = true then A else B) : A := h
theorem ifF {A B : Prop} (h : if false = true then A else B) : B := h
section
variable {G : Gd} {X : Cx} {W : Wz}
theorem asVar_some {m : Ex} {i : Nat} (h : asVar m = some i) : m = .var i := by
  cases m <;> simp [asVar] at h
  rw [h]
/-- from an expression to an argument -/
theorem arg_of {N : List Str} {m : Ex} {e : Expr} (hN : X.N = N) (ok : okE G N X.env.scope m e = true) (h : PE X e (tE G X W m)) : PE X e (tA G X W m) := by
  cases hm : asVar m with
  | some i =>
    have := asVar_some hm
    subst this
    cases e <;> simp [okE, okVar, okNm] at ok
    rename_i x p
    obtain ⟨⟨h1, h2⟩, h3, h4⟩ := ok
    refine PE.imp (pe_var (i := i) (by rw [hN]; exact h1) (vis_of h2) (by simpa using h3) (by simpa using h4)) fun σ H Q q => ?_
    obtain ⟨δ, F, k, Ed, R, w, ok, oe⟩ := q
    obtain ⟨w1, w2⟩ : (look δ i).isSome = true ∧ k (.ref i) δ := w
    obtain ⟨⟨d, f⟩, l⟩ := Option.isSome_iff_exists.mp w1
    have : ∃ v, σ[i]? = some (some v) := by
      by_cases hf : f = .fro
      · subst hf
        obtain ⟨v, e, _⟩ := R.fro i d l
        exact ⟨v, e⟩
      · obtain ⟨a, xs, ds, _, e, _⟩ := R.own i d f l hf
        exact ⟨_, e⟩
    obtain ⟨v, hv⟩ := this
    exact ⟨v, hv, ok _ _ w2 v H F Ext.refl R hv⟩
  | none =>
    refine PE.imp h fun σ H Q q => ?_
    obtain ⟨δ, F, k, Ed, R, w, ok, oe⟩ := q
    rw [hm] at w
    refine ⟨δ, F, _, Ed, R, w, fun d fr δ' q v H' F' e r rr => ?_, oe⟩
    obtain ⟨F2, e2, r2, rp⟩ := rr.frz r
    exact ok _ _ q v H' F2 (e.trans e2) r2 rp
/-- two arguments -/
theorem two_of {a b : Ex} {σ : Sv} {H : Hp} {δ : Dl} {F : Hp} {Ed : XD} {k : Ar → Ar → Dl → Prop} {R : V → V → Hp → Prop} (rep : Rep X.K W.Z δ σ F H)
    (w : arg (asVar a) (fun k => wpE G W.z a δ k Ed) δ fun x δ1 => arg (asVar b) (fun k => wpE G W.z b δ1 k Ed) δ1 fun y δ2 => k x y δ2) (oe : OkE G X W δ σ F H Ed)
    (h : ∀ x y δ2, k x y δ2 → ∀ v w H2 F2, Ext δ δ2 σ F F2 H H2 → Rep X.K W.Z δ2 σ F2 H2 → ArV X F2 σ x v → ArV X F2 σ y w → OkE G X W δ2 σ F2 H2 Ed → R v w H2) :
    tA G X W a σ H fun v H1 => tA G X W b σ H1 fun w H2 => R v w H2 :=
  ⟨δ, F, _, Ed, rep, w, fun x δ1 q v H1 F1 e1 r1 a1 => ⟨δ1, F1, _, Ed, r1, q, fun y δ2 q2 u H2 F2 e2 r2 a2 => h x y δ2 q2 v u H2 F2 (e1.trans e2) r2 (a1.go e2.sub) a2 (oe.go (e1.trans e2)), oe.go e1⟩, oe⟩
theorem OkK.goes {δ δ1 : Dl} {σ : Sv} {F F1 H H1 : Hp} {Kd : KD} {Q : VK} (h : OkK X W δ σ F H Kd Q) (e : Ext δ δ1 σ F F1 H H1) : Goes X W.Z δ1 σ F1 H1 (fun d fr => Kd d fr δ1) Q :=
  fun d fr q v H' F' e' r rr => h d fr δ1 q v H' F' (e.trans e') r rr
theorem OkK.go {δ δ1 : Dl} {σ : Sv} {F F1 H H1 : Hp} {Kd : KD} {Q : VK} (h : OkK X W δ σ F H Kd Q) (e : Ext δ δ1 σ F F1 H H1) : OkK X W δ1 σ F1 H1 Kd Q :=
  fun d fr δ' q v H' F' e' r rr => h d fr δ' q v H' F' (e.trans e') r rr
theorem s_bin {o : BOp} {a b : Ex} {l r : Expr} {pos : Pos} (ha : PE X l (tA G X W a)) (hb : PE X r (tA G X W b)) : PE X (.BinOp l (aop o) r pos) (tE G X W (.bin o a b)) := by
  refine PE.imp (pe_op (op_B o) ha hb) fun σ H Q q => ?_
  obtain ⟨δ, F, Kd, Ed, rep, w, ok, oe⟩ := q
  refine two_of rep w oe fun x y δ2 q2 v u H2 F2 e r2 a1 a2 _ => ?_
  cases hx : dat δ2 x with
  | none => rw [hx] at q2; exact q2.elim
  | some d =>
    cases hy : dat δ2 y with
    | none => rw [hx, hy] at q2; exact q2.elim
    | some d' =>
      rw [hx, hy] at q2
      exact bop_ok r2 a1 a2 hx hy q2 (ok.goes e)
theorem s_cmp {k : Nat} (hr : Room k X.A) {o : COp} {a b : Ex} {l r : Expr} {pos : Pos} (hm : behindInMarks (acmp o) r = false) (ha : PE X l (tA G X W a)) (hb : PE X r (tA G X W b)) : PE X (.Compare l [acmp o] [r] pos) (tE G X W (.cmp o a b)) := by
  refine PE.imp (pe_cmpR (op_C hr o) ha hb hm) fun σ H Q q => ?_
  obtain ⟨δ, F, Kd, Ed, rep, w, ok, oe⟩ := q
  refine two_of rep w oe fun x y δ2 q2 v u H2 F2 e r2 a1 a2 _ => ?_
  cases hx : dat δ2 x with
  | none => rw [hx] at q2; exact q2.elim
  | some d =>
    cases hy : dat δ2 y with
    | none => rw [hx, hy] at q2; exact q2.elim
    | some d' =>
      rw [hx, hy] at q2
      refine ⟨d, d', dat_H r2 a1 hx, dat_H r2 a2 hy, ?_⟩
      have : ∀ b, Kd (.bool b) false δ2 → Q (.bl b) H2 := fun b h => ok _ _ _ h _ H2 F2 e r2 (.bl b)
      cases o with
      | eq => exact ⟨q2.1, this _ q2.2⟩
      | ne => exact ⟨q2.1, this _ q2.2⟩
      | isn => cases d' <;> first | exact q2.elim | exact this _ q2 | (cases d <;> first | exact q2.elim | exact this _ q2)
      | notn => cases d' <;> first | exact q2.elim | exact this _ q2 | (cases d <;> first | exact q2.elim | exact this _ q2)
      | lt => cases d <;> cases d' <;> first | exact q2.elim | exact this _ q2
      | le => cases d <;> cases d' <;> first | exact q2.elim | exact this _ q2
      | gt => cases d <;> cases d' <;> first | exact q2.elim | exact this _ q2
      | ge => cases d <;> cases d' <;> first | exact q2.elim | exact this _ q2
      | inn => cases d' <;> first | exact q2.elim | exact ⟨q2.1, this _ q2.2⟩
      | nin => cases d' <;> first | exact q2.elim | exact ⟨q2.1, this _ q2.2⟩
theorem cop_imp {o : COp} {x y : D} {k k' : Bool → Prop} (h : cop o x y k) (i : ∀ b, k b → k' b) : cop o x y k' := by
  cases o with
  | eq => exact ⟨h.1, i _ h.2⟩
  | ne => exact ⟨h.1, i _ h.2⟩
  | isn => cases y <;> first | exact h.elim | exact i _ h | (cases x <;> first | exact h.elim | exact i _ h)
  | notn => cases y <;> first | exact h.elim | exact i _ h | (cases x <;> first | exact h.elim | exact i _ h)
  | lt => cases x <;> cases y <;> first | exact h.elim | exact i _ h
  | le => cases x <;> cases y <;> first | exact h.elim | exact i _ h
  | gt => cases x <;> cases y <;> first | exact h.elim | exact i _ h
  | ge => cases x <;> cases y <;> first | exact h.elim | exact i _ h
  | inn => cases y <;> first | exact h.elim | exact ⟨h.1, i _ h.2⟩
  | nin => cases y <;> first | exact h.elim | exact ⟨h.1, i _ h.2⟩
theorem s_cmpT {k : Nat} (hr : Room k X.A) {o : COp} {a b : Ex} {l r : Expr} {pos : Pos} (hm : behindInMarks (acmp o) r = false) (ha : PE X l (tA G X W a)) (hb : PE X r (tA G X W b)) : PT X (.Compare l [acmp o] [r] pos) (tT G X W (.cmp o a b)) := by
  refine PT.imp (pt_cmpR (op_C hr o) ha hb hm) fun σ H Q q => ?_
  obtain ⟨δ, F, Kd, Ed, rep, w, ok, oe⟩ := q
  refine two_of rep w oe fun x y δ2 q2 v u H2 F2 e r2 a1 a2 _ => ?_
  cases hx : dat δ2 x with
  | none => rw [hx] at q2; exact q2.elim
  | some d =>
    cases hy : dat δ2 y with
    | none => rw [hx, hy] at q2; exact q2.elim
    | some d' =>
      rw [hx, hy] at q2
      exact ⟨d, d', dat_H r2 a1 hx, dat_H r2 a2 hy, cop_imp q2 fun b h => ⟨b, rfl, ok b _ h H2 F2 e r2⟩⟩
theorem s_cmp2 {kk : Nat} (hr : Room kk X.A) {o p : COp} {a b c : Ex} {l r s : Expr} {pos : Pos} (hm : behindInMarks (acmp p) s = false) (ha : PE X l (tA G X W a)) (hb : PE X r (tA G X W b)) (hc : PE X s (tA G X W c)) :
    PE X (.Compare l [acmp o, acmp p] [r, s] pos) (tE G X W (.cmp2 o p a b c)) := by
  refine PE.imp (pe_chain (op_C hr o) (op_C hr p) ha hb hc hm) fun σ H Q q => ?_
  obtain ⟨δ, F, Kd, Ed, rep, w, ok, oe⟩ := q
  refine two_of rep w oe fun x y δ2 q2 v u H2 F2 e r2 a1 a2 oe2 => ?_
  cases hx : dat δ2 x with
  | none => rw [hx] at q2; exact q2.elim
  | some d =>
    cases hy : dat δ2 y with
    | none => rw [hx, hy] at q2; exact q2.elim
    | some d' =>
      rw [hx, hy] at q2
      refine ⟨d, d', dat_H r2 a1 hx, dat_H r2 a2 hy, cop_imp q2 fun t h => ⟨t, rfl, ?_⟩⟩
      cases t with
      | false =>
        have h : Kd (.bool false) false δ2 := h
        exact ok _ _ _ h _ H2 F2 e r2 (.bl false)
      | true =>
        show tA G X W c σ H2 _
        refine ⟨δ2, F2, _, Ed, r2, ifT h, fun z δ3 q3 v3 H3 F3 e3 r3 a3 => ?_, oe2⟩
        have a2' := a2.go e3.sub
        cases hy3 : dat δ3 y with
        | none => rw [hy3] at q3; exact q3.elim
        | some g =>
          cases hz3 : dat δ3 z with
          | none => rw [hy3, hz3] at q3; exact q3.elim
          | some g' =>
            rw [hy3, hz3] at q3
            exact ⟨g, g', dat_H r3 a2' hy3, dat_H r3 a3 hz3, cop_imp q3 fun t' h' => ok _ _ _ h' _ H3 F3 (e.trans e3) r3 (.bl t')⟩
theorem s_cmp2T {kk : Nat} (hr : Room kk X.A) {o p : COp} {a b c : Ex} {l r s : Expr} {pos : Pos} (hm : behindInMarks (acmp p) s = false) (ha : PE X l (tA G X W a)) (hb : PE X r (tA G X W b)) (hc : PE X s (tA G X W c)) :
    PT X (.Compare l [acmp o, acmp p] [r, s] pos) (tT G X W (.cmp2 o p a b c)) := by
  refine PT.imp (pt_chain (op_C hr o) (op_C hr p) ha hb hc hm) fun σ H Q q => ?_
  obtain ⟨δ, F, Kd, Ed, rep, w, ok, oe⟩ := q
  refine two_of rep w oe fun x y δ2 q2 v u H2 F2 e r2 a1 a2 oe2 => ?_
  cases hx : dat δ2 x with
  | none => rw [hx] at q2; exact q2.elim
  | some d =>
    cases hy : dat δ2 y with
    | none => rw [hx, hy] at q2; exact q2.elim
    | some d' =>
      rw [hx, hy] at q2
      refine ⟨d, d', dat_H r2 a1 hx, dat_H r2 a2 hy, cop_imp q2 fun t h => ⟨t, rfl, ?_⟩⟩
      cases t with
      | false =>
        have h : Kd false δ2 := h
        exact ⟨false, rfl, ok _ _ h H2 F2 e r2⟩
      | true =>
        show tA G X W c σ H2 _
        refine ⟨δ2, F2, _, Ed, r2, ifT h, fun z δ3 q3 v3 H3 F3 e3 r3 a3 => ?_, oe2⟩
        have a2' := a2.go e3.sub
        cases hy3 : dat δ3 y with
        | none => rw [hy3] at q3; exact q3.elim
        | some g =>
          cases hz3 : dat δ3 z with
          | none => rw [hy3, hz3] at q3; exact q3.elim
          | some g' =>
            rw [hy3, hz3] at q3
            exact ⟨g, g', dat_H r3 a2' hy3, dat_H r3 a3 hz3, cop_imp q3 fun t' h' => ⟨t', rfl, ok _ _ h' H3 F3 (e.trans e3) r3⟩⟩
end
end Mi
set_option Elab.async false
set_option linter.all false
set_option maxRecDepth 100000
namespace Mi
open PySem L2 PyProof.Rows
section
variable {G : Gd} {X : Cx} {W : Wz} {δ : Dl} {σ : Sv} {F H : Hp}
theorem RpA.atI {K : Frag} {xs : List V} {ds : List D} {i : Int} {d : D} (r : RpA K H xs ds) (h : atI ds i = some d) : ∃ v, atI xs i = some v ∧ Rp K H v d := by
  unfold L2.atI at h ⊢
  rw [r.len]
  cases e : ixN ds.length i with
  | none => rw [e] at h; cases h
  | some j =>
    rw [e] at h
    obtain ⟨v, h1, h2⟩ := r.getD (show ds[j]? = some d from h)
    exact ⟨v, h1, h2⟩
theorem RpA.cut {K : Frag} {xs : List V} {ds : List D} (r : RpA K H xs ds) (lo hi : Option Int) : RpA K H (cutV xs lo hi) (cutD ds lo hi) := by
  unfold cutV cutD
  rw [r.len]
  exact (r.drop _).take _
theorem dat_scr {x : Ar} {v : V} {ds : List D} (R : Rep X.K W.Z δ σ F H) (a : ArV X F σ x v) (h : dat δ x = some (.dict [(.none, .list ds)])) :
    ∃ (p : Addr) (ns : List Int), v = .ref p ∧ SqL X.K F p (ns.map V.int) ∧ ds = ns.map PyData.int := by
  rcases dat_rp R a h with r | ⟨p, xs, ds', rfl, e0, _, e, r⟩
  · generalize e : (PyData.dict [(.none, .list ds)]) = z at r
    cases r <;> try cases e
    exact ⟨_, _, rfl, by assumption, rfl⟩
  · cases e0
theorem sbs_is {d e : D} {k : D → Prop} (h : sbs d e k) : (∃ xs i g, d = .list xs ∧ e = .int i ∧ atI xs i = some g ∧ k g) ∨ (∃ xs i g, d = .tuple xs ∧ e = .int i ∧ atI xs i = some g ∧ k g) ∨
    ∃ xs i g, d = .dict [(.none, .list xs)] ∧ e = .int i ∧ atI xs i = some g ∧ k g := by
  unfold sbs at h
  split at h
  · obtain ⟨g, h1, h2⟩ := ex_of h
    exact .inl ⟨_, _, g, rfl, rfl, h1, h2⟩
  · obtain ⟨g, h1, h2⟩ := ex_of h
    exact .inr (.inl ⟨_, _, g, rfl, rfl, h1, h2⟩)
  · obtain ⟨g, h1, h2⟩ := ex_of h
    exact .inr (.inr ⟨_, _, g, rfl, rfl, h1, h2⟩)
  · exact h.elim
theorem s_sub {a b : Ex} {l r : Expr} {pos : Pos} (hn : PlainIx r) (ha : PE X l (tA G X W a)) (hb : PE X r (tA G X W b)) : PE X (.Subscript l r pos) (tE G X W (.sub a b)) := by
  refine PE.imp (pe_ix ix_seq ha hb hn) fun σ H Q q => ?_
  obtain ⟨δ, F, Kd, Ed, rep, w, ok, oe⟩ := q
  refine two_of rep w oe fun x y δ2 q2 v u H2 F2 e r2 a1 a2 _ => ?_
  cases hx : dat δ2 x with
  | none => rw [hx] at q2; exact q2.elim
  | some d =>
    cases hy : dat δ2 y with
    | none => rw [hx, hy] at q2; exact q2.elim
    | some d' =>
      rw [hx, hy] at q2
      rcases sbs_is q2 with ⟨ds, i, g, rfl, rfl, h1, h2⟩ | ⟨ds, i, g, rfl, rfl, h1, h2⟩ | ⟨ds, i, g, rfl, rfl, h1, h2⟩
      · obtain ⟨p, xs, rfl, e1, r1⟩ := dat_list r2 a1 hx
        obtain rfl := dat_int r2 a2 hy
        obtain ⟨z, h3, h4⟩ := r1.atI h1
        exact .inl ⟨p, xs, _, z, rfl, rfl, SqL.of e1, h3, ok _ _ _ h2 _ H2 F2 e r2 h4⟩
      · obtain ⟨p, xs, rfl, e1, r1⟩ := dat_tup r2 a1 hx
        obtain rfl := dat_int r2 a2 hy
        obtain ⟨z, h3, h4⟩ := r1.atI h1
        exact .inr (.inl ⟨p, xs, _, z, rfl, rfl, same_t r2.sub e1, h3, ok _ _ _ h2 _ H2 F2 e r2 h4⟩)
      · obtain ⟨p, ns, rfl, e1, rfl⟩ := dat_scr r2 a1 hx
        obtain rfl := dat_int r2 a2 hy
        obtain ⟨z, h3, h4⟩ := (RpA.of_ints (K := X.K) (H := F2) (ns := ns)).atI h1
        exact .inl ⟨p, _, _, z, rfl, rfl, same_l r2.sub e1, h3, ok _ _ _ h2 _ H2 F2 e r2 h4⟩
theorem s_slc {a : Ex} {lo hi : Ox} {l : Expr} {l' h' : Option Expr} {p2 pos : Pos} (ha : PE X l (tA G X W a)) (hl : PO X l' (tOx G X W lo)) (hh : PO X h' (tOx G X W hi)) : PE X (.Subscript l (.Slice l' h' none p2) pos) (tE G X W (.slc a lo hi)) := by
  refine PE.imp (pe_slice (sl_list.or sl_tup) ha hl hh) fun σ H Q q => ?_
  obtain ⟨δ, F, Kd, Ed, rep, w, ok, oe⟩ := q
  refine ⟨δ, F, _, Ed, rep, w, fun x δ1 q1 v H1 F1 e1 r1 a1 => ?_, oe⟩
  refine ⟨δ1, F1, _, Ed, r1, q1, fun lo' δ2 q2 H2 F2 e2 r2 => ?_, oe.go e1⟩
  refine ⟨δ2, F2, _, Ed, r2, q2, fun hi' δ3 q3 H3 F3 e3 r3 => ?_, oe.go (e1.trans e2)⟩
  have a3 : ArV X F3 σ x v := (a1.go e2.sub).go e3.sub
  have g := ok.goes ((e1.trans e2).trans e3)
  cases hx : dat δ3 x with
  | none => rw [hx] at q3; exact q3.elim
  | some d =>
    rw [hx] at q3
    unfold slcd at q3
    cases d <;> first | exact q3.elim | skip
    · obtain ⟨p, xs, rfl, e4, r4⟩ := dat_list r3 a3 hx
      exact .inl ⟨p, xs, rfl, SqL.of e4, fun p hp => g.newL r3 q3 hp (r4.cut _ _)⟩
    · obtain ⟨p, xs, rfl, e4, r4⟩ := dat_tup r3 a3 hx
      exact .inr ⟨p, xs, rfl, same_t r3.sub e4, by rw [r4.len]; exact q3.1, fun p hp => g.newT r3 q3.2 hp (r4.cut _ _)⟩
/-! a value, thrown together -/
theorem s_int {n : Int} {j : Nat} {pos : Pos} : PE X (.Constant (.int n) j pos) (tE G X W (.int n)) :=
  PE.imp pe_int fun σ H Q ⟨δ, F, Kd, Ed, rep, w, ok, oe⟩ => ok _ _ _ w _ H F Ext.refl rep (.int n)
theorem s_bl {n : Bool} {j : Nat} {pos : Pos} : PE X (.Constant (.bool n) j pos) (tE G X W (.bl n)) :=
  PE.imp pe_bl fun σ H Q ⟨δ, F, Kd, Ed, rep, w, ok, oe⟩ => ok _ _ _ w _ H F Ext.refl rep (.bl n)
theorem s_non {j : Nat} {pos : Pos} : PE X (.Constant .none j pos) (tE G X W .non) :=
  PE.imp pe_non fun σ H Q ⟨δ, F, Kd, Ed, rep, w, ok, oe⟩ => ok _ _ _ w _ H F Ext.refl rep .non
theorem s_str {x : Str} {j : Nat} {pos : Pos} : PE X (.Constant (.str x) j pos) (tE G X W (.str x)) :=
  PE.imp pe_str fun σ H Q ⟨δ, F, Kd, Ed, rep, w, ok, oe⟩ => ok _ _ _ w _ H F Ext.refl rep (.str x)
theorem s_var {N : List Str} {i : Nat} {x : Str} {pos : Pos} (hN : X.N = N) (h : okVar N X.env.scope i x = true) : PE X (.Name x pos) (tE G X W (.var i)) := by
  simp [okVar, okNm] at h
  obtain ⟨⟨h1, h2⟩, h3, h4⟩ := h
  refine PE.imp (pe_var (i := i) (by rw [hN]; exact h1) (vis_of h2) (by simpa using h3) (by simpa using h4)) fun σ H Q q => ?_
  obtain ⟨δ, F, Kd, Ed, R, w, ok, oe⟩ := q
  have w : (match look δ i with | some (d, .fro) => Kd d false δ | some (d, .own) => Kd d false (putAt δ i (some (d, .fro))) | _ => False) := w
  cases l : look δ i with
  | none => rw [l] at w; exact w.elim
  | some p =>
    obtain ⟨d, f⟩ := p
    rw [l] at w
    cases f with
    | fro =>
      obtain ⟨v, e, r⟩ := R.fro i d l
      exact ⟨v, e, ok _ _ _ w v H F Ext.refl R r⟩
    | own =>
      obtain ⟨F', v, e, r, R', E'⟩ := R.frzAt l
      exact ⟨v, e, ok _ _ _ w v H F' E' R' r⟩
    | lent => exact w.elim
theorem s_cst {k c : Nat} {x : Str} {pos : Pos} (C : Cxt G X k) (hg : glB X.env.scope x = true) (hn : okNm x = true) (hc : (G.cs[c]?).map (·.1) = some x) : PE X (.Name x pos) (tE G X W (.cst c)) := by
  cases hcs : G.cs[c]? with
  | none => rw [hcs] at hc; cases hc
  | some p =>
    obtain ⟨n, d⟩ := p
    rw [hcs] at hc
    have hc : n = x := by simpa using hc
    subst hc
    obtain ⟨v, u, h1, h2, h3⟩ := C.cst c n d hcs
    simp [okNm] at hn
    refine PE.imp (pe_glob (gl_of hg) h1 h2 (by simpa using hn.1)) fun σ H Q q => ?_
    obtain ⟨δ, F, Kd, Ed, R, w, ok, oe⟩ := q
    have w : onS G.cs[c]? fun c => Kd c.2 false δ := w
    rw [hcs] at w
    exact ok _ _ _ w v H F Ext.refl R (h3 F)
theorem s_neg {a : Ex} {l : Expr} {pos : Pos} (ha : PE X l (tE G X W a)) : PE X (.UnaryOp .USub l pos) (tE G X W (.neg a)) := by
  refine PE.imp (pe_un un_neg ha) fun σ H Q q => ?_
  obtain ⟨δ, F, Kd, Ed, R, w, ok, oe⟩ := q
  refine ⟨δ, F, _, Ed, R, w, fun d fr δ1 q1 v H1 F1 e1 r1 rr => ?_, oe⟩
  cases d <;> first | exact q1.elim | skip
  rename_i i
  have : v = .int i := by
    cases fr with
    | false => cases (show Rp X.K F1 v (.int i) from rr); rfl
    | true => obtain ⟨p, xs, ds, _, e, _⟩ := rr; cases e
  subst this
  exact ⟨i, rfl, ok _ _ _ q1 _ H1 F1 e1 r1 (.int _)⟩
theorem rr_bool {c : Bool} {v : V} {fr : Bool} (rr : RRep X.K W.Z δ σ F H v (.bool c) fr) : v = .bl c := by
  cases fr with
  | false => cases (show Rp X.K F v (.bool c) from rr); rfl
  | true => obtain ⟨p, xs, ds, _, e, _⟩ := rr; cases e
theorem rr_int {c : Int} {v : V} {fr : Bool} (rr : RRep X.K W.Z δ σ F H v (.int c) fr) : v = .int c := by
  cases fr with
  | false => cases (show Rp X.K F v (.int c) from rr); rfl
  | true => obtain ⟨p, xs, ds, _, e, _⟩ := rr; cases e
theorem s_not {a : Ex} {l : Expr} {pos : Pos} (ha : PE X l (tE G X W a)) : PE X (.UnaryOp .Not l pos) (tE G X W (.not a)) := by
  refine PE.imp (pe_not ha) fun σ H Q q => ?_
  obtain ⟨δ, F, Kd, Ed, R, w, ok, oe⟩ := q
  refine ⟨δ, F, _, Ed, R, w, fun d fr δ1 q1 v H1 F1 e1 r1 rr => ?_, oe⟩
  cases d <;> first | exact q1.elim | skip
  obtain rfl := rr_bool rr
  exact ⟨_, rfl, ok _ _ _ q1 _ H1 F1 e1 r1 (.bl _)⟩
theorem s_one {a : Ex} {op : PySem.BoolOp} {l : Expr} {pos : Pos} (ha : PE X l (tE G X W a)) : PE X (.BoolOp op [l] pos) (tE G X W (.one a)) :=
  PE.imp (pe_one ha) fun σ H Q ⟨δ, F, Kd, Ed, R, w, ok, oe⟩ => ⟨δ, F, Kd, Ed, R, w, ok, oe⟩
theorem s_and {a b : Ex} {l m : Expr} {r : List Expr} {pos : Pos} (ha : PE X l (tE G X W a)) (hb : PE X (.BoolOp .And (m :: r) pos) (tE G X W b)) : PE X (.BoolOp .And (l :: m :: r) pos) (tE G X W (.and a b)) := by
  refine PE.imp (pe_and ha hb) fun σ H Q q => ?_
  obtain ⟨δ, F, Kd, Ed, R, w, ok, oe⟩ := q
  refine ⟨δ, F, _, Ed, R, w, fun d fr δ1 q1 v H1 F1 e1 r1 rr => ?_, oe⟩
  cases d <;> first | exact q1.elim | skip
  rename_i c
  obtain rfl := rr_bool rr
  refine ⟨c, rfl, ?_⟩
  cases c with
  | true => exact ⟨δ1, F1, Kd, Ed, r1, ifT q1, ok.go e1, oe.go e1⟩
  | false => exact ok _ _ _ (ifF q1) _ H1 F1 e1 r1 (.bl _)
theorem s_or {a b : Ex} {l m : Expr} {r : List Expr} {pos : Pos} (ha : PE X l (tE G X W a)) (hb : PE X (.BoolOp .Or (m :: r) pos) (tE G X W b)) : PE X (.BoolOp .Or (l :: m :: r) pos) (tE G X W (.or a b)) := by
  refine PE.imp (pe_or ha hb) fun σ H Q q => ?_
  obtain ⟨δ, F, Kd, Ed, R, w, ok, oe⟩ := q
  refine ⟨δ, F, _, Ed, R, w, fun d fr δ1 q1 v H1 F1 e1 r1 rr => ?_, oe⟩
  cases d <;> first | exact q1.elim | skip
  rename_i c
  obtain rfl := rr_bool rr
  refine ⟨c, rfl, ?_⟩
  cases c with
  | false => exact ⟨δ1, F1, Kd, Ed, r1, ifF q1, ok.go e1, oe.go e1⟩
  | true => exact ok _ _ _ (ifT q1) _ H1 F1 e1 r1 (.bl _)
theorem tE_frz {a : Ex} {Q : VK} {Kd : KD} {Ed : XD} (R : Rep X.K W.Z δ σ F H) (w : wpE G W.z a δ (fun d _ δ2 => Kd d false δ2) Ed) (ok : OkK X W δ σ F H Kd Q) (oe : OkE G X W δ σ F H Ed) : tE G X W a σ H Q :=
  ⟨δ, F, _, Ed, R, w, fun d fr δ2 q v H' F' e r rr => by
    obtain ⟨F2, e2, r2, rp⟩ := rr.frz r
    exact ok _ _ _ q v H' F2 (e.trans e2) r2 rp, oe⟩
theorem s_ite {c a b : Ex} {c' a' b' : Expr} {pos : Pos} (hc : PT X c' (tT G X W c)) (ha : PE X a' (tE G X W a)) (hb : PE X b' (tE G X W b)) : PE X (.IfExp c' a' b' pos) (tE G X W (.ite c a b)) := by
  refine PE.imp (pe_ifExp hc ha hb) fun σ H Q q => ?_
  obtain ⟨δ, F, Kd, Ed, R, w, ok, oe⟩ := q
  refine ⟨δ, F, _, Ed, R, w, fun t δ1 q1 H1 F1 e1 r1 => ?_, oe⟩
  cases t with
  | true => exact tE_frz r1 (ifT q1) (ok.go e1) (oe.go e1)
  | false => exact tE_frz r1 (ifF q1) (ok.go e1) (oe.go e1)
theorem s_tup {as : Exs} {es : List Expr} {j : Nat} {pos : Pos} (h : PA X es (tVs G X W as)) : PE X (.Tuple es j pos) (tE G X W (.tup as)) := by
  refine PE.imp (pe_tup h) fun σ H Q q => ?_
  obtain ⟨δ, F, Kd, Ed, R, w, ok, oe⟩ := q
  refine ⟨δ, F, _, Ed, R, w, fun ds δ1 q1 vs H1 F1 e1 r1 ra => ?_, oe⟩
  refine ⟨by rw [ra.len]; exact line1e6 q1.1, fun p hp => (ok.goes e1).newT r1 q1.2 hp ra⟩
theorem s_lst {as : Exs} {es : List Expr} {pos : Pos} (h : PA X es (tVs G X W as)) : PE X (.List es pos) (tE G X W (.lst as)) := by
  refine PE.imp (pe_lst h) fun σ H Q q => ?_
  obtain ⟨δ, F, Kd, Ed, R, w, ok, oe⟩ := q
  refine ⟨δ, F, _, Ed, R, w, fun ds δ1 q1 vs H1 F1 e1 r1 ra => ?_, oe⟩
  refine ⟨by rw [ra.len]; exact line1e6 q1.1, fun p hp => (ok.goes e1).newL r1 q1.2 hp ra⟩
theorem s_vnil : PA X [] (tVs G X W .nil) := PA.imp pa_nil fun σ H Q ⟨δ, F, Kd, Ed, R, w, ok, oe⟩ => ok _ _ w _ H F Ext.refl R .nil
theorem s_vcons {m : Ex} {ms : Exs} {e : Expr} {es : List Expr} (hn : nice e = true) (h : PE X e (tE G X W m)) (hs : PA X es (tVs G X W ms)) : PA X (e :: es) (tVs G X W (.cons m ms)) := by
  refine PA.imp (pa_cons h hs (star_of hn)) fun σ H Q q => ?_
  obtain ⟨δ, F, Kd, Ed, R, w, ok, oe⟩ := q
  refine ⟨δ, F, _, Ed, R, w, fun d fr δ1 q1 v H1 F1 e1 r1 rr => ?_, oe⟩
  obtain ⟨F2, e2, r2, rp⟩ := rr.frz r1
  refine ⟨δ1, F2, _, Ed, r2, q1, fun ds δ3 q3 vs H3 F3 e3 r3 ra => ok _ _ q3 _ H3 F3 ((e1.trans e2).trans e3) r3 (.cons (rp.mono e3.sub) ra), oe.go (e1.trans e2)⟩
theorem s_anil : PA X [] (tAs G X W .nil) := PA.imp pa_nil fun σ H Q ⟨δ, F, Kd, Ed, R, w, ok, oe⟩ => ok _ _ w _ H F Ext.refl R trivial
theorem s_acons {m : Ex} {ms : Exs} {e : Expr} {es : List Expr} (hn : nice e = true) (h : PE X e (tA G X W m)) (hs : PA X es (tAs G X W ms)) : PA X (e :: es) (tAs G X W (.cons m ms)) := by
  refine PA.imp (pa_cons h hs (star_of hn)) fun σ H Q q => ?_
  obtain ⟨δ, F, Kd, Ed, R, w, ok, oe⟩ := q
  refine ⟨δ, F, _, Ed, R, w, fun x δ1 q1 v H1 F1 e1 r1 a1 => ?_, oe⟩
  exact ⟨δ1, F1, _, Ed, r1, q1, fun xs δ3 q3 vs H3 F3 e3 r3 ra => ok _ _ q3 _ H3 F3 (e1.trans e3) r3 ⟨a1.go e3.sub, ra⟩, oe.go e1⟩
theorem s_ono : PO X none (tOx G X W .no) := PO.imp po_none fun σ H Q ⟨δ, F, Kd, Ed, R, w, ok, oe⟩ => ok _ _ w H F Ext.refl R
theorem s_oso {m : Ex} {e : Expr} (h : PE X e (tE G X W m)) : PO X (some e) (tOx G X W (.so m)) := by
  refine PO.imp (po_some h) fun σ H Q q => ?_
  obtain ⟨δ, F, Kd, Ed, R, w, ok, oe⟩ := q
  refine ⟨δ, F, _, Ed, R, w, fun d fr δ1 q1 v H1 F1 e1 r1 rr => ?_, oe⟩
  cases d <;> first | exact q1.elim | skip
  obtain rfl := rr_int rr
  exact ⟨_, rfl, ok _ _ q1 H1 F1 e1 r1⟩
/-! tests -/
theorem truth_ok {x : D} {v : V} {b : Bool} {K : Frag} (r : Rp K H v x) (h : truth x = some b) : TruV K v H b := by
  cases r with
  | non => cases h; rfl
  | bl c => cases h; rfl
  | int i => cases h; rfl
  | str s => cases h
  | lst e r => 
    cases h
    refine .inl ⟨_, SqL.of e, ?_⟩
    cases r <;> rfl
  | tup e r =>
    cases h
    refine .inr (.inl ⟨_, e, ?_⟩)
    cases r <;> rfl
  | scr _ => cases h
theorem s_notT {a : Ex} {l : Expr} {pos : Pos} (ha : PT X l (tT G X W a)) : PT X (.UnaryOp .Not l pos) (tT G X W (.not a)) := by
  refine PT.imp (pt_not ha) fun σ H Q q => ?_
  obtain ⟨δ, F, Kd, Ed, R, w, ok, oe⟩ := q
  exact ⟨δ, F, _, Ed, R, w, fun t δ1 q1 H1 F1 e1 r1 => ok _ _ q1 H1 F1 e1 r1, oe⟩
theorem s_oneA {a : Ex} {l : Expr} {pos : Pos} (ha : PT X l (tT G X W a)) : PW X (.BoolOp .And [l] pos) (tT G X W (.one a)) :=
  PW.imp (pw_and1 ha) fun σ H Q ⟨δ, F, Kd, Ed, R, w, ok, oe⟩ => ⟨δ, F, Kd, Ed, R, w, ok, oe⟩
theorem s_oneO {a : Ex} {l : Expr} {pos : Pos} (ha : PT X l (tT G X W a)) : PW X (.BoolOp .Or [l] pos) (tT G X W (.one a)) :=
  PW.imp (pw_or1 ha) fun σ H Q ⟨δ, F, Kd, Ed, R, w, ok, oe⟩ => ⟨δ, F, Kd, Ed, R, w, ok, oe⟩
theorem s_andT {a b : Ex} {l m : Expr} {r : List Expr} {pos : Pos} (ha : PT X l (tT G X W a)) (hb : PW X (.BoolOp .And (m :: r) pos) (tT G X W b)) : PW X (.BoolOp .And (l :: m :: r) pos) (tT G X W (.and a b)) := by
  refine PW.imp (pw_and ha hb) fun σ H Q q => ?_
  obtain ⟨δ, F, Kd, Ed, R, w, ok, oe⟩ := q
  refine ⟨δ, F, _, Ed, R, w, fun t δ1 q1 H1 F1 e1 r1 => ?_, oe⟩
  cases t with
  | true => exact ⟨δ1, F1, Kd, Ed, r1, ifT q1, fun b δ2 q2 H2 F2 e2 r2 => ok b δ2 q2 H2 F2 (e1.trans e2) r2, oe.go e1⟩
  | false => exact ok _ _ (ifF q1) H1 F1 e1 r1
theorem s_orT {a b : Ex} {l m : Expr} {r : List Expr} {pos : Pos} (ha : PT X l (tT G X W a)) (hb : PW X (.BoolOp .Or (m :: r) pos) (tT G X W b)) : PW X (.BoolOp .Or (l :: m :: r) pos) (tT G X W (.or a b)) := by
  refine PW.imp (pw_or ha hb) fun σ H Q q => ?_
  obtain ⟨δ, F, Kd, Ed, R, w, ok, oe⟩ := q
  refine ⟨δ, F, _, Ed, R, w, fun t δ1 q1 H1 F1 e1 r1 => ?_, oe⟩
  cases t with
  | false => exact ⟨δ1, F1, Kd, Ed, r1, ifF q1, fun b δ2 q2 H2 F2 e2 r2 => ok b δ2 q2 H2 F2 (e1.trans e2) r2, oe.go e1⟩
  | true => exact ok _ _ (ifT q1) H1 F1 e1 r1
end
end Mi
set_option Elab.async false
set_option linter.all false
set_option maxRecDepth 100000
namespace Mi
open PySem L2 PyProof.Rows
section
variable {G : Gd} {X : Cx} {W : Wz} {δ : Dl} {σ : Sv} {F H : Hp}
/-! ### built-ins -/
theorem dat_bool {x : Ar} {v : V} {i : Bool} (R : Rep X.K W.Z δ σ F H) (a : ArV X F σ x v) (h : dat δ x = some (.bool i)) : v = .bl i := by
  cases dat_H R a h; rfl
theorem dats_one {x : List Ar} {vs : List V} {d : D} (a : ArVs X F σ x vs) (h : dats δ x = some [d]) : ∃ y v, x = [y] ∧ vs = [v] ∧ ArV X F σ y v ∧ dat δ y = some d := by
  cases x with
  | nil => simp [dats] at h
  | cons y r =>
    cases vs with
    | nil => exact a.elim
    | cons v vs =>
      unfold dats at h
      split at h
      · rename_i d0 ds0 h1 h2
        cases h
        cases r with
        | nil =>
          cases vs with
          | nil => exact ⟨y, v, rfl, rfl, a.1, h1⟩
          | cons _ _ => exact a.2.elim
        | cons z r =>
          unfold dats at h2
          split at h2 <;> cases h2
      · cases h
theorem dats_two {x : List Ar} {vs : List V} {d e : D} (a : ArVs X F σ x vs) (h : dats δ x = some [d, e]) : ∃ y v z u, x = [y, z] ∧ vs = [v, u] ∧ ArV X F σ y v ∧ dat δ y = some d ∧ ArV X F σ z u ∧ dat δ z = some e := by
  cases x with
  | nil => simp [dats] at h
  | cons y r =>
    cases vs with
    | nil => exact a.elim
    | cons v vs =>
      unfold dats at h
      split at h
      · rename_i d0 ds0 h1 h2
        cases h
        obtain ⟨z, u, rfl, rfl, b, h3⟩ := dats_one a.2 h2
        exact ⟨y, v, z, u, rfl, rfl, a.1, h1, b, h3⟩
      · cases h
theorem ints_of : ∀ {xs : List D} {ns : List Int}, intsOf xs = some ns → xs = ns.map PyData.int
  | [], ns, h => by cases h; rfl
  | d :: r, ns, h => by
    cases d <;> simp [intsOf] at h
    obtain ⟨m, h1, rfl⟩ := h
    rw [ints_of h1]; rfl
theorem bools_of : ∀ {xs : List D} {ns : List Bool}, boolsOf xs = some ns → xs = ns.map PyData.bool
  | [], ns, h => by cases h; rfl
  | d :: r, ns, h => by
    cases d <;> simp [boolsOf] at h
    obtain ⟨m, h1, rfl⟩ := h
    rw [bools_of h1]; rfl
theorem dat_items {x : Ar} {v : V} {d : D} {ds : List D} (R : Rep X.K W.Z δ σ F H) (a : ArV X F σ x v) (h : dat δ x = some d) (hi : itemsOf d = some ds) :
    ∃ p xs, v = .ref p ∧ (SqL X.K H p xs ∨ SqT X.K H p xs) ∧ xs.length = ds.length := by
  unfold itemsOf at hi
  split at hi
  · cases hi
    obtain ⟨p, xs, rfl, e, r⟩ := dat_list R a h
    exact ⟨p, xs, rfl, .inl (SqL.of e), r.len⟩
  · cases hi
    obtain ⟨p, xs, rfl, e, r⟩ := dat_tup R a h
    exact ⟨p, xs, rfl, .inr (same_t R.sub e), r.len⟩
  · cases hi
    obtain ⟨p, ns, rfl, e, rfl⟩ := dat_scr R a h
    exact ⟨p, _, rfl, .inl (same_l R.sub e), by simp⟩
  · cases hi
def isTyF : Bf → Bool
  | .tuple => true
  | .list => true
  | .int => true
  | _ => false
def rF (K : Frag) : Bf → List V → Hp → VK → Prop
  | .len => fun xs H Q => ∃ p ys, xs = [.ref p] ∧ (SqL K H p ys ∨ SqT K H p ys) ∧ Q (.int ys.length) H
  | .abs => fun xs H Q => ∃ i, xs = [.int i] ∧ Q (.int (if i < 0 then -i else i)) H
  | .max2 => fun xs H Q => ∃ i j, xs = [.int i, .int j] ∧ Q (.int (if j > i then j else i)) H
  | .min2 => fun xs H Q => ∃ i j, xs = [.int i, .int j] ∧ Q (.int (if j < i then j else i)) H
  | .sum => rSum K
  | .max => rMax K
  | .min => rMin K
  | .tuple => fun xs H Q => ∃ p ys, xs = [.ref p] ∧ ((SqL K H p ys ∧ ∀ l, H l = none → Q (.ref l) (upd H l (.tup ys))) ∨ (SqT K H p ys ∧ Q (.ref p) H))
  | .list => fun xs H Q => ∃ p ys, xs = [.ref p] ∧ (SqL K H p ys ∨ SqT K H p ys) ∧ ∀ l, H l = none → Q (.ref l) (upd H l (.lst ys))
  | .all => rAll K
  | .any => rAny K
  | .int => fun xs H Q => (∃ i, xs = [.int i] ∧ Q (.int i) H) ∨ ∃ k, xs = [.bl k] ∧ Q (.int (if k then 1 else 0)) H
def bid : Bf → String
  | .len => "len" | .abs => "abs" | .max2 => "max" | .min2 => "min" | .sum => "sum" | .max => "max" | .min => "min" | .tuple => "tuple" | .list => "list" | .all => "all" | .any => "any" | .int => "int"
theorem pe_F {k : Nat} (C : Cxt G X k) {f : Bf} {x : Str} {p pos : Pos} {e : Expr} {es : List Expr} {t : TA} (hx : x = bnm f) (hg : glB X.env.scope x = true) (hn : nice e = true) (hns : es.all nice = true) (ha : PA X (e :: es) t) :
    PE X (.Call (.Name x p) (e :: es) [] pos) (tCB (rF X.K f) t) := by
  subst hx
  have hg := gl_of hg
  have he := star_of (es := es) (env := X.env) hn
  have hpl := plain_of (e := e) (pos := pos) (env := X.env) hns
  have z : ∀ n ∈ bltNames, X.mg n = none := C.blt
  cases f
  · exact pe_callB call_len_seq hg (z _ (by decide +kernel)) (by decide +kernel) ha (by decide +kernel) (by decide +kernel) he hpl
  · exact pe_callB call_abs hg (z _ (by decide +kernel)) (by decide +kernel) ha (by decide +kernel) (by decide +kernel) he hpl
  · exact pe_callB (call_max2 C.calm) hg (z _ (by decide +kernel)) (by decide +kernel) ha (by decide +kernel) (by decide +kernel) he hpl
  · exact pe_callB (call_min2 C.calm) hg (z _ (by decide +kernel)) (by decide +kernel) ha (by decide +kernel) (by decide +kernel) he hpl
  · exact pe_callB (cr_sum C.calm) hg (z _ (by decide +kernel)) (by decide +kernel) ha (by decide +kernel) (by decide +kernel) he hpl
  · exact pe_callB (cr_max C.calm) hg (z _ (by decide +kernel)) (by decide +kernel) ha (by decide +kernel) (by decide +kernel) he hpl
  · exact pe_callB (cr_min C.calm) hg (z _ (by decide +kernel)) (by decide +kernel) ha (by decide +kernel) (by decide +kernel) he hpl
  · exact pe_callTy call_tuple_of hg (z _ (by decide +kernel)) (by decide +kernel) ha (by decide +kernel) (by decide +kernel) he hpl
  · exact pe_callTy call_list_of hg (z _ (by decide +kernel)) (by decide +kernel) ha (by decide +kernel) (by decide +kernel) he hpl
  · exact pe_callB (cr_all C.calm) hg (z _ (by decide +kernel)) (by decide +kernel) ha (by decide +kernel) (by decide +kernel) he hpl
  · exact pe_callB (cr_any C.calm) hg (z _ (by decide +kernel)) (by decide +kernel) ha (by decide +kernel) (by decide +kernel) he hpl
  · exact pe_callTy call_int1 hg (z _ (by decide +kernel)) (by decide +kernel) ha (by decide +kernel) (by decide +kernel) he hpl
theorem blt_ok {f : Bf} {xs : List Ar} {vs : List V} {ds : List D} {k : D → Bool → Prop} {Q : VK} (R : Rep X.K W.Z δ σ F H) (a : ArVs X F σ xs vs) (hd : dats δ xs = some ds) (h : blt f ds k) (g : Goes X W.Z δ σ F H k Q) : rF X.K f vs H Q := by
  unfold blt at h
  split at h
  · obtain ⟨es, h1, h2⟩ := ex_of h
    obtain ⟨y, v, rfl, rfl, a1, e1⟩ := dats_one a hd
    obtain ⟨p, zs, rfl, s, l⟩ := dat_items R a1 e1 h1
    exact ⟨p, zs, rfl, s, by rw [l]; exact g.here R h2 (.int _)⟩
  · obtain ⟨y, v, rfl, rfl, a1, e1⟩ := dats_one a hd
    obtain rfl := dat_int R a1 e1
    exact ⟨_, rfl, g.here R h (.int _)⟩
  · obtain ⟨y, v, z, u, rfl, rfl, a1, e1, a2, e2⟩ := dats_two a hd
    obtain rfl := dat_int R a1 e1
    obtain rfl := dat_int R a2 e2
    exact ⟨_, _, rfl, g.here R h (.int _)⟩
  · obtain ⟨y, v, z, u, rfl, rfl, a1, e1, a2, e2⟩ := dats_two a hd
    obtain rfl := dat_int R a1 e1
    obtain rfl := dat_int R a2 e2
    exact ⟨_, _, rfl, g.here R h (.int _)⟩
  · obtain ⟨ns, h1, h2⟩ := ex_of h
    obtain ⟨y, v, rfl, rfl, a1, e1⟩ := dats_one a hd
    obtain ⟨p, zs, rfl, e2, r⟩ := dat_list R a1 e1
    rw [ints_of h1] at r
    rw [r.ints] at e2
    exact ⟨p, ns, rfl, SqL.of e2, g.here R h2 (.int _)⟩
  · obtain ⟨ns, h1, h0, h2⟩ := h
    obtain ⟨y, v, rfl, rfl, a1, e1⟩ := dats_one a hd
    obtain ⟨p, zs, rfl, e2, r⟩ := dat_list R a1 e1
    rw [ints_of h1] at r
    rw [r.ints] at e2
    exact ⟨p, ns, rfl, SqL.of e2, h0, fun m hm hy => g.here R (h2 m hm hy) (.int _)⟩
  · obtain ⟨ns, h1, h0, h2⟩ := h
    obtain ⟨y, v, rfl, rfl, a1, e1⟩ := dats_one a hd
    obtain ⟨p, zs, rfl, e2, r⟩ := dat_list R a1 e1
    rw [ints_of h1] at r
    rw [r.ints] at e2
    exact ⟨p, ns, rfl, SqL.of e2, h0, fun m hm hy => g.here R (h2 m hm hy) (.int _)⟩
  · obtain ⟨y, v, rfl, rfl, a1, e1⟩ := dats_one a hd
    obtain ⟨p, zs, rfl, e2, r⟩ := dat_list R a1 e1
    exact ⟨p, zs, rfl, .inl ⟨SqL.of e2, fun l hl => g.newT R h hl r⟩⟩
  · obtain ⟨y, v, rfl, rfl, a1, e1⟩ := dats_one a hd
    obtain ⟨p, zs, rfl, e2, r⟩ := dat_tup R a1 e1
    exact ⟨p, zs, rfl, .inr ⟨same_t R.sub e2, g.here R h (.tup e2 r)⟩⟩
  · obtain ⟨y, v, rfl, rfl, a1, e1⟩ := dats_one a hd
    obtain ⟨p, zs, rfl, e2, r⟩ := dat_list R a1 e1
    exact ⟨p, zs, rfl, .inl (SqL.of e2), fun l hl => g.newL R h hl r⟩
  · obtain ⟨y, v, rfl, rfl, a1, e1⟩ := dats_one a hd
    obtain ⟨p, zs, rfl, e2, r⟩ := dat_tup R a1 e1
    exact ⟨p, zs, rfl, .inr (same_t R.sub e2), fun l hl => g.newL R h hl r⟩
  · obtain ⟨ns, h1, h2⟩ := ex_of h
    obtain ⟨y, v, rfl, rfl, a1, e1⟩ := dats_one a hd
    obtain ⟨p, zs, rfl, e2, r⟩ := dat_list R a1 e1
    rw [bools_of h1] at r
    rw [r.bools] at e2
    exact ⟨p, ns, rfl, SqL.of e2, g.here R h2 (.bl _)⟩
  · obtain ⟨ns, h1, h2⟩ := ex_of h
    obtain ⟨y, v, rfl, rfl, a1, e1⟩ := dats_one a hd
    obtain ⟨p, zs, rfl, e2, r⟩ := dat_list R a1 e1
    rw [bools_of h1] at r
    rw [r.bools] at e2
    exact ⟨p, ns, rfl, SqL.of e2, g.here R h2 (.bl _)⟩
  · obtain ⟨y, v, rfl, rfl, a1, e1⟩ := dats_one a hd
    obtain rfl := dat_int R a1 e1
    exact .inl ⟨_, rfl, g.here R h (.int _)⟩
  · obtain ⟨y, v, rfl, rfl, a1, e1⟩ := dats_one a hd
    obtain rfl := dat_bool R a1 e1
    exact .inr ⟨_, rfl, g.here R h (.int _)⟩
  · exact h.elim
theorem nices : ∀ {N : List Str} {sc : Scope} {as : Exs} {es : List Expr}, okEs G N sc as es = true → es.all nice = true
  | _, _, .nil, [], _ => rfl
  | _, _, .nil, _ :: _, h => by simp [okEs] at h
  | _, _, .cons _ _, [], h => by simp [okEs] at h
  | N, sc, .cons m ms, e :: es, h => by
    simp only [okEs, Bool.and_eq_true] at h
    simp only [List.all_cons, Bool.and_eq_true]
    exact ⟨h.1.1, nices h.2⟩
theorem s_blt {k : Nat} (C : Cxt G X k) {f : Bf} {as : Exs} {x : Str} {p pos : Pos} {e : Expr} {es : List Expr} (hx : x = bnm f) (hg : glB X.env.scope x = true) (hn : nice e = true) (hns : es.all nice = true) (ha : PA X (e :: es) (tAs G X W as)) :
    PE X (.Call (.Name x p) (e :: es) [] pos) (tE G X W (.blt f as)) := by
  refine PE.imp (pe_F C hx hg hn hns ha) fun σ H Q q => ?_
  obtain ⟨δ, F, Kd, Ed, R, w, ok, oe⟩ := q
  refine ⟨δ, F, _, Ed, R, w, fun xs δ1 q1 vs H1 F1 e1 r1 a1 => ?_, oe⟩
  obtain ⟨ds, hd, q1⟩ := ex_of q1
  exact blt_ok r1 a1 hd q1 (ok.goes e1)
/-! ### isinstance -/
theorem kit_bool (ty : Ty) : kitB "bool" (tnm ty) = some (isT (.bool true) ty) := by cases ty <;> decide +kernel
theorem kit_int (ty : Ty) : kitB "int" (tnm ty) = some (isT (.int 0) ty) := by cases ty <;> decide +kernel
theorem kit_str (ty : Ty) : kitB "str" (tnm ty) = some (isT (.str "") ty) := by cases ty <;> decide +kernel
theorem kit_list (ty : Ty) : kitB "list" (tnm ty) = some (isT (.list []) ty) := by cases ty <;> decide +kernel
theorem kit_tuple (ty : Ty) : kitB "tuple" (tnm ty) = some (isT (.tuple []) ty) := by cases ty <;> decide +kernel
theorem ty_of {d : D} {v : V} {K : Frag} (r : Rp K H v d) (hs : isScr d = false) : ∃ t : String, TyX K H v (.type t) ∧ ∀ ty : Ty, kitB t (tnm ty) = some (isT d ty) := by
  have hk : ∀ t : String, (∀ ty : Ty, kitB t (tnm ty) = some (isT d ty)) → TyX K H v (.type t) → ∃ t : String, TyX K H v (.type t) ∧ ∀ ty : Ty, kitB t (tnm ty) = some (isT d ty) := fun t a b => ⟨t, b, a⟩
  cases r with
  | non => exact hk "NoneType" (by intro ty; cases ty <;> decide +kernel) (.base .non)
  | bl b => exact hk "bool" (fun ty => by rw [show isT _ ty = isT (.bool true) ty by cases ty <;> rfl]; exact kit_bool ty) (.base (.bl b))
  | int b => exact hk "int" (fun ty => by rw [show isT _ ty = isT (.int 0) ty by cases ty <;> rfl]; exact kit_int ty) (.base (.int b))
  | str b => exact hk "str" (fun ty => by rw [show isT _ ty = isT (.str "") ty by cases ty <;> rfl]; exact kit_str ty) (.base (.str b))
  | lst e _ => exact hk "list" (fun ty => by rw [show isT _ ty = isT (.list []) ty by cases ty <;> rfl]; exact kit_list ty) (.base (.lst e))
  | tup e _ =>
    refine hk "tuple" (fun ty => by rw [show isT _ ty = isT (.tuple []) ty by cases ty <;> rfl]; exact kit_tuple ty) ?_
    rcases e with (e | ⟨o, e⟩) | ⟨o, its, n, h1, h2, _⟩
    · exact .base (.tup e)
    · exact .fTuple e
    · exact .kTuple h1 h2
  | scr _ => cases hs
theorem s_isi {k : Nat} (C : Cxt G X k) {a : Ex} {t : Ty} {x y : Str} {p p2 pos : Pos} {e : Expr} (hx : x = "isinstance") (hg : glB X.env.scope x = true) (hy : y = Str.ofString (tnm t)) (hgy : glB X.env.scope y = true) (hn : nice e = true) (ha : PE X e (tA G X W a)) :
    PE X (.Call (.Name x p) [e, .Name y p2] [] pos) (tE G X W (.isi a t)) := by
  subst hx
  have z : ∀ n ∈ bltNames, X.mg n = none := C.blt
  have hT : PE X (.Name y p2) (tC (.ty (tnm t))) := by
    subst hy
    have hgy := gl_of hgy
    cases t
    · exact pe_bltn hgy (z _ (by decide +kernel)) (v := .ty "int") (u := .type "int") (by decide +kernel) rfl (by decide +kernel) (by decide +kernel)
    · exact pe_bltn hgy (z _ (by decide +kernel)) (v := .ty "bool") (u := .type "bool") (by decide +kernel) rfl (by decide +kernel) (by decide +kernel)
    · exact pe_bltn hgy (z _ (by decide +kernel)) (v := .ty "tuple") (u := .type "tuple") (by decide +kernel) rfl (by decide +kernel) (by decide +kernel)
    · exact pe_bltn hgy (z _ (by decide +kernel)) (v := .ty "list") (u := .type "list") (by decide +kernel) rfl (by decide +kernel) (by decide +kernel)
    · exact pe_bltn hgy (z _ (by decide +kernel)) (v := .ty "str") (u := .type "str") (by decide +kernel) rfl (by decide +kernel) (by decide +kernel)
  refine PE.imp (pe_callB call_isi (gl_of hg) (z _ (by decide +kernel)) (by decide +kernel) (pa_cons ha (pa_cons hT pa_nil) (star_of hn)) (by decide +kernel) (by decide +kernel) (star_of hn) rfl) fun σ H Q q => ?_
  obtain ⟨δ, F, Kd, Ed, R, w, ok, oe⟩ := q
  refine ⟨δ, F, _, Ed, R, w, fun x δ1 q1 v H1 F1 e1 r1 a1 => ?_, oe⟩
  cases hd : dat δ1 x with
  | none => rw [hd] at q1; exact q1.elim
  | some d =>
    rw [hd] at q1
    obtain ⟨t', h1, h2⟩ := ty_of (dat_H r1 a1 hd) q1.1
    exact ⟨v, _, _, _, _, rfl, .ty _, h1, h2 t, ok _ _ _ q1.2 _ H1 F1 e1 r1 (.bl _)⟩
/-! ### pop -/
theorem s_pop {N : List Str} {i : Nat} {x m : Str} {pn apos cpos : Pos} (hN : X.N = N) (hm : m = ("pop" : Str)) (hl : apos.endLine = cpos.line) (h : okVar N X.env.scope i x = true) : PE X (.Call (.Attribute (.Name x pn) m apos) [] [] cpos) (tE G X W (.pop i)) := by
  subst hm
  simp [okVar, okNm] at h
  obtain ⟨⟨h1, h2⟩, h3, h4⟩ := h
  refine PE.imp (pe_bm0 PySem.F.plainAttrs_list PySem.F.slot_list_pop PySem.F.type_list_pop mt_pop (pe_var (i := i) (by rw [hN]; exact h1) (vis_of h2) (by simpa using h3) (by simpa using h4)) rfl (by simp [hl])) fun σ H Q q => ?_
  obtain ⟨δ, F, Kd, Ed, R, w, ok, oe⟩ := q
  have w : (match look δ i with
    | some (.list ds, f) => f ≠ .fro ∧ onS ds[ds.length - 1]? fun d => Kd d false (putAt δ i (some (.list ds.dropLast, f)))
    | _ => False) := w
  cases l : look δ i with
  | none => rw [l] at w; exact w.elim
  | some p =>
    obtain ⟨d, f⟩ := p
    rw [l] at w
    cases d <;> first | exact w.elim | skip
    rename_i ds
    obtain ⟨hf, w⟩ := w
    obtain ⟨d, hd, w⟩ := ex_of w
    obtain ⟨a, xs, ds', e0, e2, e3, e4, r⟩ := R.own i _ f l hf
    cases e0
    obtain ⟨v, h5, h6⟩ := r.getD hd
    refine ⟨.ref a, e2, .inl ⟨rfl, xs, SqL.of e4⟩, a, xs, v, rfl, rfl, e4, by rw [r.len]; exact h5, ?_⟩
    obtain ⟨R2, E2⟩ := R.write l hf e2 r.dropLast
    exact ok _ _ _ w v _ F E2 R2 h6
end
end Mi
set_option Elab.async false
set_option linter.all false
set_option maxRecDepth 100000
namespace Mi
open PySem L2 PyProof.Rows
open Classical in
/-- F' without some addresses -/
noncomputable def less (F : Hp) (p : Addr → Prop) : Hp := fun b => if p b then none else F b
theorem less_no {F : Hp} {p : Addr → Prop} {b : Addr} (h : p b) : less F p b = none := by unfold less; rw [if_pos h]
theorem less_ok {F : Hp} {p : Addr → Prop} {b : Addr} (h : ¬ p b) : less F p b = F b := by unfold less; rw [if_neg h]
theorem less_some {F : Hp} {p : Addr → Prop} {b : Addr} {o : HO} (h : less F p b = some o) : ¬ p b ∧ F b = some o := by
  unfold less at h
  split at h
  · cases h
  · exact ⟨by assumption, h⟩
theorem less_same {F : Hp} {p : Addr → Prop} : Same (less F p) F := fun b o h => (less_some h).2

/-! ### slots behind a call -/
theorem look_backAt (ls : List Bool) (as : List Ar) (os : List D) : ∀ (δ : Dl) (n j : Nat), look (backAt ls as os n δ) j = (if j < δ.length then reSl (look δ j) (newOf (n + j) ls as os) else none)
  | [], n, j => by simp [backAt, look]
  | x :: r, n, 0 => by simp [backAt, look]
  | x :: r, n, j + 1 => by
    show look (backAt ls as os (n + 1) r) j = _
    rw [look_backAt ls as os r (n + 1) j]
    have : n + 1 + j = n + (j + 1) := by omega
    rw [this]
    simp [look]
theorem look_none : ∀ {δ : Dl} {j : Nat}, δ.length ≤ j → look δ j = none
  | [], _, _ => rfl
  | x :: r, 0, h => by simp at h
  | x :: r, j + 1, h => look_none (δ := r) (j := j) (by simpa using h)
theorem look_back (δ : Dl) (ls : List Bool) (as : List Ar) (os : List D) (j : Nat) : look (back δ ls as os) j = reSl (look δ j) (newOf j ls as os) := by
  unfold back
  rw [look_backAt]
  split
  · simp
  · rw [look_none (by omega)]; rfl
theorem back_len (ls : List Bool) (as : List Ar) (os : List D) : ∀ (δ : Dl) (n : Nat), (backAt ls as os n δ).length = δ.length
  | [], _ => rfl
  | x :: r, n => by simp [backAt, back_len ls as os r (n + 1)]
theorem look_map (f : Sl → Sl) (h : f none = none) : ∀ (δ : Dl) (j : Nat), look (δ.map f) j = f (look δ j)
  | [], j => by simp [look, h]
  | x :: r, 0 => rfl
  | x :: r, j + 1 => look_map f h r j
theorem all_look {p : Sl → Bool} (hp : p none = true) : ∀ {δ : Dl}, δ.all p = true → ∀ j, p (look δ j) = true
  | [], _, j => hp
  | x :: r, h, 0 => by simp at h; exact h.1
  | x :: r, h, j + 1 => all_look hp (δ := r) (by simp at h ⊢; exact h.2) j
theorem newOf_lent {δ : Dl} : ∀ {ls : List Bool} {as : List Ar} {os : List D} {j : Nat} {d : D}, lentOk δ ls as = true → newOf j ls as os = some d → j ∈ lentIs ls as
  | [], _, _, _, _, _, h => by simp [newOf] at h
  | true :: ls, .ref i :: as, [], j, d, _, h => by simp [newOf] at h
  | true :: ls, .ref i :: as, o :: os, j, d, k, h => by
    simp only [lentOk, Bool.and_eq_true] at k
    unfold newOf at h
    show j ∈ i :: lentIs ls as
    split at h
    · simp_all
    · exact List.mem_cons_of_mem _ (newOf_lent k.2 h)
  | true :: ls, .val v :: as, _, j, d, k, _ => by simp [lentOk] at k
  | false :: ls, a :: as, [], j, d, _, h => by cases a <;> simp [newOf] at h
  | false :: ls, a :: as, o :: os, j, d, k, h => by
    simp only [lentOk] at k
    have h : newOf j ls as os = some d := by cases a <;> exact h
    have := newOf_lent k h
    cases a <;> exact this
  | _ :: ls, [], _, j, d, _, h => by rename_i b _; cases b <;> simp [newOf] at h
theorem lent_own {δ : Dl} : ∀ {ls : List Bool} {as : List Ar} {j : Nat}, lentOk δ ls as = true → j ∈ lentIs ls as → isOwn (look δ j) = true
  | [], as, j, _, h => by simp [lentIs] at h
  | true :: ls, .ref i :: as, j, k, h => by
    simp only [lentOk, Bool.and_eq_true] at k
    have h : j ∈ i :: lentIs ls as := h
    rcases List.mem_cons.mp h with rfl | h
    · exact k.1
    · exact lent_own k.2 h
  | true :: ls, .val v :: as, j, k, h => by simp [lentOk] at k
  | false :: ls, a :: as, j, k, h => by
    simp only [lentOk] at k
    have h : j ∈ lentIs ls as := by cases a <;> exact h
    exact lent_own k h
  | b :: ls, [], j, k, h => by cases b <;> simp [lentIs] at h
theorem lent_new {δ : Dl} : ∀ {ls : List Bool} {as : List Ar} {os : List D} {j : Nat}, lentOk δ ls as = true → os.length = as.length → j ∈ lentIs ls as → ∃ d, newOf j ls as os = some d
  | [], as, _, j, _, _, h => by simp [lentIs] at h
  | true :: ls, .ref i :: as, [], j, k, hl, h => by simp at hl
  | true :: ls, .ref i :: as, o :: os, j, k, hl, h => by
    simp only [lentOk, Bool.and_eq_true] at k
    have h : j ∈ i :: lentIs ls as := h
    unfold newOf
    split
    · exact ⟨_, rfl⟩
    · rcases List.mem_cons.mp h with rfl | h
      · exact absurd rfl (by assumption)
      · exact lent_new k.2 (by simpa using hl) h
  | true :: ls, .val v :: as, _, j, k, _, h => by simp [lentOk] at k
  | false :: ls, a :: as, [], j, k, hl, h => by simp at hl
  | false :: ls, a :: as, o :: os, j, k, hl, h => by
    simp only [lentOk] at k
    have h : j ∈ lentIs ls as := by cases a <;> exact h
    obtain ⟨d, e⟩ := lent_new (os := os) k (by simpa using hl) h
    exact ⟨d, by cases a <;> exact e⟩
  | b :: ls, [], _, j, k, _, h => by cases b <;> simp [lentIs] at h
theorem own_not {s : Sl} (h : isOwn s = true) : ∃ d f, s = some (d, f) ∧ f ≠ .fro := by
  cases s with
  | none => cases h
  | some p =>
    obtain ⟨d, f⟩ := p
    cases f
    · cases h
    · exact ⟨d, _, rfl, by decide⟩
    · exact ⟨d, _, rfl, by decide⟩
theorem reSl_some {s : Sl} {o : Option D} {d : D} {f : Fl} (h : reSl s o = some (d, f)) : ∃ d0, s = some (d0, f) ∧ ((o = none ∧ d0 = d) ∨ o = some d) := by
  cases s with
  | none => cases o <;> cases h
  | some p =>
    obtain ⟨d0, g⟩ := p
    cases o with
    | none => cases h; exact ⟨_, rfl, .inl ⟨rfl, rfl⟩⟩
    | some e => cases h; exact ⟨_, rfl, .inr rfl⟩
section
variable {G : Gd} {X : Cx} {W : Wz} {δ : Dl} {σ : Sv} {F H F' H' : Hp}
/-- the addresses lent -/
def LentAt (σ : Sv) (L : List Nat) (b : Addr) : Prop := ∃ i ∈ L, σ[i]? = some (some (.ref b))
theorem lent_owned {Z : Addr → Prop} (R : Rep X.K Z δ σ F H) {ls : List Bool} {as : List Ar} (k : lentOk δ ls as = true) {b : Addr} (h : LentAt σ (lentIs ls as) b) : Owned δ σ b := by
  obtain ⟨i, hi, e⟩ := h
  obtain ⟨d, f, h1, h2⟩ := own_not (lent_own k hi)
  exact ⟨i, d, f, h1, h2, e⟩
theorem args_ok {Z : Addr → Prop} (R : Rep X.K Z δ σ F H) {L : List Nat} (hL : ∀ i ∈ L, isOwn (look δ i) = true) : ∀ {ls : List Bool} {as : List Ar} {vs : List V} {ds : List D}, lentOk δ ls as = true → (∀ i ∈ lentIs ls as, i ∈ L) → noClash L ls as = true →
    ArVs X F σ as vs → dats δ as = some ds → Args X.K (less H (LentAt σ L)) H ls vs ds := by
  have ow : ∀ b, LentAt σ L b → Owned δ σ b := fun b ⟨i, hi, e⟩ => by
    obtain ⟨d, f, h1, h2⟩ := own_not (hL i hi)
    exact ⟨i, d, f, h1, h2, e⟩
  have sF : Same F (less H (LentAt σ L)) := fun b o h => by
    rw [less_ok fun q => R.not_own h (ow b q)]
    exact R.sub b o h
  intro ls
  induction ls with
  | nil =>
    intro as vs ds k _ _ a hd
    cases as with
    | nil =>
      cases vs with
      | nil => cases hd; trivial
      | cons _ _ => exact a.elim
    | cons _ _ => simp [lentOk] at k
  | cons l ls ih =>
    intro as vs ds k hsub nc a hd
    cases as with
    | nil => cases l <;> simp [lentOk] at k
    | cons x as =>
      cases vs with
      | nil => exact a.elim
      | cons v vs =>
        obtain ⟨a1, a2⟩ := a
        unfold dats at hd
        split at hd
        · rename_i d0 ds0 h1 h2
          cases hd
          cases l with
          | false =>
            have k' : lentOk δ ls as = true := by simpa [lentOk] using k
            have hsub' : ∀ i ∈ lentIs ls as, i ∈ L := fun i hi => hsub i (by cases x <;> exact hi)
            refine ⟨?_, ih k' hsub' (by cases x <;> simp_all [noClash]) a2 h2⟩
            rcases dat_rp R a1 h1 with r | ⟨p, xs, es, rfl, rfl, e1, e2, r⟩
            · exact r.mono sF
            · refine .lst ?_ (r.mono sF)
              rw [less_ok]
              · exact e2
              · rintro ⟨j, hj, e⟩
                cases x with
                | val e0 =>
                  have a1 : Rp X.K F (.ref p) e0 := a1
                  have h1 : e0 = .list es := Option.some.inj h1
                  subst h1
                  cases a1
                  rename_i q _
                  rw [e1] at q
                  cases q
                | ref i =>
                  simp only [noClash, Bool.and_eq_true] at nc
                  obtain ⟨d, f, g1, g2⟩ := own_not (hL j hj)
                  have a1 : σ[i]? = some (some (.ref p)) := a1
                  have h1 : (look δ i).map (·.1) = some (.list es) := h1
                  cases li : look δ i with
                  | none => rw [li] at h1; cases h1
                  | some q =>
                    obtain ⟨d', f'⟩ := q
                    have hf' : f' ≠ .fro := by
                      rintro rfl
                      obtain ⟨u, e3, r3⟩ := R.fro i d' li
                      rw [a1] at e3; cases e3
                      rw [li] at h1
                      have : d' = .list es := by simpa using h1
                      subst this
                      cases r3 with | lst q _ => rw [e1] at q; cases q
                    have := R.inj i j d' d f' f p li hf' g1 g2 a1 e
                    subst this
                    simp_all
          | true =>
            cases x with
            | val _ => simp [lentOk] at k
            | ref i =>
              simp only [lentOk, Bool.and_eq_true] at k
              have hi : i ∈ L := hsub i (by show i ∈ i :: lentIs ls as; simp)
              refine ⟨?_, ih k.2 (fun j hj => hsub j (by show j ∈ i :: lentIs ls as; simp [hj])) (by simpa [noClash] using nc) a2 h2⟩
              obtain ⟨d, f, g1, g2⟩ := own_not k.1
              have a1 : σ[i]? = some (some v) := a1
              have h1 : (look δ i).map (·.1) = some d0 := h1
              rw [g1] at h1
              have : d = d0 := by simpa using h1
              subst this
              obtain ⟨p, xs, es, rfl, e2, e3, e4, r⟩ := R.own i d f g1 g2
              rw [a1] at e2; cases e2
              exact ⟨p, xs, es, rfl, rfl, less_no ⟨i, hi, a1⟩, e4, r.mono sF⟩
        · cases hd
theorem lentVs_in : ∀ {ls : List Bool} {as : List Ar} {vs : List V} {v : V}, lentOk δ ls as = true → ArVs X F σ as vs → v ∈ lentVs ls vs → ∃ i ∈ lentIs ls as, σ[i]? = some (some v)
  | [], as, vs, v, _, _, h => by simp [lentVs] at h
  | b :: ls, [], vs, v, k, _, h => by cases b <;> simp [lentOk] at k
  | b :: ls, x :: as, [], v, _, a, h => a.elim
  | true :: ls, .val d :: as, u :: vs, v, k, a, h => by simp [lentOk] at k
  | true :: ls, .ref i :: as, u :: vs, v, k, a, h => by
    simp only [lentOk, Bool.and_eq_true] at k
    have h : v ∈ u :: lentVs ls vs := h
    rcases List.mem_cons.mp h with rfl | h
    · exact ⟨i, by show i ∈ i :: lentIs ls as; simp, a.1⟩
    · obtain ⟨j, hj, e⟩ := lentVs_in k.2 a.2 h
      exact ⟨j, by show j ∈ i :: lentIs ls as; simp [hj], e⟩
  | false :: ls, x :: as, u :: vs, v, k, a, h => by
    have k : lentOk δ ls as = true := by simpa [lentOk] using k
    have h : v ∈ lentVs ls vs := h
    obtain ⟨j, hj, e⟩ := lentVs_in k a.2 h
    exact ⟨j, by cases x <;> exact hj, e⟩
theorem in_lentVs : ∀ {ls : List Bool} {as : List Ar} {vs : List V} {v : V} {i : Nat}, lentOk δ ls as = true → ArVs X F σ as vs → i ∈ lentIs ls as → σ[i]? = some (some v) → v ∈ lentVs ls vs
  | [], as, vs, v, i, _, _, h, _ => by simp [lentIs] at h
  | b :: ls, [], vs, v, i, k, _, h, _ => by cases b <;> simp [lentOk] at k
  | b :: ls, x :: as, [], v, i, _, a, h, _ => a.elim
  | true :: ls, .val d :: as, u :: vs, v, i, k, a, h, _ => by simp [lentOk] at k
  | true :: ls, .ref j :: as, u :: vs, v, i, k, a, h, e => by
    simp only [lentOk, Bool.and_eq_true] at k
    have h : i ∈ j :: lentIs ls as := h
    have aj : σ[j]? = some (some u) := a.1
    show v ∈ u :: lentVs ls vs
    rcases List.mem_cons.mp h with rfl | h
    · rw [e] at aj; cases aj; simp
    · exact List.mem_cons_of_mem _ (in_lentVs k.2 a.2 h e)
  | false :: ls, x :: as, u :: vs, v, i, k, a, h, e => by
    have k : lentOk δ ls as = true := by simpa [lentOk] using k
    have h : i ∈ lentIs ls as := by cases x <;> exact h
    show v ∈ lentVs ls vs
    exact in_lentVs (as := as) k a.2 h e
theorem lentVs_nodup {Z : Addr → Prop} (R : Rep X.K Z δ σ F H) : ∀ {ls : List Bool} {as : List Ar} {vs : List V}, lentOk δ ls as = true → (lentIs ls as).Nodup → ArVs X F σ as vs → (lentVs ls vs).Nodup
  | [], as, vs, _, _, _ => by simp [lentVs]
  | b :: ls, [], vs, k, _, _ => by cases b <;> simp [lentOk] at k
  | b :: ls, x :: as, [], _, _, a => a.elim
  | true :: ls, .val d :: as, u :: vs, k, _, a => by simp [lentOk] at k
  | true :: ls, .ref i :: as, u :: vs, k, nd, a => by
    have k0 := k
    simp only [lentOk, Bool.and_eq_true] at k
    have nd : (i :: lentIs ls as).Nodup := nd
    rw [List.nodup_cons] at nd
    show (u :: lentVs ls vs).Nodup
    rw [List.nodup_cons]
    refine ⟨fun hm => ?_, lentVs_nodup R k.2 nd.2 a.2⟩
    obtain ⟨j, hj, e⟩ := lentVs_in k.2 a.2 hm
    have ai : σ[i]? = some (some u) := a.1
    obtain ⟨d, f, g1, g2⟩ := own_not k.1
    obtain ⟨d', f', g3, g4⟩ := own_not (lent_own k.2 hj)
    obtain ⟨p, xs, es, _, e2, _⟩ := R.own i d f g1 g2
    rw [ai] at e2; cases e2
    have := R.inj i j d d' f f' p g1 g2 g3 g4 ai e
    subst this
    exact nd.1 hj
  | false :: ls, x :: as, u :: vs, k, nd, a => by
    have k : lentOk δ ls as = true := by simpa [lentOk] using k
    have nd : (lentIs ls as).Nodup := by cases x <;> exact nd
    show (lentVs ls vs).Nodup
    exact lentVs_nodup (as := as) R k nd a.2
theorem outs_at : ∀ {ls : List Bool} {as : List Ar} {vs : List V} {os : List D} {j : Nat} {d : D}, ArVs X F σ as vs → Outs X.K F' H' ls vs os → newOf j ls as os = some d →
    ∃ a xs es, σ[j]? = some (some (.ref a)) ∧ d = .list es ∧ F' a = none ∧ H' a = some (.lst xs) ∧ RpA X.K F' xs es
  | [], as, vs, os, j, d, a, o, h => by simp [newOf] at h
  | b :: ls, [], vs, os, j, d, a, o, h => by cases b <;> simp [newOf] at h
  | b :: ls, x :: as, [], os, j, d, a, o, h => a.elim
  | true :: ls, .val e :: as, u :: vs, [], j, d, a, o, h => by simp [newOf] at h
  | true :: ls, .val e :: as, u :: vs, o1 :: os, j, d, a, o, h => outs_at a.2 o.2 (show newOf j ls as os = some d from h)
  | true :: ls, .ref i :: as, u :: vs, [], j, d, a, o, h => by simp [newOf] at h
  | true :: ls, .ref i :: as, u :: vs, o1 :: os, j, d, a, o, h => by
    unfold newOf at h
    split at h
    · rename_i e; subst e; cases h
      obtain ⟨⟨p, xs, es, rfl, rfl, h1, h2, h3⟩, _⟩ := o
      exact ⟨p, xs, es, a.1, rfl, h1, h2, h3⟩
    · exact outs_at a.2 o.2 h
  | false :: ls, x :: as, u :: vs, [], j, d, a, o, h => by cases x <;> simp [newOf] at h
  | false :: ls, x :: as, u :: vs, o1 :: os, j, d, a, o, h => outs_at a.2 o (show newOf j ls as os = some d by cases x <;> exact h)
theorem lents_smp : ∀ {ls : List Bool} {as : List Ar} {os : List D} {j : Nat} {es : List D}, lentsOk ls os = true → newOf j ls as os = some (.list es) → smpA es = true
  | [], as, os, j, d, _, h => by simp [newOf] at h
  | b :: ls, [], os, j, d, _, h => by cases b <;> simp [newOf] at h
  | true :: ls, .val e :: as, [], j, d, o, h => by simp [newOf] at h
  | true :: ls, .val e :: as, o1 :: os, j, d, o, h => by
    cases o1 <;> simp [lentsOk] at o
    exact lents_smp o.2 (show newOf j ls as os = some (.list d) from h)
  | true :: ls, .ref i :: as, [], j, d, o, h => by simp [newOf] at h
  | true :: ls, .ref i :: as, o1 :: os, j, d, o, h => by
    cases o1 <;> simp [lentsOk] at o
    unfold newOf at h
    split at h
    · cases h; exact o.1
    · exact lents_smp o.2 h
  | false :: ls, x :: as, [], j, d, o, h => by cases x <;> simp [newOf] at h
  | false :: ls, x :: as, o1 :: os, j, d, o, h => lents_smp (show lentsOk ls os = true from o) (show newOf j ls as os = some (.list d) by cases x <;> exact h)
/-- behind a call: the frame's slots stand in what the callee left -/
theorem call_back {Z : Addr → Prop} (R : Rep X.K Z δ σ F H) {ls : List Bool} {as : List Ar} {vs : List V} {os : List D} (k : lentOk δ ls as = true) (a : ArVs X F σ as vs) (hl : os.length = as.length) (lo : lentsOk ls os = true)
    (s1 : Same (less H (LentAt σ (lentIs ls as))) F') (s2 : Same F' H') (o : Outs X.K F' H' ls vs os) :
    ∃ F2, Same F2 F' ∧ (∀ b xs, SqT X.K F' b xs → SqT X.K F2 b xs) ∧ Rep X.K Z (back δ ls as os) σ F2 H' ∧ Ext δ (back δ ls as os) σ F F2 H H' ∧ (∀ b, F' b = none → F2 b = none) ∧ (∀ b, ¬ (Owned δ σ b ∨ Z b) → F2 b = F' b) := by
  have ow : ∀ b, LentAt σ (lentIs ls as) b → Owned δ σ b := fun b q => lent_owned R k q
  -- an owned list's content behind the call: a lent one's, or as before
  have cont : ∀ b, Owned δ σ b → (F' b = none) ∨ ∃ xs, F' b = some (.lst xs) := fun b q => by
    by_cases hl : LentAt σ (lentIs ls as) b
    · obtain ⟨i, hi, e⟩ := hl
      obtain ⟨d, hn⟩ := lent_new (os := os) k (by assumption) hi
      obtain ⟨p, xs, es, e1, _, h1, _⟩ := outs_at a o hn
      rw [e] at e1; cases e1
      exact .inl h1
    · obtain ⟨_, xs, e⟩ := q.there R
      exact .inr ⟨xs, s1 _ _ (by rw [less_ok hl]; exact e)⟩
  have zcont : ∀ b, Z b → ∃ xs, F' b = some (.lst xs) := fun b z => by
    obtain ⟨_, ⟨xs, e⟩, n⟩ := R.zz b z
    exact ⟨xs, s1 _ _ (by rw [less_ok fun q => n (ow b q)]; exact e)⟩
  have sF : Same F (less F' fun b => Owned δ σ b ∨ Z b) := fun b u h => by
    have n : ¬ Owned δ σ b := R.not_own h
    have nz : ¬ Z b := fun z => by rw [(R.zz b z).1] at h; cases h
    rw [less_ok (by rintro (q | q); exact n q; exact nz q)]
    exact s1 _ _ (by rw [less_ok fun q => n (ow b q)]; exact R.sub b u h)
  have sT : ∀ b xs, SqT X.K F' b xs → SqT X.K (less F' fun b => Owned δ σ b ∨ Z b) b xs := fun b xs h => by
    have no : ∀ u, F' b = some u → (∀ ys, u ≠ .lst ys) → ¬ (Owned δ σ b ∨ Z b) := fun u hu hn q => by
      rcases q with q | q
      · rcases cont b q with e | ⟨ys, e⟩
        · rw [hu] at e; cases e
        · rw [hu] at e; cases e; exact hn ys rfl
      · obtain ⟨ys, e⟩ := zcont b q
        rw [hu] at e; cases e; exact hn ys rfl
    rcases h with (h | ⟨u, h⟩) | h
    · exact .inl (.inl (by rw [less_ok (no _ h (by intro ys e; cases e))]; exact h))
    · exact .inl (.inr ⟨u, by rw [less_ok (no _ h (by intro ys e; cases e))]; exact h⟩)
    · exact .inr h
  have old : ∀ j d f, look (back δ ls as os) j = some (d, f) → ∃ d0, look δ j = some (d0, f) := fun j d f h => by
    rw [look_back] at h
    obtain ⟨d0, e, _⟩ := reSl_some h
    exact ⟨d0, e⟩
  have oown : ∀ b, Owned (back δ ls as os) σ b → Owned δ σ b := fun b ⟨j, d, f, h1, h2, h3⟩ => by
    obtain ⟨d0, e⟩ := old j d f h1
    exact ⟨j, d0, f, e, h2, h3⟩
  refine ⟨less F' fun b => Owned δ σ b ∨ Z b, less_same, sT, ⟨by unfold back; rw [back_len]; exact R.len, fun b u h => s2 b u (less_some h).2, fun j d h => ?_, fun j d f h hf => ?_, fun i j d e f g p h1 hf h2 hg s3 s4 => ?_, fun b z => ?_⟩, ⟨sF, oown, fun b u h n => ?_, fun j d h => ?_⟩, fun b h => ?_, fun b n => less_ok n⟩
  · rw [look_back] at h
    obtain ⟨d0, e, c⟩ := reSl_some h
    rcases c with ⟨_, rfl⟩ | c
    · obtain ⟨v, e2, r⟩ := R.fro j d0 e
      exact ⟨v, e2, r.mono sF⟩
    · have := lent_own k (newOf_lent k c)
      rw [e] at this; cases this
  · rw [look_back] at h
    obtain ⟨d0, e, c⟩ := reSl_some h
    rcases c with ⟨c, rfl⟩ | c
    · obtain ⟨p, xs, es, rfl, e2, e3, e4, r⟩ := R.own j d0 f e hf
      refine ⟨p, xs, es, rfl, e2, less_no (.inl ⟨j, _, f, e, hf, e2⟩), ?_, r.mono sF⟩
      refine s2 _ _ (s1 _ _ ?_)
      rw [less_ok]
      · exact e4
      · rintro ⟨i, hi, ei⟩
        obtain ⟨d', f', g1, g2⟩ := own_not (lent_own k hi)
        have := R.inj j i _ d' f f' p e hf g1 g2 e2 ei
        subst this
        obtain ⟨d2, hn⟩ := lent_new (os := os) k hl hi
        rw [c] at hn; cases hn
    · obtain ⟨p, xs, es, e1, rfl, h1, h2, r⟩ := outs_at a o c
      exact ⟨p, xs, es, rfl, e1, less_no (.inl ⟨j, d0, f, e, hf, e1⟩), h2, r.tups sT (lents_smp lo c)⟩
  · obtain ⟨d0, e1⟩ := old i d f h1
    obtain ⟨d1, e2⟩ := old j e g h2
    exact R.inj i j d0 d1 f g p e1 hf e2 hg s3 s4
  · obtain ⟨xs, e⟩ := zcont b z
    exact ⟨less_no (.inr z), ⟨xs, s2 _ _ e⟩, fun q => (R.zz b z).2.2 (oown b q)⟩
  · exact s2 _ _ (s1 _ _ (by rw [less_ok fun q => n (ow b q)]; exact h))
  · rw [look_back, h]
    cases newOf j ls as os with
    | none => exact ⟨d, rfl⟩
    | some e => exact ⟨e, rfl⟩
  · unfold less
    split
    · rfl
    · exact h
theorem lentOk_len : ∀ {ls : List Bool} {as : List Ar}, lentOk δ ls as = true → as.length = ls.length
  | [], [], _ => rfl
  | [], _ :: _, h => by simp [lentOk] at h
  | b :: ls, [], h => by cases b <;> simp [lentOk] at h
  | true :: ls, .val _ :: as, h => by simp [lentOk] at h
  | true :: ls, .ref i :: as, h => by
    simp only [lentOk, Bool.and_eq_true] at h
    simp [lentOk_len h.2]
  | false :: ls, x :: as, h => by
    have h : lentOk δ ls as = true := by simpa [lentOk] using h
    simp [lentOk_len h]
theorem ArVs_len : ∀ {as : List Ar} {vs : List V}, ArVs X F σ as vs → vs.length = as.length
  | [], [], _ => rfl
  | _ :: _, _ :: _, ⟨_, b⟩ => by simp [ArVs_len b]
theorem noLents : ∀ {ls : List Bool} {as : List Ar}, ls.all (fun l => !l) = true → lentIs ls as = []
  | [], _, _ => by simp [lentIs]
  | true :: ls, _, h => by simp at h
  | false :: ls, [], _ => by simp [lentIs]
  | false :: ls, x :: as, h => by
    have := noLents (ls := ls) (as := as) (by simpa using h)
    cases x <;> exact this
/-- as OkK, of a result that is new, if it is a list of one's own -/
def OkN (X : Cx) (W : Wz) (δ : Dl) (σ : Sv) (F H : Hp) (Kd : KD) (Q : VK) : Prop :=
  ∀ d fr δ', Kd d fr δ' → ∀ v H' F', Ext δ δ' σ F F' H H' → Rep X.K W.Z δ' σ F' H' → RRep X.K W.Z δ' σ F' H' v d fr → (fr = true → ∀ p, v = .ref p → H p = none) → Q v H'
theorem call_new {fi : FI} {as : List Ar} {vs : List V} {Kd : KD} {Ed : XD} {Q : VK} (hlen : fi.lent.length = fi.ps.length) (R : Rep X.K W.Z δ σ F H) (a : ArVs X F σ as vs) (h : callK W.z fi as δ Kd Ed) (ok : OkN X W δ σ F H Kd Q) (oe : OkE G X W δ σ F H Ed) :
    spD X.K X.mg G.xs fi vs H Q (WE W.W σ) := by
  obtain ⟨⟨k, nd, nc⟩, t⟩ := h
  obtain ⟨ds, hd, t⟩ := ex_of t
  have ow : ∀ b, LentAt σ (lentIs fi.lent as) b → Owned δ σ b := fun b q => lent_owned R k q
  refine ⟨ds, _, _, less H (LentAt σ (lentIs fi.lent as)), by rw [ArVs_len a, lentOk_len k, hlen], less_same, fun b h1 h2 => ?_, args_ok R (fun i hi => lent_own k hi) k (fun i hi => hi) nc a hd, lentVs_nodup R k nd a, t, fun r os q v H' F' s1 s2 o rs => ?_, fun x os q cls dx H' F' s1 s2 o xr => ?_⟩
  · by_cases hb : LentAt σ (lentIs fi.lent as) b
    · obtain ⟨i, hi, e⟩ := hb
      exact in_lentVs k a hi e
    · rw [less_ok hb] at h1
      exact absurd h1 h2
  · obtain ⟨hl, lo, q⟩ := q
    by_cases hr : resOk fi.fresh r = true
    · rw [if_pos hr] at q
      obtain ⟨F2, h1, h2, R2, E2, h3, _⟩ := call_back R k a hl lo s1 s2 o
      refine ok _ _ _ q v H' F2 E2 R2 ?_ fun hf p hv => by
        unfold Res at rs
        rw [if_pos hf] at rs
        obtain ⟨p', _, _, e, _, n, _⟩ := rs
        rw [hv] at e; cases e
        exact n
      unfold Res at rs
      unfold resOk at hr
      cases hf : fi.fresh with
      | true =>
        rw [hf] at rs hr
        obtain ⟨p, xs, es, rfl, rfl, n1, n2, n3, n4⟩ := rs
        have hp : ¬ Owned δ σ p := R.new_not n1
        refine ⟨p, xs, es, rfl, rfl, h3 _ n2, n3, n4.tups h2 hr, fun q => hp (E2.own _ q), fun z => ?_⟩
        obtain ⟨_, ⟨ys, e⟩, _⟩ := R.zz p z
        rw [n1] at e; cases e
      | false =>
        rw [hf] at rs hr
        exact Rp.tups h2 rs hr
    · rw [if_neg hr] at q
      rcases q with q | ⟨⟨hz, hown⟩, q⟩
      rotate_left 1
      · obtain ⟨F2, h1, h2, R2, E2, h3, h4⟩ := call_back R k a hl lo s1 s2 o
        have sF : Same F' F2 := fun b u e => by
          rw [h4]
          · exact e
          · rintro (⟨i, d, f, g1, g2, g3⟩ | z)
            · have hi : i ∈ lentIs fi.lent as := by
                have := List.all_eq_true.mp hown i (List.mem_range.mpr (look_lt g1))
                rw [g1] at this
                cases f with
                | fro => exact absurd rfl g2
                | own => simpa [isOwn] using this
                | lent => simpa [isOwn] using this
              obtain ⟨d', hn⟩ := lent_new (os := os) k hl hi
              obtain ⟨p, xs, es, e1, _, e2, _⟩ := outs_at a o hn
              rw [g3] at e1; cases e1
              rw [e] at e2; cases e2
            · exact W.hz hz b z
        refine ok _ _ _ q v H' F2 E2 R2 ?_ fun hf p hv => by
          unfold Res at rs
          rw [if_pos hf] at rs
          obtain ⟨p', _, _, e, _, n, _⟩ := rs
          rw [hv] at e; cases e
          exact n
        unfold Res at rs
        cases hf : fi.fresh with
        | true =>
          rw [hf] at rs
          obtain ⟨p, xs, es, rfl, rfl, n1, n2, n3, n4⟩ := rs
          have hp : ¬ Owned δ σ p := R.new_not n1
          refine ⟨p, xs, es, rfl, rfl, h3 _ n2, n3, n4.mono sF, fun q => hp (E2.own _ q), fun z => W.hz hz p z⟩
        | false =>
          rw [hf] at rs
          exact Rp.mono sF rs
      obtain ⟨⟨hz, hf, hal, hnl⟩, q⟩ := q
      have e0 : lentIs fi.lent as = [] := noLents hal
      rw [e0] at s1
      have s1' : Same H F' := fun b u h => s1 _ _ (by rw [less_ok]; exact h; rintro ⟨i, hi, _⟩; cases hi)
      have sF : Same F F' := fun b u h => s1' _ _ (R.sub _ _ h)
      have nl : ∀ j d, look δ j ≠ some (d, .lent) := fun j d e => by
        have := all_look (p := fun s => !isLent s) rfl hnl j
        rw [e] at this; cases this
      have lk : ∀ j d f, look (δ.map frz) j = some (d, f) → f = .fro ∧ ∃ g, look δ j = some (d, g) := fun j d f h => by
        rw [look_map frz rfl] at h
        cases e : look δ j with
        | none => rw [e] at h; cases h
        | some p =>
          obtain ⟨d', g⟩ := p
          rw [e] at h
          cases g with
          | fro => cases h; exact ⟨rfl, _, rfl⟩
          | own => cases h; exact ⟨rfl, _, rfl⟩
          | lent => exact absurd e (nl j d')
      have no : ∀ b, ¬ Owned (δ.map frz) σ b := fun b ⟨j, d, f, h1, h2, _⟩ => h2 (lk j d f h1).1
      have R2 : Rep X.K W.Z (δ.map frz) σ F' H' := by
        refine ⟨by rw [List.length_map]; exact R.len, s2, fun j d h => ?_, fun j d f h hf => absurd (lk j d f h).1 hf, fun i j d e f g p h1 hf => absurd (lk i d f h1).1 hf, fun b z => absurd z (W.hz hz b)⟩
        obtain ⟨_, g, e⟩ := lk j d _ h
        by_cases hg : g = .fro
        · subst hg
          obtain ⟨v, e1, r⟩ := R.fro j d e
          exact ⟨v, e1, r.mono sF⟩
        · obtain ⟨p, xs, es, rfl, e2, _, e4, r⟩ := R.own j d g e hg
          exact ⟨_, e2, .lst (s1' _ _ e4) (r.mono sF)⟩
      refine ok _ _ _ q v H' F' ⟨sF, fun b q => absurd q (no b), fun b u h _ => s2 _ _ (s1' _ _ h), fun j d h => absurd h (nl j d)⟩ R2 ?_ (fun h => nomatch h)
      unfold Res at rs
      rw [hf] at rs
      exact rs
  · obtain ⟨hl, lo, q⟩ := q
    obtain ⟨F2, h1, h2, R2, E2, h3, _⟩ := call_back R k a hl lo s1 s2 o
    exact oe _ _ q cls dx H' F2 E2 R2 xr
theorem call_ok {fi : FI} {as : List Ar} {vs : List V} {Kd : KD} {Ed : XD} {Q : VK} (hlen : fi.lent.length = fi.ps.length) (R : Rep X.K W.Z δ σ F H) (a : ArVs X F σ as vs) (h : callK W.z fi as δ Kd Ed) (ok : OkK X W δ σ F H Kd Q) (oe : OkE G X W δ σ F H Ed) :
    spD X.K X.mg G.xs fi vs H Q (WE W.W σ) :=
  call_new hlen R a h (fun d fr δ' q v H' F' e r rr _ => ok d fr δ' q v H' F' e r rr) oe
/-! ### a call with a list that is made for it alone -/
theorem look_get : ∀ (δ : Dl) (j : Nat), look δ j = (δ[j]?).getD none
  | [], j => by simp [look]
  | x :: r, 0 => by simp [look]
  | x :: r, j + 1 => by
    show look r j = _
    rw [look_get r j]; simp
theorem look_snoc_lt {δ : Dl} {s : Sl} {j : Nat} (h : j < δ.length) : look (δ ++ [s]) j = look δ j := by
  rw [look_get, look_get, List.getElem?_append_left h]
theorem look_snoc_at {δ : Dl} {s : Sl} : look (δ ++ [s]) δ.length = s := by
  rw [look_get, List.getElem?_append_right (Nat.le_refl _)]; simp
theorem look_snoc {δ : Dl} {s : Sl} {j : Nat} {x : D × Fl} (h : look (δ ++ [s]) j = some x) : (j < δ.length ∧ look δ j = some x) ∨ (j = δ.length ∧ s = some x) := by
  have hl := look_lt h
  rw [List.length_append, List.length_singleton] at hl
  rcases Nat.lt_or_ge j δ.length with l | l
  · rw [look_snoc_lt l] at h; exact .inl ⟨l, h⟩
  · have : j = δ.length := by omega
    subst this
    rw [look_snoc_at] at h; exact .inr ⟨rfl, h⟩
theorem look_drop {δ : Dl} {j : Nat} {x : D × Fl} (h : look δ.dropLast j = some x) : j < δ.length - 1 ∧ look δ j = some x := by
  have hl := look_lt h
  rw [List.length_dropLast] at hl
  refine ⟨hl, ?_⟩
  rw [look_get, List.getElem?_dropLast, if_pos hl] at h
  rw [look_get]; exact h
theorem drop_look {δ : Dl} {j : Nat} {x : D × Fl} (h : look δ j = some x) (l : j < δ.length - 1) : look δ.dropLast j = some x := by
  rw [look_get, List.getElem?_dropLast, if_pos l]
  rw [look_get] at h; exact h
theorem flB_at : ∀ {δ δ0 : Dl} {j : Nat} {d : D} {f : Fl}, flB δ δ0 = true → look δ j = some (d, f) → f ≠ .fro → ∃ d0, look δ0 j = some (d0, f)
  | [], _, j, d, f, _, h, _ => by cases h
  | x :: r, [], j, d, f, h, _, _ => by cases h
  | x :: r, y :: s, 0, d, f, h, e, hf => by
    simp only [flB, Bool.and_eq_true] at h
    have e : x = some (d, f) := e
    subst e
    obtain ⟨h, _⟩ := h
    show ∃ d0, y = some (d0, f)
    cases f with
    | fro => exact absurd rfl hf
    | own =>
      cases y with
      | none => cases h
      | some q => obtain ⟨e, g⟩ := q; cases g <;> first | exact ⟨e, rfl⟩ | cases h
    | lent =>
      cases y with
      | none => cases h
      | some q => obtain ⟨e, g⟩ := q; cases g <;> first | exact ⟨e, rfl⟩ | cases h
  | x :: r, y :: s, j + 1, d, f, h, e, hf => by
    simp only [flB, Bool.and_eq_true] at h
    exact flB_at (δ := r) (δ0 := s) (j := j) h.2 e hf
theorem Rep.zsub {K : Frag} {Z Z' : Addr → Prop} (R : Rep K Z' δ σ F H) (h : ∀ b, Z b → Z' b) : Rep K Z δ σ F H := ⟨R.len, R.sub, R.fro, R.own, R.inj, fun b z => R.zz b (h b z)⟩
theorem snoc_get {σ : Sv} {y : Option V} {j : Nat} (h : j < σ.length) : (σ ++ [y])[j]? = σ[j]? := List.getElem?_append_left h
theorem snoc_at {σ : Sv} {y : Option V} : (σ ++ [y])[σ.length]? = some y := by
  rw [List.getElem?_append_right (Nat.le_refl _)]; simp
theorem Rep.snoc {K : Frag} {Z : Addr → Prop} (R : Rep K Z δ σ F H) {p : Addr} {xs : List V} {ds : List D} (h1 : F p = none) (h2 : H p = some (.lst xs)) (h3 : RpA K F xs ds) (h4 : ¬ Owned δ σ p) (h5 : ¬ Z p) :
    Rep K Z (δ ++ [some (.list ds, .own)]) (σ ++ [some (.ref p)]) F H := by
  have ow : ∀ b, Owned (δ ++ [some (.list ds, .own)]) (σ ++ [some (.ref p)]) b → Owned δ σ b ∨ b = p := fun b ⟨j, d, f, e1, e2, e3⟩ => by
    rcases look_snoc e1 with ⟨l, e⟩ | ⟨rfl, e⟩
    · rw [snoc_get (by rw [R.len]; exact l)] at e3
      exact .inl ⟨j, d, f, e, e2, e3⟩
    · rw [← R.len, snoc_at] at e3; cases e3
      exact .inr rfl
  refine ⟨by rw [List.length_append, List.length_append, R.len]; rfl, R.sub, fun i d h => ?_, fun i d f h hf => ?_, fun i j d e f g a q1 hf q2 hg s1 s2 => ?_, fun b z => ?_⟩
  · rcases look_snoc h with ⟨l, e⟩ | ⟨rfl, e⟩
    · rw [snoc_get (by rw [R.len]; exact l)]; exact R.fro i d e
    · cases e
  · rcases look_snoc h with ⟨l, e⟩ | ⟨rfl, e⟩
    · rw [snoc_get (by rw [R.len]; exact l)]; exact R.own i d f e hf
    · cases e
      exact ⟨p, xs, ds, rfl, by rw [← R.len, snoc_at], h1, h2, h3⟩
  · rcases look_snoc q1 with ⟨l1, e1⟩ | ⟨rfl, e1⟩
    · rw [snoc_get (by rw [R.len]; exact l1)] at s1
      rcases look_snoc q2 with ⟨l2, e2⟩ | ⟨rfl, e2⟩
      · rw [snoc_get (by rw [R.len]; exact l2)] at s2
        exact R.inj i j d e f g a e1 hf e2 hg s1 s2
      · rw [← R.len, snoc_at] at s2; cases s2
        exact absurd ⟨i, d, f, e1, hf, s1⟩ h4
    · rw [← R.len, snoc_at] at s1; cases s1
      rcases look_snoc q2 with ⟨l2, e2⟩ | ⟨rfl, e2⟩
      · rw [snoc_get (by rw [R.len]; exact l2)] at s2
        exact absurd ⟨j, e, g, e2, hg, s2⟩ h4
      · rfl
  · obtain ⟨n, t, nn⟩ := R.zz b z
    refine ⟨n, t, fun q => ?_⟩
    rcases ow b q with q | rfl
    · exact nn q
    · exact h5 z
theorem own_drop {δ4 : Dl} {y : Option V} {b : Addr} (hl : (σ ++ [y]).length = δ4.length) (h : Owned δ4.dropLast σ b) : Owned δ4 (σ ++ [y]) b := by
  obtain ⟨j, d, f, e1, e2, e3⟩ := h
  obtain ⟨l, e⟩ := look_drop e1
  rw [List.length_append, List.length_singleton] at hl
  exact ⟨j, d, f, e, e2, by rw [snoc_get (by omega)]; exact e3⟩
theorem Rep.unsnoc {K : Frag} {Z : Addr → Prop} {δ4 : Dl} {y : Option V} (R : Rep K Z δ4 (σ ++ [y]) F H) : Rep K Z δ4.dropLast σ F H := by
  have hl := R.len
  have hl2 := hl
  rw [List.length_append, List.length_singleton] at hl2
  have g : ∀ j x, look δ4.dropLast j = some x → look δ4 j = some x ∧ (σ ++ [y])[j]? = σ[j]? := fun j x h => by
    obtain ⟨l, e⟩ := look_drop h
    exact ⟨e, snoc_get (by omega)⟩
  refine ⟨by rw [List.length_dropLast]; omega, R.sub, fun i d h => ?_, fun i d f h hf => ?_, fun i j d e f g' a q1 hf q2 hg s1 s2 => ?_, fun b z => ?_⟩
  · obtain ⟨e, e2⟩ := g _ _ h
    rw [← e2]; exact R.fro i d e
  · obtain ⟨e, e2⟩ := g _ _ h
    rw [← e2]; exact R.own i d f e hf
  · obtain ⟨e1, f1⟩ := g _ _ q1
    obtain ⟨e2, f2⟩ := g _ _ q2
    exact R.inj i j d e f g' a e1 hf e2 hg (by rw [f1]; exact s1) (by rw [f2]; exact s2)
  · obtain ⟨n, t, nn⟩ := R.zz b z
    exact ⟨n, t, fun q => nn (own_drop hl q)⟩
theorem ArVs.snoc {y : Option V} : ∀ {as : List Ar} {vs : List V}, ArVs X F σ as vs → ArVs X F (σ ++ [y]) as vs
  | [], [], _ => trivial
  | .val d :: as, v :: vs, ⟨a, b⟩ => ⟨a, b.snoc⟩
  | .ref i :: as, v :: vs, ⟨a, b⟩ => by
    refine ⟨?_, b.snoc⟩
    have a : σ[i]? = some (some v) := a
    show (σ ++ [y])[i]? = _
    rw [snoc_get (List.getElem?_eq_some_iff.mp a).1]; exact a
def Wz.plus (W : Wz) (p : Addr) : Wz := ⟨W.W, fun b => W.Z b ∨ b = p, true, fun h => nomatch h⟩
/-- behind the call -/
theorem Ext.unsnoc {H0 H4 F4 : Hp} {δ4 : Dl} {ds : List D} {p : Addr} (hp : H0 p = none) (R : Rep X.K W.Z δ σ F H) (R4 : Rep X.K W.Z δ4 (σ ++ [some (.ref p)]) F4 H4) (hn : ¬ Owned δ σ p)
    (hB : flB δ4 (δ ++ [some (.list ds, .own)]) = true) (e : Ext (δ ++ [some (.list ds, .own)]) δ4 (σ ++ [some (.ref p)]) F F4 H H4) :
    Same F F4 ∧ (∀ b, Owned δ4.dropLast σ b → Owned δ σ b) ∧ (∀ b o, b ≠ p → H b = some o → ¬ Owned δ σ b → H4 b = some o) ∧ (∀ i d, look δ i = some (d, .lent) → ∃ d', look δ4.dropLast i = some (d', .lent)) := by
  have hl := R4.len
  rw [List.length_append, List.length_singleton] at hl
  refine ⟨e.sub, fun b ⟨j, d, f, e1, e2, e3⟩ => ?_, fun b o hb h n => e.frm b o h fun ⟨j, d, f, e1, e2, e3⟩ => ?_, fun i d h => ?_⟩
  · obtain ⟨l, e1⟩ := look_drop e1
    obtain ⟨d0, e0⟩ := flB_at hB e1 e2
    rw [look_snoc_lt (by have := R.len; omega)] at e0
    exact ⟨j, d0, f, e0, e2, e3⟩
  · rcases look_snoc e1 with ⟨l, q⟩ | ⟨rfl, q⟩
    · rw [snoc_get (by rw [R.len]; exact l)] at e3
      exact n ⟨j, d, f, q, e2, e3⟩
    · rw [← R.len, snoc_at] at e3; cases e3
      exact hb rfl
  · have li := look_lt h
    obtain ⟨d', e'⟩ := e.lnt i d (by rw [look_snoc_lt li]; exact h)
    exact ⟨d', drop_look e' (by have := R.len; omega)⟩
end
end Mi
set_option Elab.async false
set_option linter.all false
set_option maxRecDepth 100000
namespace Mi
open PySem L2 PyProof.Rows
/-! ### what is walked -/
/-- the iterator hands on the items: F0 is what stands at the start, src the address of a list that is the frame's own -/
def Srv (K : Frag) (J : It) (items : List D) (F0 : Hp) (src : Option Addr) : Prop := ∀ (i : Nat) (F H : Hp), Same F0 F → Same F H → (∀ a, src = some a → ∃ xs, H a = some (.lst xs) ∧ RpA K F xs items) →
  (items.length ≤ i → J.stop i H) ∧ ∀ d, items[i]? = some d → J.go i H ∧ ∀ x H', J.yld i H x H' → (H' = H ∧ Rp K F x d) ∨ ∃ p xs ds, H p = none ∧ H' = upd H p (.tup xs) ∧ x = .ref p ∧ d = .tuple ds ∧ RpA K F xs ds
def SrcRel (σ : Sv) : Option Nat → Option Addr → Prop
  | none, none => True
  | some j, some a => σ[j]? = some (some (.ref a))
  | _, _ => False
def tI (G : Gd) (X : Cx) (W : Wz) (it : Ti) : TI := fun σ H R => ∃ (δ : Dl) (F : Hp) (k : List D → Option Nat → Dl → Prop) (Ed : XD), Rep X.K W.Z δ σ F H ∧ wpI G W.z it δ k Ed ∧
  (∀ items src δ', k items src δ' → ∀ J H' F' a, Ext δ δ' σ F F' H H' → Rep X.K W.Z δ' σ F' H' → SrcRel σ src a → (∀ j, src = some j → ∃ f, look δ' j = some (.list items, f) ∧ f ≠ .fro) → Srv X.K J items F' a → R J H') ∧ OkE G X W δ σ F H Ed
theorem PI.imp {X : Cx} {tg e : Expr} {t t' : TI} (h : PI X tg e t) (i : ∀ σ H R, t' σ H R → t σ H R) : PI X tg e t' := ⟨fun p s σ H R I q => h.run p s σ H R I (i σ H R q)⟩
theorem PI.or {X : Cx} {tg e : Expr} {t t' : TI} (h : PI X tg e t) (h' : PI X tg e t') : PI X tg e (fun σ H R => t σ H R ∨ t' σ H R) := ⟨fun p s σ H R I q => by
  rcases q with q | q
  · exact h.run p s σ H R I q
  · exact h'.run p s σ H R I q⟩
section
variable {K : Frag} {F0 : Hp} {a b : Addr} {ds es : List D} {xs ys : List V}
theorem srv_own : Srv K (Itl K a) ds F0 (some a) := fun i F H s1 s2 h => by
  obtain ⟨xs, e, r⟩ := h a rfl
  refine ⟨fun hi => ⟨xs, SqL.of e, by rw [r.len]; exact hi⟩, fun d hd => ?_⟩
  obtain ⟨v, e1, r1⟩ := r.getD hd
  refine ⟨⟨xs, v, SqL.of e, e1⟩, fun x H' y => .inl ?_⟩
  obtain ⟨rfl, y⟩ := y
  have := y xs (SqL.of e)
  rw [e1] at this; cases this
  exact ⟨rfl, r1⟩
theorem srv_l (hl : SqL K F0 a xs) (r : RpA K F0 xs ds) : Srv K (Itl K a) ds F0 none := fun i F H s1 s2 _ => by
  have e : SqL K H a xs := same_l (s1.trans s2) hl
  refine ⟨fun hi => ⟨xs, e, by rw [r.len]; exact hi⟩, fun d hd => ?_⟩
  obtain ⟨v, e1, r1⟩ := r.getD hd
  refine ⟨⟨xs, v, e, e1⟩, fun x H' y => .inl ?_⟩
  obtain ⟨rfl, y⟩ := y
  have := y xs e
  rw [e1] at this; cases this
  exact ⟨rfl, r1.mono s1⟩
theorem srv_t (hl : SqT K F0 a xs) (r : RpA K F0 xs ds) : Srv K (Itt K a) ds F0 none := fun i F H s1 s2 _ => by
  have e : SqT K H a xs := same_t (s1.trans s2) hl
  refine ⟨fun hi => ⟨xs, e, by rw [r.len]; exact hi⟩, fun d hd => ?_⟩
  obtain ⟨v, e1, r1⟩ := r.getD hd
  refine ⟨⟨xs, v, e, e1⟩, fun x H' y => .inl ?_⟩
  obtain ⟨rfl, y⟩ := y
  have := y xs e
  rw [e1] at this; cases this
  exact ⟨rfl, r1.mono s1⟩
theorem srv_r {lo : Int} {n : Nat} : Srv K (Itr lo n) (rngD lo n) F0 none := fun i F H s1 s2 _ => by
  have hl : (rngD lo n).length = n := by simp [rngD]
  refine ⟨fun hi => ?_, fun d hd => ?_⟩
  · rw [hl] at hi; exact hi
  have hi : i < n := by
    have := (List.getElem?_eq_some_iff.mp hd).1
    rw [hl] at this; exact this
  have hd' : d = .int (lo + (i : Int)) := by
    have : (rngD lo n)[i]? = some (.int (lo + (i : Int))) := by
      unfold rngD
      rw [List.getElem?_map, List.getElem?_range hi]; rfl
    rw [this] at hd; exact (Option.some.inj hd).symm
  subst hd'
  refine ⟨hi, fun x H' y => .inl ?_⟩
  obtain ⟨rfl, rfl⟩ := y
  exact ⟨rfl, .int _⟩
theorem zipD_get : ∀ {ds es : List D} {i : Nat} {d : D}, (zipD ds es)[i]? = some d → ∃ x y, ds[i]? = some x ∧ es[i]? = some y ∧ d = .tuple [x, y]
  | [], es, i, d, h => by simp [zipD] at h
  | _ :: _, [], i, d, h => by simp [zipD] at h
  | x :: ds, y :: es, 0, d, h => by
    simp [zipD] at h
    exact ⟨x, y, by simp, by simp, h.symm⟩
  | x :: ds, y :: es, i + 1, d, h => by
    obtain ⟨x', y', h1, h2, h3⟩ := zipD_get (ds := ds) (es := es) (i := i) (d := d) (by simpa [zipD] using h)
    exact ⟨x', y', by simpa using h1, by simpa using h2, h3⟩
theorem zipD_len : ∀ (ds es : List D), (zipD ds es).length = min ds.length es.length
  | [], es => by simp [zipD]
  | _ :: _, [] => by simp [zipD]
  | x :: ds, y :: es => by simp [zipD, zipD_len ds es]
theorem srv_zl (h1 : SqL K F0 a xs) (r1 : RpA K F0 xs ds) (h2 : SqL K F0 b ys) (r2 : RpA K F0 ys es) : Srv K (Itz K a b) (zipD ds es) F0 none := fun i F H s1 s2 _ => by
  have e1 : SqL K H a xs := same_l (s1.trans s2) h1
  have e2 : SqL K H b ys := same_l (s1.trans s2) h2
  refine ⟨fun hi => ⟨xs, ys, e1, e2, ?_⟩, fun d hd => ?_⟩
  · rw [zipD_len] at hi
    rw [r1.len, r2.len]
    omega
  · obtain ⟨x, y, g1, g2, rfl⟩ := zipD_get hd
    obtain ⟨v, q1, w1⟩ := r1.getD g1
    obtain ⟨u, q2, w2⟩ := r2.getD g2
    refine ⟨⟨xs, ys, v, u, e1, e2, q1, q2⟩, fun z H' y => .inr ?_⟩
    obtain ⟨T, x', y', rfl, hn, rfl, z1, z2⟩ := y
    have := z1 xs e1
    rw [q1] at this; cases this
    have := z2 ys e2
    rw [q2] at this; cases this
    exact ⟨T, _, _, hn, rfl, rfl, rfl, .cons (w1.mono s1) (.cons (w2.mono s1) .nil)⟩
theorem srv_zt (h1 : SqT K F0 a xs) (r1 : RpA K F0 xs ds) (h2 : SqT K F0 b ys) (r2 : RpA K F0 ys es) : Srv K (RZ.ItzT K a b) (zipD ds es) F0 none := fun i F H s1 s2 _ => by
  have e1 : SqT K H a xs := same_t (s1.trans s2) h1
  have e2 : SqT K H b ys := same_t (s1.trans s2) h2
  refine ⟨fun hi => ⟨xs, ys, e1, e2, ?_⟩, fun d hd => ?_⟩
  · rw [zipD_len] at hi
    rw [r1.len, r2.len]
    omega
  · obtain ⟨x, y, g1, g2, rfl⟩ := zipD_get hd
    obtain ⟨v, q1, w1⟩ := r1.getD g1
    obtain ⟨u, q2, w2⟩ := r2.getD g2
    refine ⟨⟨xs, ys, v, u, e1, e2, q1, q2⟩, fun z H' y => .inr ?_⟩
    obtain ⟨T, x', y', rfl, hn, rfl, z1, z2⟩ := y
    have := z1 xs e1
    rw [q1] at this; cases this
    have := z2 ys e2
    rw [q2] at this; cases this
    exact ⟨T, _, _, hn, rfl, rfl, rfl, .cons (w1.mono s1) (.cons (w2.mono s1) .nil)⟩
theorem rev_get {ds : List D} {i : Nat} {d : D} (h : ds.reverse[i]? = some d) : i < ds.length ∧ ds[ds.length - 1 - i]? = some d := by
  have hi : i < ds.length := by
    have := (List.getElem?_eq_some_iff.mp h).1
    simpa using this
  rw [List.getElem?_reverse hi] at h
  exact ⟨hi, h⟩
theorem srv_vl (h1 : SqL K F0 a xs) (r : RpA K F0 xs ds) : Srv K (Itv K a xs.length) ds.reverse F0 none := fun i F H s1 s2 _ => by
  have e : SqL K H a xs := same_l (s1.trans s2) h1
  refine ⟨fun hi => ?_, fun d hd => ?_⟩
  · show xs.length ≤ i
    rw [r.len]; simpa using hi
  · obtain ⟨hi, hd⟩ := rev_get hd
    obtain ⟨v, q, w⟩ := r.getD hd
    rw [← r.len] at q hi
    refine ⟨⟨hi, xs, v, e, q⟩, fun x H' y => .inl ?_⟩
    obtain ⟨rfl, y⟩ := y
    have := y xs e
    rw [q] at this; cases this
    exact ⟨rfl, w.mono s1⟩
theorem srv_vt (h1 : SqT K F0 a xs) (r : RpA K F0 xs ds) : Srv K (RT.ItvT K a xs.length) ds.reverse F0 none := fun i F H s1 s2 _ => by
  have e : SqT K H a xs := same_t (s1.trans s2) h1
  refine ⟨fun hi => ?_, fun d hd => ?_⟩
  · show xs.length ≤ i
    rw [r.len]; simpa using hi
  · obtain ⟨hi, hd⟩ := rev_get hd
    obtain ⟨v, q, w⟩ := r.getD hd
    rw [← r.len] at q hi
    refine ⟨⟨hi, xs, v, e, q⟩, fun x H' y => .inl ?_⟩
    obtain ⟨rfl, y⟩ := y
    have := y xs e
    rw [q] at this; cases this
    exact ⟨rfl, w.mono s1⟩
end
section
variable {G : Gd} {X : Cx} {W : Wz} {δ : Dl} {σ : Sv} {F H : Hp} {tg : Expr}
theorem rr_list {ds : List D} {v : V} {fr : Bool} (R : Rep X.K W.Z δ σ F H) (rr : RRep X.K W.Z δ σ F H v (.list ds) fr) : ∃ F' p xs, Ext δ δ σ F F' H H ∧ Rep X.K W.Z δ σ F' H ∧ v = .ref p ∧ F' p = some (.lst xs) ∧ RpA X.K F' xs ds := by
  obtain ⟨F', e, r, rp⟩ := rr.frz R
  cases rp with
  | lst h q => exact ⟨F', _, _, e, r, rfl, h, q⟩
theorem rr_tup {ds : List D} {v : V} {fr : Bool} (rr : RRep X.K W.Z δ σ F H v (.tuple ds) fr) : ∃ p xs, v = .ref p ∧ SqT X.K F p xs ∧ RpA X.K F xs ds := by
  cases fr with
  | false =>
    have rr : Rp X.K F v (.tuple ds) := rr
    cases rr with
    | tup h q => exact ⟨_, _, rfl, h, q⟩
  | true => obtain ⟨p, xs, es, _, e, _⟩ := rr; cases e
theorem pi_any {l : Expr} {tl : TE} (hl : PE X l tl) : PI X tg l (fun σ H R => tl σ H fun x H1 => ∃ a, x = .ref a ∧ (((∃ xs, SqL X.K H1 a xs) ∧ R (Itl X.K a) H1) ∨ ((∃ xs, SqT X.K H1 a xs) ∧ R (Itt X.K a) H1))) := by
  refine ⟨fun pins s σ H R I h => ?_⟩
  refine thn (hl.run pins s σ H _ I h) fun v s1 ⟨x, H1, I1, r1, q1⟩ => ?_
  obtain ⟨a, e, q⟩ := q1
  subst e
  cases r1
  rcases q with ⟨⟨xs, hq⟩, q⟩ | ⟨⟨xs, hq⟩, q⟩
  · obtain ⟨its, rv, p, hz⟩ := I1.list hq
    refine wpAny_pyIter_list p.isList ?_
    refine ⟨s1.heap.objs.size, [s1.heap.objs.size], _, _, H1, rfl, I1.kept (t' := s1.toks) fun b o e => Heap.get?_push_of_some _ e, turn_list a _, ⟨_, Heap.get?_push_size _ rfl, rfl, rfl⟩, fun b hb => ?_, q⟩
    have e : b = s1.heap.objs.size := by simpa using hb
    subst e
    exact I1.fpOk (Nat.le_refl _) (I1.hok.fresh (Nat.le_refl _))
  · obtain ⟨its, rv, p, hz⟩ := I1.tuple hq
    refine wpAny_pyIter_tuple (show s1.heap.IsTuple a its.toArray from p) ?_
    refine ⟨s1.heap.objs.size, [s1.heap.objs.size], _, _, H1, rfl, I1.kept (t' := s1.toks) fun b o e => Heap.get?_push_of_some _ e, turn_tuple a _, ⟨_, Heap.get?_push_size _ rfl, rfl, rfl⟩, fun b hb => ?_, q⟩
    have e : b = s1.heap.objs.size := by simpa using hb
    subst e
    exact I1.fpOk (Nat.le_refl _) (I1.hok.fresh (Nat.le_refl _))
theorem src_dat {x : Ar} {v : V} {ds : List D} (R : Rep X.K W.Z δ σ F H) (a : ArV X F σ x v) (h : dat δ x = some (.list ds)) :
    (srcOf δ x = none ∧ ∃ p xs, v = .ref p ∧ F p = some (.lst xs) ∧ RpA X.K F xs ds) ∨ ∃ j p f xs, srcOf δ x = some j ∧ v = .ref p ∧ σ[j]? = some (some (.ref p)) ∧ look δ j = some (.list ds, f) ∧ f ≠ .fro ∧ H p = some (.lst xs) := by
  cases x with
  | val e =>
    have h : e = .list ds := Option.some.inj h
    subst h
    have a : Rp X.K F v (.list ds) := a
    cases a with
    | lst e r => exact .inl ⟨rfl, _, _, rfl, e, r⟩
  | ref i =>
    have a : σ[i]? = some (some v) := a
    have h : (look δ i).map (·.1) = some (.list ds) := h
    cases l : look δ i with
    | none => rw [l] at h; cases h
    | some q =>
      obtain ⟨d, f⟩ := q
      rw [l] at h
      have h : d = .list ds := Option.some.inj h
      subst h
      by_cases hf : f = .fro
      · subst hf
        obtain ⟨u, e3, r3⟩ := R.fro i _ l
        rw [a] at e3; cases e3
        cases r3 with
        | lst e r => exact .inl ⟨by simp [srcOf, l, isOwn], _, _, rfl, e, r⟩
      · obtain ⟨p, xs, es, e1, e2, e3, e4, r⟩ := R.own i _ f l hf
        rw [a] at e2; cases e2
        refine .inr ⟨i, p, f, xs, ?_, rfl, a, l, hf, e4⟩
        have : isOwn (look δ i) = true := by
          rw [l]
          cases f <;> first | exact absurd rfl hf | rfl
        simp [srcOf, this]
theorem src_non {x : Ar} {v : V} {d : D} (R : Rep X.K W.Z δ σ F H) (a : ArV X F σ x v) (h : dat δ x = some d) (n : isList d = false) : srcOf δ x = none := by
  cases x with
  | val e => rfl
  | ref i =>
    have h : (look δ i).map (·.1) = some d := h
    cases l : look δ i with
    | none => rw [l] at h; cases h
    | some q =>
      obtain ⟨e, f⟩ := q
      rw [l] at h
      have h : e = d := Option.some.inj h
      subst h
      by_cases hf : f = .fro
      · subst hf; simp [srcOf, l, isOwn]
      · obtain ⟨p, xs, es, rfl, _⟩ := R.own i _ f l hf
        cases n
theorem s_seq {m : Ex} {e : Expr} (h : PE X e (tA G X W m)) : PI X tg e (tI G X W (.seq m)) := by
  refine PI.imp (pi_any h) fun σ H Q q => ?_
  obtain ⟨δ, F, k, Ed, R, w, ok, oe⟩ := q
  have w : arg (asVar m) (fun kk => wpE G W.z m δ kk Ed) δ (fun x δ1 => match dat δ1 x with | some d => onS (itemsOf d) fun xs => k xs (srcOf δ1 x) δ1 | none => False) := w
  refine ⟨δ, F, _, Ed, R, w, fun x δ1 q1 v H1 F1 e1 r1 a1 => ?_, oe⟩
  cases hx : dat δ1 x with
  | none => rw [hx] at q1; exact q1.elim
  | some d =>
    rw [hx] at q1
    obtain ⟨xs, hi, q1⟩ := ex_of q1
    unfold itemsOf at hi
    split at hi
    · cases hi
      rcases src_dat r1 a1 hx with ⟨s, p, ys, rfl, e2, r2⟩ | ⟨j, p, f, ys, s, rfl, s1, l, hf, e2⟩
      · rw [s] at q1
        exact ⟨p, rfl, .inl ⟨⟨_, SqL.of (r1.sub _ _ e2)⟩, ok _ _ _ q1 _ H1 F1 none e1 r1 trivial (fun _ h => nomatch h) (srv_l (SqL.of e2) r2)⟩⟩
      · rw [s] at q1
        exact ⟨p, rfl, .inl ⟨⟨_, SqL.of e2⟩, ok _ _ _ q1 _ H1 F1 (some p) e1 r1 s1 (fun j' h => by cases h; exact ⟨f, l, hf⟩) srv_own⟩⟩
    · cases hi
      obtain ⟨p, ys, rfl, e2, r2⟩ := dat_tup r1 a1 hx
      rw [src_non r1 a1 hx rfl] at q1
      exact ⟨p, rfl, .inr ⟨⟨_, same_t r1.sub e2⟩, ok _ _ _ q1 _ H1 F1 none e1 r1 trivial (fun _ h => nomatch h) (srv_t e2 r2)⟩⟩
    · cases hi
      obtain ⟨p, ns, rfl, e2, rfl⟩ := dat_scr r1 a1 hx
      rw [src_non r1 a1 hx rfl] at q1
      exact ⟨p, rfl, .inl ⟨⟨_, same_l r1.sub e2⟩, ok _ _ _ q1 _ H1 F1 none e1 r1 trivial (fun _ h => nomatch h) (srv_l e2 RpA.of_ints)⟩⟩
    · cases hi
theorem s_rng1 {k : Nat} (C : Cxt G X k) {m : Ex} {e : Expr} {x : Str} {p pos : Pos} (hx : x = "range") (hg : glB X.env.scope x = true) (hn : nice e = true) (h : PE X e (tE G X W m)) : PI X tg (.Call (.Name x p) [e] [] pos) (tI G X W (.rng1 m)) := by
  subst hx
  refine PI.imp (pi_range1 (gl_of hg) (C.blt _ (by decide +kernel)) (pa_cons h pa_nil (star_of hn)) (star_of hn)) fun σ H Q q => ?_
  obtain ⟨δ, F, k, Ed, R, w, ok, oe⟩ := q
  refine ⟨δ, F, _, Ed, R, w, fun d fr δ1 q1 v H1 F1 e1 r1 rr => ?_, oe⟩
  cases d <;> first | exact q1.elim | skip
  obtain rfl := rr_int rr
  exact ⟨_, rfl, q1.1.1, q1.1.2, ok _ _ _ q1.2 _ H1 F1 none e1 r1 trivial (fun _ h => nomatch h) srv_r⟩
theorem s_rng2 {k : Nat} (C : Cxt G X k) {m m' : Ex} {e f : Expr} {x : Str} {p pos : Pos} (hx : x = "range") (hg : glB X.env.scope x = true) (hn : nice e = true) (hn' : nice f = true) (h : PE X e (tE G X W m)) (h' : PE X f (tE G X W m')) :
    PI X tg (.Call (.Name x p) [e, f] [] pos) (tI G X W (.rng2 m m')) := by
  subst hx
  have hs : starEach [e, f] X.env = [(false, eval e X.env), (false, eval f X.env)] := by rw [star_of hn, star_of hn']; rfl
  refine PI.imp (pi_range2 (gl_of hg) (C.blt _ (by decide +kernel)) (pa_cons h (pa_cons h' pa_nil (star_of hn')) (star_of hn)) hs (star_of hn')) fun σ H Q q => ?_
  obtain ⟨δ, F, k, Ed, R, w, ok, oe⟩ := q
  refine ⟨δ, F, _, Ed, R, w, fun d fr δ1 q1 v H1 F1 e1 r1 rr => ?_, oe⟩
  obtain ⟨F2, e2, r2, rp⟩ := rr.frz r1
  refine ⟨δ1, F2, _, Ed, r2, q1, fun d' fr' δ3 q3 v' H3 F3 e3 r3 rr3 => ?_, oe.go (e1.trans e2)⟩
  cases d <;> cases d' <;> first | exact q3.elim | skip
  obtain rfl := rr_int rr3
  cases rp
  exact ⟨_, _, rfl, ⟨q3.1.1.1, q3.1.1.2, q3.1.2.1, q3.1.2.2⟩, ok _ _ _ q3.2 _ H3 F3 none ((e1.trans e2).trans e3) r3 trivial (fun _ h => nomatch h) srv_r⟩
theorem s_zip {k : Nat} (C : Cxt G X k) {m m' : Ex} {e f : Expr} {x : Str} {p pos tpos : Pos} {elts : List Expr} {kk : Nat} (hx : x = "zip") (hg : glB X.env.scope x = true) (hn : nice e = true) (hn' : nice f = true) (h : PE X e (tE G X W m)) (h' : PE X f (tE G X W m')) :
    PI X (.Tuple elts kk tpos) (.Call (.Name x p) [e, f] [] pos) (tI G X W (.zip m m')) := by
  subst hx
  refine PI.imp (RZ.pi_zipA (gl_of hg) (C.blt _ (by decide +kernel)) (pa_cons h (pa_cons h' pa_nil (star_of hn')) (star_of hn)) (star_of hn) (plain_of (e := e) (by simp [hn']))) fun σ H Q q => ?_
  obtain ⟨δ, F, k, Ed, R, w, ok, oe⟩ := q
  refine ⟨δ, F, _, Ed, R, w, fun d fr δ1 q1 v H1 F1 e1 r1 rr => ?_, oe⟩
  obtain ⟨F2, e2, r2, rp⟩ := rr.frz r1
  refine ⟨δ1, F2, _, Ed, r2, q1, fun d' fr' δ3 q3 v' H3 F3 e3 r3 rr3 => ?_, oe.go (e1.trans e2)⟩
  obtain ⟨F4, e4, r4, rp4⟩ := rr3.frz r3
  have rp' := rp.mono (e3.trans e4).sub
  have et := (e1.trans e2).trans (e3.trans e4)
  cases d <;> cases d' <;> first | exact q3.elim | skip
  · cases rp' with
    | lst g1 g2 =>
      cases rp4 with
      | lst g3 g4 => exact ⟨_, _, _, _, rfl, .inl ⟨SqL.of (r4.sub _ _ g1), SqL.of (r4.sub _ _ g3), ok _ _ _ q3 _ H3 F4 none et r4 trivial (fun _ h => nomatch h) (srv_zl (SqL.of g1) g2 (SqL.of g3) g4)⟩⟩
  · cases rp' with
    | tup g1 g2 =>
      cases rp4 with
      | tup g3 g4 => exact ⟨_, _, _, _, rfl, .inr ⟨same_t r4.sub g1, same_t r4.sub g3, ok _ _ _ q3 _ H3 F4 none et r4 trivial (fun _ h => nomatch h) (srv_zt g1 g2 g3 g4)⟩⟩
theorem s_rev {k : Nat} (C : Cxt G X k) {m : Ex} {e : Expr} {x : Str} {p pos : Pos} (hx : x = "reversed") (hg : glB X.env.scope x = true) (hn : nice e = true) (h : PE X e (tE G X W m)) : PI X tg (.Call (.Name x p) [e] [] pos) (tI G X W (.rev m)) := by
  subst hx
  refine PI.imp (RT.pi_revA (gl_of hg) (C.blt _ (by decide +kernel)) h (star_of hn)) fun σ H Q q => ?_
  obtain ⟨δ, F, k, Ed, R, w, ok, oe⟩ := q
  refine ⟨δ, F, _, Ed, R, w, fun d fr δ1 q1 v H1 F1 e1 r1 rr => ?_, oe⟩
  obtain ⟨F2, e2, r2, rp⟩ := rr.frz r1
  cases d <;> first | exact q1.elim | skip
  · cases rp with
    | lst g1 g2 => exact ⟨_, _, rfl, .inl ⟨SqL.of (r2.sub _ _ g1), ok _ _ _ q1 _ H1 F2 none (e1.trans e2) r2 trivial (fun _ h => nomatch h) (srv_vl (SqL.of g1) g2)⟩⟩
  · cases rp with
    | tup g1 g2 => exact ⟨_, _, rfl, .inr ⟨same_t r2.sub g1, ok _ _ _ q1 _ H1 F2 none (e1.trans e2) r2 trivial (fun _ h => nomatch h) (srv_vt g1 g2)⟩⟩
end
end Mi
set_option Elab.async false
set_option linter.all false
set_option maxRecDepth 100000
namespace Mi
open PySem L2 PyProof.Rows
/-! ### targets -/
def gNs : List Nat → TGs
  | [] => gNil
  | i :: is => gCons (gName i) (gNs is)
def gT (K : Frag) : Tg → TG
  | .one i => gName i
  | .many is => fun v σ H Q => gTup K is.length (gNs is) v σ H Q ∨ gUnl K is.length (gNs is) v σ H Q
def tgIx : Tg → List Nat
  | .one i => [i]
  | .many is => is
theorem PG.or {X : Cx} {e : Expr} {t t' : TG} (h : PG X e t) (h' : PG X e t') : PG X e (fun v σ H Q => t v σ H Q ∨ t' v σ H Q) := ⟨fun pins s σ H v u Q I r q => by
  rcases q with q | q
  · exact h.run pins s σ H v u Q I r q
  · exact h'.run pins s σ H v u Q I r q⟩
section
variable {X : Cx} {N : List Str} {fn : Str → Bool}
theorem pg_one (hN : X.N = N) (nd : X.N.Nodup) (hf : ∀ x, fn x = true → X.env.scope.names.lookup x = some .cell → X.fn x = true) {i : Nat} {e : Expr} (h : okTg1 N fn X.env.scope i e = true) : PG X e (gName i) := by
  cases e <;> simp [okTg1] at h
  rename_i x p
  obtain ⟨h1, h2⟩ := h
  unfold tgtB at h2
  split at h2
  · rename_i l
    exact pg_name nd (by rw [hN]; exact h1) (.inl l) (.inr l)
  · rename_i l
    exact pg_name nd (by rw [hN]; exact h1) (.inr l) (.inl (hf x h2 l))
  · cases h2
theorem pgs_all (hN : X.N = N) (nd : X.N.Nodup) (hf : ∀ x, fn x = true → X.env.scope.names.lookup x = some .cell → X.fn x = true) : ∀ {is : List Nat} {es : List Expr}, okTgs N fn X.env.scope is es = true →
    PGs X es (gNs is) ∧ (assignEach es X.env).length = is.length ∧ (assignEach es X.env).findIdx? (·.1) = none
  | [], [], _ => ⟨pgs_nil, rfl, rfl⟩
  | [], _ :: _, h => by simp [okTgs] at h
  | _ :: _, [], h => by simp [okTgs] at h
  | i :: is, e :: es, h => by
    simp only [okTgs, Bool.and_eq_true] at h
    obtain ⟨q, q2, q3⟩ := pgs_all hN nd hf h.2
    have p := pg_one hN nd hf h.1
    have h1 := h.1
    cases e <;> simp [okTg1] at h1
    rename_i x pos
    refine ⟨pgs_cons p q, ?_, ?_⟩
    · show (assignEach es X.env).length + 1 = is.length + 1
      rw [q2]
    · show List.findIdx? _ ((false, _) :: assignEach es X.env) = none
      rw [List.findIdx?_cons]
      simp [q3]
theorem pg_of (hN : X.N = N) (nd : X.N.Nodup) (hc : X.calm = true) (hf : ∀ x, fn x = true → X.env.scope.names.lookup x = some .cell → X.fn x = true) {tg : Tg} {e : Expr} (h : okTg N fn X.env.scope tg e = true) : PG X e (gT X.K tg) := by
  cases tg with
  | one i => exact pg_one hN nd hf (by simpa [okTg] using h)
  | many is =>
    cases e <;> simp [okTg] at h
    obtain ⟨q, q2, q3⟩ := pgs_all hN nd hf h
    exact PG.or (pg_tup hc q q2 q3) (pg_unl hc q q2 q3)
end
/-- a step of the slots: these names are set, the others and what is lent stay -/
structure Stp (is : List Nat) (δ δ' : Dl) (σ σ' : Sv) : Prop where
  len : σ'.length = σ.length
  out : ∀ j, j ∉ is → σ'[j]? = σ[j]? ∧ look δ' j = look δ j
  fro : ∀ j ∈ is, ∀ d f, look δ' j = some (d, f) → f = .fro
  lnt : ∀ j d, look δ j = some (d, .lent) → look δ' j = some (d, .lent) ∧ σ'[j]? = σ[j]?
section
variable {K : Frag} {Z : Addr → Prop} {δ : Dl} {σ : Sv} {F H : Hp}
theorem Stp.refl : Stp [] δ δ σ σ := ⟨rfl, fun _ _ => ⟨rfl, rfl⟩, fun _ h => (nomatch h), fun _ _ h => ⟨h, rfl⟩⟩
theorem set_slot (R : Rep K Z δ σ F H) {i : Nat} {d : D} {fr : Bool} {v : V} (r : RRep K Z δ σ F H v d fr) : Rep K Z (putAt δ i (some (d, flOf d fr))) (σ.set i (some v)) F H := by
  by_cases hi : i < σ.length
  · exact R.set hi r
  · have h1 : σ.set i (some v) = σ := List.set_eq_of_length_le (by omega)
    have h2 : ∀ (δ : Dl) (i : Nat) (x : Sl), δ.length ≤ i → putAt δ i x = δ := fun δ => by
      induction δ with
      | nil => intro i x _; rfl
      | cons y r ih =>
        intro i x h
        cases i with
        | zero => simp at h
        | succ n => show y :: putAt r n x = y :: r; rw [ih n x (by simpa using h)]
    rw [h1, h2 _ _ _ (by rw [← R.len]; omega)]
    exact R
theorem set_fro (R : Rep K Z δ σ F H) {i : Nat} {d : D} {v : V} (r : Rp K F v d) : Rep K Z (putAt δ i (some (d, .fro))) (σ.set i (some v)) F H := by
  have := set_slot (i := i) (fr := false) R r
  exact this
theorem stp_one {i : Nat} {d : D} {f : Fl} {v : V} (h : isLent (look δ i) = false) : (∀ j, j ≠ i → (σ.set i (some v))[j]? = σ[j]? ∧ look (putAt δ i (some (d, f))) j = look δ j) ∧ (σ.set i (some v)).length = σ.length ∧
    ∀ j e, look δ j = some (e, .lent) → look (putAt δ i (some (d, f))) j = some (e, .lent) ∧ (σ.set i (some v))[j]? = σ[j]? := by
  have o : ∀ j, j ≠ i → (σ.set i (some v))[j]? = σ[j]? ∧ look (putAt δ i (some (d, f))) j = look δ j := fun j hj => ⟨by rw [List.getElem?_set, if_neg (Ne.symm hj)], look_put_ne _ _ _ _ hj⟩
  refine ⟨o, List.length_set, fun j e q => ?_⟩
  have : j ≠ i := by rintro rfl; rw [q] at h; cases h
  rw [(o j this).2, (o j this).1]
  exact ⟨q, rfl⟩
theorem sets_ok {Q : Sv → Hp → Prop} : ∀ {is : List Nat} {ds : List D} {xs : List V} {δ : Dl} {σ : Sv} {k : Dl → Prop}, Rep K Z δ σ F H → RpA K F xs ds → setsK is ds δ k →
    (∀ δ' σ', k δ' → Rep K Z δ' σ' F H → Stp is δ δ' σ σ' → Q σ' H) → gNs is xs σ H Q
  | [], [], xs, δ, σ, k, R, r, h, q => by
    cases r
    exact ⟨rfl, q δ σ h R Stp.refl⟩
  | [], _ :: _, _, _, _, _, _, _, h, _ => h.elim
  | _ :: _, [], _, _, _, _, _, _, h, _ => h.elim
  | i :: is, d :: ds, xs, δ, σ, k, R, r, h, q => by
    cases r with
    | cons r1 r2 =>
      obtain ⟨hl, h⟩ := h
      obtain ⟨o, ln, lt⟩ := stp_one (σ := σ) (d := d) (f := .fro) (v := _) hl
      refine ⟨_, _, rfl, sets_ok (set_fro R r1) r2 h fun δ' σ' hk R' S => q δ' σ' hk R' ⟨by rw [S.len, ln], fun j hj => ?_, fun j hj e f he => ?_, fun j e he => ?_⟩⟩
      · rw [List.mem_cons, not_or] at hj
        obtain ⟨h1, h2⟩ := S.out j hj.2
        obtain ⟨h3, h4⟩ := o j hj.1
        exact ⟨h1.trans h3, h2.trans h4⟩
      · by_cases hm : j ∈ is
        · exact S.fro j hm e f he
        · have hji : j = i := by
            rcases List.mem_cons.mp hj with z | z
            · exact z
            · exact absurd z hm
          subst hji
          rw [(S.out j hm).2] at he
          rcases look_put he with ⟨_, z, _⟩ | ⟨z, _⟩
          · cases z; rfl
          · exact absurd rfl z
      · obtain ⟨h1, h2⟩ := lt j e he
        obtain ⟨h3, h4⟩ := S.lnt j e h1
        exact ⟨h3, h4.trans h2⟩
theorem bind_ok {Q : Sv → Hp → Prop} {tg : Tg} {d : D} {v : V} {k : Dl → Prop} (R : Rep K Z δ σ F H) (r : Rp K F v d) (h : bindT tg d δ k) (q : ∀ δ' σ', k δ' → Rep K Z δ' σ' F H → Stp (tgIx tg) δ δ' σ σ' → Q σ' H) : gT K tg v σ H Q := by
  cases tg with
  | one i =>
    obtain ⟨hl, h⟩ := h
    obtain ⟨o, ln, lt⟩ := stp_one (σ := σ) (d := d) (f := .fro) (v := v) hl
    refine q _ _ h (set_fro R r) ⟨ln, fun j hj => o j (by simpa [tgIx] using hj), fun j hj e f he => ?_, lt⟩
    have : j = i := by simpa [tgIx] using hj
    subst this
    rcases look_put he with ⟨_, z, _⟩ | ⟨z, _⟩
    · cases z; rfl
    · exact absurd rfl z
  | many is =>
    cases d <;> first | exact h.elim | skip
    · cases r with
      | lst h1 h2 =>
        refine .inr ⟨_, _, rfl, SqL.of (R.sub _ _ h1), ?_, sets_ok R h2 h.2 q⟩
        rw [h2.len]; exact h.1.symm
    · cases r with
      | tup h1 h2 =>
        refine .inl ⟨_, _, rfl, same_t R.sub h1, ?_, sets_ok R h2 h.2 q⟩
        rw [h2.len]; exact h.1.symm
/-! ### a block's own names forgotten -/
theorem Rep.unset (R : Rep K Z δ σ F H) (i : Nat) : Rep K Z (putAt δ i none) (σ.set i none) F H := by
  have hs : ∀ j, j ≠ i → (σ.set i none)[j]? = σ[j]? := fun j hj => by rw [List.getElem?_set, if_neg (Ne.symm hj)]
  have old : ∀ j x, look (putAt δ i none) j = some x → j ≠ i ∧ look δ j = some x := fun j x q => by
    rcases look_put q with ⟨rfl, z, _⟩ | z
    · cases z
    · exact z
  have oo : ∀ b, Owned (putAt δ i none) (σ.set i none) b → Owned δ σ b := fun b ⟨j, e, g, q, hg, s⟩ => by
    obtain ⟨hj, q⟩ := old _ _ q
    rw [hs j hj] at s
    exact ⟨j, e, g, q, hg, s⟩
  refine ⟨by rw [put_len, List.length_set]; exact R.len, R.sub, fun j e q => ?_, fun j e g q hg => ?_, fun j k e1 e2 g1 g2 b q1 hg1 q2 hg2 s1 s2 => ?_, fun b z => ?_⟩
  · obtain ⟨hj, q⟩ := old _ _ q
    rw [hs j hj]; exact R.fro j e q
  · obtain ⟨hj, q⟩ := old _ _ q
    rw [hs j hj]; exact R.own j e g q hg
  · obtain ⟨hj, q1⟩ := old _ _ q1
    obtain ⟨hk, q2⟩ := old _ _ q2
    rw [hs j hj] at s1
    rw [hs k hk] at s2
    exact R.inj j k e1 e2 g1 g2 b q1 hg1 q2 hg2 s1 s2
  · obtain ⟨n, t, nn⟩ := R.zz b z
    exact ⟨n, t, fun q => nn (oo b q)⟩
theorem Rep.wipe (R : Rep K Z δ σ F H) : ∀ own : List Nat, Rep K Z (wipeD δ own) (L2.wipe σ own) F H
  | [] => R
  | i :: is => (R.wipe is).unset i
theorem wipeD_len : ∀ own : List Nat, (wipeD δ own).length = δ.length
  | [] => rfl
  | i :: is => by show (putAt (wipeD δ is) i none).length = _; rw [put_len, wipeD_len is]
theorem look_wipe : ∀ {own : List Nat} {j : Nat} {x : D × Fl}, look (wipeD δ own) j = some x ↔ j ∉ own ∧ look δ j = some x
  | [], j, x => by simp [wipeD]
  | i :: is, j, x => by
    show look (putAt (wipeD δ is) i none) j = some x ↔ _
    constructor
    · intro h
      rcases look_put h with ⟨_, z, _⟩ | ⟨hj, z⟩
      · cases z
      · obtain ⟨h1, h2⟩ := look_wipe.mp z
        exact ⟨by simp [hj, h1], h2⟩
    · rintro ⟨h1, h2⟩
      rw [List.mem_cons, not_or] at h1
      rw [look_put_ne _ _ _ _ h1.1]
      exact look_wipe.mpr ⟨h1.2, h2⟩
theorem wipe_get : ∀ {own : List Nat} {j : Nat}, j ∉ own → (L2.wipe σ own)[j]? = σ[j]?
  | [], _, _ => rfl
  | i :: is, j, h => by
    rw [List.mem_cons, not_or] at h
    show ((L2.wipe σ is).set i none)[j]? = _
    rw [List.getElem?_set, if_neg (Ne.symm h.1)]
    exact wipe_get h.2
theorem wipe_in : ∀ {own : List Nat} {j : Nat}, j ∈ own → (L2.wipe σ own)[j]? = if j < σ.length then some none else none
  | i :: is, j, h => by
    show ((L2.wipe σ is).set i none)[j]? = _
    rw [List.getElem?_set, L2.wipe_length]
    by_cases e : i = j
    · subst e; simp
    · rw [if_neg e]
      rcases List.mem_cons.mp h with z | z
      · exact absurd z.symm e
      · exact wipe_in z
theorem wipe_eq {σ' : Sv} {own : List Nat} (hl : σ'.length = σ.length) (h : ∀ j, j ∉ own → σ'[j]? = σ[j]?) : L2.wipe σ' own = L2.wipe σ own := by
  apply List.ext_getElem?
  intro j
  by_cases hj : j ∈ own
  · rw [wipe_in hj, wipe_in hj, hl]
  · rw [wipe_get hj, wipe_get hj, h j hj]
theorem unwipe_len (δ0 : Dl) : ∀ own : List Nat, (unwipe δ0 δ own).length = δ.length
  | [] => rfl
  | i :: is => by show (putAt (unwipe δ0 δ is) i _).length = _; rw [put_len, unwipe_len δ0 is]
theorem look_unwipe {δ0 : Dl} (hl : δ0.length = δ.length) : ∀ {own : List Nat} {j : Nat}, look (unwipe δ0 δ own) j = if j ∈ own then look δ0 j else look δ j
  | [], j => by simp [unwipe]
  | i :: is, j => by
    show look (putAt (unwipe δ0 δ is) i (look δ0 i)) j = _
    by_cases e : j = i
    · subst e
      by_cases hj : j < δ.length
      · rw [look_put_same _ _ _ (by rw [unwipe_len]; exact hj)]; simp
      · rw [look_none (by rw [put_len, unwipe_len]; omega)]
        simp
        rw [look_none (by omega)]
    · rw [look_put_ne _ _ _ _ e, look_unwipe hl]
      simp [e]
end
end Mi
set_option Elab.async false
set_option linter.all false
set_option maxRecDepth 100000
namespace Mi
open PySem L2 PyProof.Rows
theorem PE.ex {ι : Type} {X : Cx} {e : Expr} {t : ι → TE} (h : ∀ i, PE X e (t i)) : PE X e (fun σ H Q => ∃ i, t i σ H Q) := ⟨fun p s σ H Q I ⟨i, q⟩ => (h i).run p s σ H Q I q⟩
theorem PT.ex {ι : Type} {X : Cx} {e : Expr} {t : ι → TT} (h : ∀ i, PT X e (t i)) : PT X e (fun σ H Q => ∃ i, t i σ H Q) := ⟨fun p s σ H Q I ⟨i, q⟩ => (h i).run p s σ H Q I q⟩
theorem PTs.ex {ι : Type} {X : Cx} {e : List Expr} {t : ι → TT} (h : ∀ i, PTs X e (t i)) : PTs X e (fun σ H Q => ∃ i, t i σ H Q) := ⟨fun p s σ H Q I ⟨i, q⟩ => (h i).run p s σ H Q I q⟩
/-- within a comprehension: no exception, its lists let alone -/
def Wz.inn (Z : Addr → Prop) : Wz := ⟨fun _ _ _ _ => False, Z, true, fun h => nomatch h⟩
/-- a comprehension's test -/
def tC (G : Gd) (X : Cx) (W : Wz) (c : Ox) : TT := fun σ H Q => ∃ (δ : Dl) (F : Hp) (k : Bool → Dl → Prop), Rep X.K W.Z δ σ F H ∧ wpC G W.z c δ k ∧ ∀ b δ', k b δ' → ∀ H' F', Ext δ δ' σ F F' H H' → Rep X.K W.Z δ' σ F' H' → Q b H'
section
variable {G : Gd} {X : Cx} {W : Wz} {δ : Dl} {σ : Sv} {F H : Hp}
theorem s_cno {Z : Addr → Prop} : PTs X [] (tC G X (Wz.inn Z) .no) := ⟨fun p s σ H Q I q => pts_nil.run p s σ H Q I (by
  obtain ⟨δ, F, k, R, w, ok⟩ := q
  exact ok _ _ w H F Ext.refl R)⟩
theorem s_cso {Z : Addr → Prop} {m : Ex} {e : Expr} (h : PT X e (tT G X (Wz.inn Z) m)) : PTs X [e] (tC G X (Wz.inn Z) (.so m)) := ⟨fun p s σ H Q I q => (pts_one h).run p s σ H Q I (by
  obtain ⟨δ, F, k, R, w, ok⟩ := q
  exact ⟨δ, F, k, _, R, w, ok, fun x δ' h => h.elim⟩)⟩
theorem Rep.zmore {K : Frag} {Z : Addr → Prop} {D : Addr} (R : Rep K Z δ σ F H) (h1 : F D = none) (h2 : ∃ xs, H D = some (.lst xs)) (h3 : ¬ Owned δ σ D) : Rep K (fun b => Z b ∨ b = D) δ σ F H :=
  ⟨R.len, R.sub, R.fro, R.own, R.inj, fun b z => by
    rcases z with z | rfl
    · exact R.zz b z
    · exact ⟨h1, h2, h3⟩⟩
theorem Rep.zless {K : Frag} {Z : Addr → Prop} {D : Addr} (R : Rep K (fun b => Z b ∨ b = D) δ σ F H) : Rep K Z δ σ F H :=
  ⟨R.len, R.sub, R.fro, R.own, R.inj, fun b z => R.zz b (.inl z)⟩
theorem Rep.zwrite {K : Frag} {Z : Addr → Prop} {D : Addr} (R : Rep K Z δ σ F H) (h : Z D) (ys : List V) : Rep K Z δ σ F (upd H D (.lst ys)) := by
  obtain ⟨n, _, nn⟩ := R.zz D h
  refine ⟨R.len, fun b u e => ?_, R.fro, fun i d f l hf => ?_, R.inj, fun b z => ?_⟩
  · rw [upd_ne (by rintro rfl; rw [n] at e; cases e)]; exact R.sub b u e
  · obtain ⟨a, xs, ds, e1, e2, e3, e4, r⟩ := R.own i d f l hf
    exact ⟨a, xs, ds, e1, e2, e3, by rw [upd_ne (by rintro rfl; exact nn ⟨i, d, f, l, hf, e2⟩)]; exact e4, r⟩
  · obtain ⟨n', ⟨xs, t⟩, nn'⟩ := R.zz b z
    by_cases hb : b = D
    · subst hb; exact ⟨n', ⟨ys, upd_same⟩, nn'⟩
    · exact ⟨n', ⟨xs, by rw [upd_ne hb]; exact t⟩, nn'⟩
theorem ownN_snd (N : List Str) (own : List Nat) : (ownN N own).map (·.2) = own := by
  unfold ownN
  rw [List.map_map]
  induction own with
  | nil => rfl
  | cons i is ih => simp only [List.map_cons, ih]; rfl
theorem tg_in {own : List Nat} {tg : Tg} (h : okTgO own tg = true) : ∀ j ∈ tgIx tg, j ∈ own := by
  cases tg with
  | one i =>
    intro j hj
    have : j = i := by simpa [tgIx] using hj
    subst this
    simpa [okTgO] using h
  | many is =>
    intro j hj
    have := List.all_eq_true.mp (show (is.all fun i => own.contains i) = true from h) j hj
    simpa using this
theorem lc_imp {e : Ex} {tg : Tg} {it : Ti} {c : Ox} {own : List Nat} (ho : okTgO own tg = true) (σ : Sv) (H0 : Hp) (Q : VK) (q : tE G X W (.lc e tg it c own) σ H0 Q) :
    tLc (tI G X W it) (gT X.K tg) (fun σ H Q => ∃ Z, tC G X (Wz.inn Z) c σ H Q) (fun σ H Q => ∃ Z, tE G X (Wz.inn Z) e σ H Q) own σ H0 Q := by
  obtain ⟨δ0, F0, Kd, Ed, R0, w, ok, oe⟩ := q
  have w : wpI G W.z it δ0 (fun items src δ1 =>
      (own.all (fun i => !isOwn (look δ1 i)) && (match src with | some j => !own.contains j | none => true)) = true ∧
      lcL src items own (bindT tg) (fun δ2 k => wpC G true c δ2 k) (fun δ2 k => wpE G true e δ2 (fun d _ δ3 => k d δ3) fun _ _ => False)
        (fun acc δ2 => Kd (.list acc) true (unwipe δ1 δ2 own)) items [] (wipeD δ1 own)) Ed := w
  refine ⟨δ0, F0, _, Ed, R0, w, fun items src δ1 q1 J H1 F1 sa e1 r1 sr sl srv => ?_, oe⟩
  obtain ⟨hown, lc⟩ := q1
  simp only [Bool.and_eq_true, List.all_eq_true] at hown
  obtain ⟨hown, hsrc⟩ := hown
  have hsrc : ∀ j, src = some j → j ∉ own := fun j h => by subst h; simpa using hsrc
  have hno : ∀ j ∈ own, ∀ d f, look δ1 j = some (d, f) → f = .fro := fun j hj d f h => by
    have := hown j hj
    rw [h] at this
    cases f <;> first | rfl | cases this
  intro D hD
  have hin := tg_in ho
  -- the invariant
  let Inv : Nat → Hp → Prop := fun i H => ∃ (δ : Dl) (F : Hp) (accD : List _) (accV : List V), Rep X.K (fun b => W.Z b ∨ b = D) δ (L2.wipe σ own) F H ∧ Ext (wipeD δ1 own) δ (L2.wipe σ own) F1 F H1 H ∧ H D = some (.lst accV) ∧ RpA X.K F accV accD ∧ srcOk src items δ ∧
    lcL src items own (bindT tg) (fun δ2 k => wpC G true c δ2 k) (fun δ2 k => wpE G true e δ2 (fun d _ δ3 => k d δ3) fun _ _ => False) (fun acc δ2 => Kd (.list acc) true (unwipe δ1 δ2 own)) (items.drop i) accD δ
  have rD : Rep X.K W.Z δ1 σ F1 (upd H1 D (.lst [])) := r1.newO hD
  have start : Inv 0 (upd H1 D (.lst [])) := by
    refine ⟨wipeD δ1 own, F1, [], [], (rD.wipe own).zmore (r1.sub.free hD) ⟨[], upd_same⟩ fun ⟨j, d, f, h1, h2, h3⟩ => ?_, ⟨Same.refl _, fun _ q => q, fun b u h _ => same_new hD b u h, fun _ d h => ⟨d, h⟩⟩, upd_same, .nil, ?_, by simpa using lc⟩
    · obtain ⟨g1, g2⟩ := look_wipe.mp h1
      rw [wipe_get g1] at h3
      exact r1.new_not hD ⟨j, d, f, g2, h2, h3⟩
    · cases hs : src with
      | none => trivial
      | some j =>
        obtain ⟨f, l, _⟩ := sl j hs
        exact ⟨f, look_wipe.mpr ⟨hsrc j hs, l⟩⟩
  refine ⟨fun i m H => m = items.length - i ∧ i ≤ items.length ∧ Inv i H, ⟨items.length, by simp, Nat.zero_le _, start⟩, ?_⟩
  rintro i m H ⟨rfl, hil, δ, F, accD, accV, R, E, hDv, ra, so, lcw⟩
  have srcA : ∀ a, sa = some a → ∃ xs, H a = some (.lst xs) ∧ RpA X.K F xs items := fun a ha => by
    subst ha
    cases hs : src with
    | none => rw [hs] at sr; exact sr.elim
    | some j =>
      rw [hs] at sr so
      obtain ⟨f, l⟩ := so
      have hj := hsrc j hs
      have hσ : (L2.wipe σ own)[j]? = some (some (.ref a)) := by rw [wipe_get hj]; exact sr
      by_cases hf : f = .fro
      · subst hf
        obtain ⟨v, e2, r⟩ := R.fro j _ l
        rw [hσ] at e2; cases e2
        cases r with
        | lst h r => exact ⟨_, R.sub _ _ h, r⟩
      · obtain ⟨a', xs, ds, e2, e3, _, e5, r⟩ := R.own j _ f l hf
        rw [hσ] at e3; cases e3; cases e2
        exact ⟨xs, e5, r⟩
  obtain ⟨stop, go⟩ := srv i F H E.sub R.sub srcA
  by_cases hlt : i < items.length
  · refine .inr ?_
    have hx : items[i]? = some items[i] := List.getElem?_eq_getElem hlt
    obtain ⟨g0, yld⟩ := go _ hx
    refine ⟨g0, Inv (i + 1), fun H' p => ⟨items.length - (i + 1), by omega, rfl, hlt, p⟩, fun x H' y => ?_⟩
    rw [List.drop_eq_getElem_cons hlt] at lcw
    have lcw : bindT tg items[i] δ fun δ1a => wpC G true c δ1a fun b δ2 => if b = true then wpE G true e δ2 (fun d _ δ3 => accD.length < 1000000 ∧ srcOk src items δ3 ∧ lcL src items own (bindT tg) (fun δ2 k => wpC G true c δ2 k) (fun δ2 k => wpE G true e δ2 (fun d _ δ3 => k d δ3) fun _ _ => False) (fun acc δ2 => Kd (.list acc) true (unwipe δ1 δ2 own)) (items.drop (i + 1)) (accD ++ [d]) (wipeD δ3 own)) (fun _ _ => False)
      else srcOk src items δ2 ∧ lcL src items own (bindT tg) (fun δ2 k => wpC G true c δ2 k) (fun δ2 k => wpE G true e δ2 (fun d _ δ3 => k d δ3) fun _ _ => False) (fun acc δ2 => Kd (.list acc) true (unwipe δ1 δ2 own)) (items.drop (i + 1)) accD (wipeD δ2 own) := lcw
    -- the item
    have item : ∃ F', Ext δ δ (L2.wipe σ own) F F' H H' ∧ Rep X.K (fun b => W.Z b ∨ b = D) δ (L2.wipe σ own) F' H' ∧ Rp X.K F' x items[i] ∧ H' D = some (.lst accV) := by
      rcases yld x H' y with ⟨rfl, r⟩ | ⟨p, xs, ds, hp, rfl, rfl, hd, r⟩
      · exact ⟨F, Ext.refl, R, r, hDv⟩
      · refine ⟨upd F p (.tup xs), Ext.new R hp, R.new hp, ?_, by rw [upd_ne (ne_of_none hDv hp)]; exact hDv⟩
        rw [hd]
        exact .tup (SqT.of upd_same) (r.mono (same_new (R.sub.free hp)))
    obtain ⟨F', E', R', rx, hD'⟩ := item
    refine bind_ok R' rx lcw fun δa σ2 wa Ra S => ?_
    have hw : L2.wipe σ2 own = L2.wipe σ own := by
      have h1 : L2.wipe σ2 own = L2.wipe (L2.wipe σ own) own := wipe_eq S.len fun j hj => (S.out j fun h => hj (hin j h)).1
      rw [h1]
      exact wipe_eq (L2.wipe_length _ _) fun j hj => wipe_get hj
    refine ⟨hw, ?_⟩
    -- what a step behind the binding keeps of the start
    have ownA : ∀ a, Owned δa σ2 a → Owned δ (L2.wipe σ own) a := fun a ⟨j, d, f, h1, h2, h3⟩ => by
      by_cases hj : j ∈ tgIx tg
      · exact absurd (S.fro j hj d f h1) h2
      · obtain ⟨s1, s2⟩ := S.out j hj
        rw [s2] at h1
        rw [s1] at h3
        exact ⟨j, d, f, h1, h2, h3⟩
    have fin : ∀ {δc : Dl} {Fc Hc : Hp}, Ext δa δc σ2 F' Fc H' Hc → ∀ {Hd : Hp}, (∀ b, b ≠ D → Hd b = Hc b) → Ext (wipeD δ1 own) (wipeD δc own) (L2.wipe σ own) F1 Fc H1 Hd := fun {δc Fc Hc} Ec {Hd} hh => by
      refine ⟨(E.sub.trans E'.sub).trans Ec.sub, fun a ⟨j, d, f, h1, h2, h3⟩ => ?_, fun b u h n => ?_, fun j d h => ?_⟩
      · obtain ⟨g1, g2⟩ := look_wipe.mp h1
        have h3' : σ2[j]? = some (some (.ref a)) := by
          rw [← hw, wipe_get g1] at h3
          exact h3
        exact E.own a (ownA a (Ec.own a ⟨j, d, f, g2, h2, h3'⟩))
      · have hbD : b ≠ D := ne_of_none h hD
        rw [hh b hbD]
        have hn : ¬ Owned δ (L2.wipe σ own) b := fun q => n (E.own b q)
        exact Ec.frm b u (E'.frm b u (E.frm b u h n) hn) fun q => hn (ownA b q)
      · obtain ⟨g1, g2⟩ := look_wipe.mp h
        obtain ⟨d1, h1⟩ := E.lnt j d h
        have h2 := (S.lnt j d1 h1).1
        obtain ⟨d2, h3⟩ := Ec.lnt j d1 h2
        exact ⟨d2, look_wipe.mpr ⟨g1, h3⟩⟩
    have srcW : ∀ {δc : Dl}, srcOk src items δc → srcOk src items (wipeD δc own) := fun {δc} h => by
      cases hs : src with
      | none => trivial
      | some j =>
        rw [hs] at h
        obtain ⟨f, l⟩ := h
        exact ⟨f, look_wipe.mpr ⟨hsrc j hs, l⟩⟩
    refine ⟨fun b => W.Z b ∨ b = D, δa, F', _, Ra, wa, fun b δb wb H3 F3 E3 R3 => ?_⟩
    have hD3 : H3 D = some (.lst accV) := E3.frm D _ hD' (Ra.zz D (.inr rfl)).2.2
    have ra3 : RpA X.K F3 accV accD := ra.mono (E'.sub.trans E3.sub)
    cases b with
    | false =>
      obtain ⟨sb, wb⟩ := ifF wb
      refine ⟨wipeD δb own, F3, accD, accV, ?_, fin E3 (fun _ _ => rfl), hD3, ra3, srcW sb, wb⟩
      rw [← hw]
      exact R3.wipe own
    | true =>
      show ∃ Z, tE G X (Wz.inn Z) e σ2 H3 _
      refine ⟨fun b => W.Z b ∨ b = D, δb, F3, _, fun _ _ => False, R3, ifT wb, fun d fr δc wc y H4 F4 E4 R4 rr => ?_, fun x δ' h => h.elim⟩
      obtain ⟨hlen, sc, wc⟩ := wc
      obtain ⟨F5, E5, R5, rp⟩ := rr.frz R4
      have hD4 : H4 D = some (.lst accV) := E4.frm D _ hD3 (R3.zz D (.inr rfl)).2.2
      refine ⟨accV, hD4, by rw [ra.len]; exact lt1e6 hlen, wipeD δc own, F5, accD ++ [d], accV ++ [y], ?_, fin ((E3.trans E4).trans E5) (fun b hb => upd_ne hb), upd_same, ?_, srcW sc, wc⟩
      · rw [← hw]
        exact (R5.zwrite (.inr rfl) _).wipe own
      · exact (ra3.mono (E4.sub.trans E5.sub)).app (.cons rp .nil)
  · have hi : i = items.length := by omega
    refine .inl ⟨stop (by omega), ?_⟩
    rw [hi, List.drop_length] at lcw
    have lcw : Kd (.list accD) true (unwipe δ1 δ own) := lcw
    have hlen : δ1.length = δ.length := by
      have h1 := R.len
      have h2 := r1.len
      rw [L2.wipe_length] at h1
      omega
    have lk : ∀ j, look (unwipe δ1 δ own) j = if j ∈ own then look δ1 j else look δ j := fun j => look_unwipe hlen
    have oo : ∀ a, Owned (unwipe δ1 δ own) σ a → Owned δ (L2.wipe σ own) a := fun a ⟨j, d, f, h1, h2, h3⟩ => by
      rw [lk] at h1
      split at h1
      · rename_i hj
        exact absurd (hno j hj d f h1) h2
      · rename_i hj
        exact ⟨j, d, f, h1, h2, by rw [wipe_get hj]; exact h3⟩
    have o1 : ∀ a, Owned (wipeD δ1 own) (L2.wipe σ own) a → Owned δ1 σ a := fun a ⟨j, d, f, h1, h2, h3⟩ => by
      obtain ⟨g1, g2⟩ := look_wipe.mp h1
      rw [wipe_get g1] at h3
      exact ⟨j, d, f, g2, h2, h3⟩
    have o1' : ∀ a, Owned δ1 σ a → Owned (wipeD δ1 own) (L2.wipe σ own) a := fun a ⟨j, d, f, h1, h2, h3⟩ => by
      have hj : j ∉ own := fun hj => h2 (hno j hj d f h1)
      exact ⟨j, d, f, look_wipe.mpr ⟨hj, h1⟩, h2, by rw [wipe_get hj]; exact h3⟩
    have RR : Rep X.K W.Z (unwipe δ1 δ own) σ F H := by
      refine ⟨by rw [unwipe_len, ← hlen]; exact r1.len, R.sub, fun j d h => ?_, fun j d f h hf => ?_, fun j j' d d' f f' a h1 hf h2 hf' s1 s2 => ?_, fun b z => ?_⟩
      · rw [lk] at h
        split at h
        · obtain ⟨v, e2, r⟩ := r1.fro j d h
          exact ⟨v, e2, r.mono E.sub⟩
        · rename_i hj
          obtain ⟨v, e2, r⟩ := R.fro j d h
          rw [wipe_get hj] at e2
          exact ⟨v, e2, r⟩
      · rw [lk] at h
        split at h
        · rename_i hj
          exact absurd (hno j hj d f h) hf
        · rename_i hj
          obtain ⟨a, xs, ds, g1, g2, g⟩ := R.own j d f h hf
          rw [wipe_get hj] at g2
          exact ⟨a, xs, ds, g1, g2, g⟩
      · rw [lk] at h1 h2
        split at h1
        · rename_i hj
          exact absurd (hno j hj d f h1) hf
        · rename_i hj
          split at h2
          · rename_i hj'
            exact absurd (hno j' hj' d' f' h2) hf'
          · rename_i hj'
            exact R.inj j j' d d' f f' a h1 hf h2 hf' (by rw [wipe_get hj]; exact s1) (by rw [wipe_get hj']; exact s2)
      · obtain ⟨n, t, nn⟩ := R.zz b (.inl z)
        exact ⟨n, t, fun q => nn (oo b q)⟩
    refine ok _ _ _ lcw (.ref D) H F (e1.trans ⟨E.sub, fun a q => o1 a (E.own a (oo a q)), fun b u h n => E.frm b u h fun q => n (o1 b q), fun j d h => ?_⟩) RR ⟨D, accV, accD, rfl, rfl, (R.zz D (.inr rfl)).1, hDv, ra, fun q => (R.zz D (.inr rfl)).2.2 (oo D q), fun z => ?_⟩
    · have hj : j ∉ own := fun hj => by have := hno j hj d .lent h; cases this
      obtain ⟨d', h'⟩ := E.lnt j d (look_wipe.mpr ⟨hj, h⟩)
      exact ⟨d', by rw [lk, if_neg hj]; exact h'⟩
    · obtain ⟨_, ⟨xs, t⟩, _⟩ := r1.zz D z
      rw [hD] at t; cases t
theorem s_lc {N : List Str} {k : Nat} (hN : X.N = N) (C : Cxt G X k) {e : Ex} {tg : Tg} {it : Ti} {c : Ox} {own : List Nat} {elt tgt iter : Expr} {ifs : List Expr} {scope : Scope} {pos : Pos}
    (hni : nice iter = true) (hi : PI X tgt iter (tI G X W it)) (hb : blkC N X.env.scope scope (ownN N own) = true) (ho : okTgO own tg = true)
    (hg : ∀ (s : Shared) (H : Hp) (Ca : Addr) (cl : List (Str × Addr)) (fp : List Addr), PG (X.blk s H scope (compEnvC scope cl Ca X.env) fp) tgt (gT X.K tg))
    (ht : ∀ (Z : Addr → Prop) (s : Shared) (H : Hp) (Ca : Addr) (cl : List (Str × Addr)) (fp : List Addr), PTs (X.blk s H scope (compEnvC scope cl Ca X.env) fp) ifs (tC G (X.blk s H scope (compEnvC scope cl Ca X.env) fp) (Wz.inn Z) c))
    (he : ∀ (Z : Addr → Prop) (s : Shared) (H : Hp) (Ca : Addr) (cl : List (Str × Addr)) (fp : List Addr), PE (X.blk s H scope (compEnvC scope cl Ca X.env) fp) elt (tE G (X.blk s H scope (compEnvC scope cl Ca X.env) fp) (Wz.inn Z) e)) :
    PE X (.ListComp elt [⟨tgt, iter, ifs, 0⟩] scope pos) (tE G X W (.lc e tg it c own)) := by
  have base := pe_lc (own := ownN N own) (g := gT X.K tg) (tt := fun σ H Q => ∃ Z, tC G X (Wz.inn Z) c σ H Q) (te := fun σ H Q => ∃ Z, tE G X (Wz.inn Z) e σ H Q) (pos := pos) C.calm C.nd hi (by rw [hN]; exact blkOk_by hb) hg
    (fun s H Ca cl fp => PTs.ex fun Z => ht Z s H Ca cl fp) (fun s H Ca cl fp => PE.ex fun Z => he Z s H Ca cl fp) (fun x => by cases iter <;> first | rfl | simp [nice] at hni)
  refine PE.imp base fun σ H0 Q q => ?_
  rw [ownN_snd]
  exact lc_imp ho σ H0 Q q
end
end Mi
set_option Elab.async false
set_option linter.all false
set_option maxRecDepth 100000
namespace Mi
open PySem L2 PyProof.Rows
/-! ### every expression -/
theorem run_fnS0 {X : Cx} {CX : CXT} {k : Nat} {f : Addr} {fd : FuncData} {ps : List Str} {sp : Sp} {E : Sv → XK} {x : Str} {p pos : Pos} (F : FnOk X.prog X.w X.K X.mg X.base CX k f fd ps sp) (hr : Room k X.A) (hg : Gl X x) (hm : X.mg x = some (.ref f)) (hk : PySem.W.keepIn X.K (.ref f) = true)
    (hb : Binds X.K fd ps []) (hx : ∀ σ, PassesAt CX X σ (E σ)) (hdb : (x == ("__debug__" : Str)) = false := by decide) : PE X (.Call (.Name x p) [] [] pos) (tCallS sp E tNil) := by
  refine ⟨fun pins s σ H Q I h => ?_⟩
  refine wpAny_Call_Name_kw (ld_glob I hg hm ?_ hdb)
  exact PySem.W.callWith_K0 I.kIn hk (run_fnS (us := []) F hr hb (hx σ) I .nil h)
structure Lens (G : Gd) : Prop where
  len : ∀ (i : Nat) (fi : FI), G.fs[i]? = some fi → fi.lent.length = fi.ps.length
section
variable {G : Gd} {X : Cx} {W : Wz}
theorem s_call {k f : Nat} (C : Cxt G X k) (L : Lens G) (tk : Takes X W.W) {as : Exs} {x : Str} {p pos : Pos} {e : Expr} {es : List Expr} (hg : glB X.env.scope x = true) (hn : okNm x = true) (hf : (G.fs[f]?).map (·.name) = some x) (hns : (e :: es).all nice = true) (ha : PA X (e :: es) (tAs G X W as)) :
    PE X (.Call (.Name x p) (e :: es) [] pos) (tE G X W (.call f as)) := by
  cases hfi : G.fs[f]? with
  | none => rw [hfi] at hf; cases hf
  | some fi =>
    rw [hfi] at hf
    have hf : fi.name = x := by simpa using hf
    subst hf
    obtain ⟨fa, fd, F, hm, hk, hb⟩ := C.fns f fi hfi
    simp [okNm] at hn
    simp only [List.all_cons, Bool.and_eq_true] at hns
    refine PE.imp (pe_callS F C.room (gl_of hg) hm hk hb (fun σ => passAt tk σ) ha (by simpa using hn.1) (star_of hns.1) (plain_of (e := e) hns.2)) fun σ H Q q => ?_
    obtain ⟨δ, F', Kd, Ed, R, w, ok, oe⟩ := q
    refine ⟨δ, F', _, Ed, R, w, fun xs δ1 q1 vs H1 F1 e1 r1 a1 => ?_, oe⟩
    rw [hfi] at q1
    exact call_ok (L.len f _ hfi) r1 a1 q1 (ok.go e1) (oe.go e1)
theorem s_call0 {k f : Nat} (C : Cxt G X k) (L : Lens G) (tk : Takes X W.W) {x : Str} {p pos : Pos} (hg : glB X.env.scope x = true) (hn : okNm x = true) (hf : (G.fs[f]?).map (·.name) = some x) :
    PE X (.Call (.Name x p) [] [] pos) (tE G X W (.call f .nil)) := by
  cases hfi : G.fs[f]? with
  | none => rw [hfi] at hf; cases hf
  | some fi =>
    rw [hfi] at hf
    have hf : fi.name = x := by simpa using hf
    subst hf
    obtain ⟨fa, fd, F, hm, hk, hb⟩ := C.fns f fi hfi
    simp [okNm] at hn
    refine PE.imp (run_fnS0 F C.room (gl_of hg) hm hk hb (fun σ => passAt tk σ) (by simpa using hn.1)) fun σ H Q q => ?_
    obtain ⟨δ, F', Kd, Ed, R, w, ok, oe⟩ := q
    have w : onS G.fs[f]? fun fi => callK W.z fi [] δ Kd Ed := w
    rw [hfi] at w
    exact call_ok (L.len f _ hfi) R (as := []) (vs := []) trivial w ok oe
theorem s_ct {k f g : Nat} (C : Cxt G X k) (L : Lens G) (tk : Takes X W.W) {as bs : Exs} {x y : Str} {p p2 pos pos2 : Pos} {e2 : Expr} {es2 es : List Expr} (hg : glB X.env.scope x = true) (hn : okNm x = true) (hf : (G.fs[f]?).map (·.name) = some x)
    (hg2 : glB X.env.scope y = true) (hn2 : okNm y = true) (hf2 : (G.fs[g]?).map (·.name) = some y) (hns2 : (e2 :: es2).all nice = true) (hns : es.all nice = true) (ha : PA X (e2 :: es2) (tAs G X W as)) (hb : ∀ q : Addr, PA X es (tAs G X (W.plus q) bs)) :
    PE X (.Call (.Name x p) (.Call (.Name y p2) (e2 :: es2) [] pos2 :: es) [] pos) (tE G X W (.ct f g as bs)) := by
  cases hfi : G.fs[f]? with
  | none => rw [hfi] at hf; cases hf
  | some fi =>
  cases hgi : G.fs[g]? with
  | none => rw [hgi] at hf2; cases hf2
  | some gi =>
    rw [hfi] at hf
    rw [hgi] at hf2
    have hf : fi.name = x := by simpa using hf
    have hf2 : gi.name = y := by simpa using hf2
    subst hf
    subst hf2
    obtain ⟨fa, fd, F, hm, hk, hbd⟩ := C.fns f fi hfi
    obtain ⟨fa2, fd2, F2, hm2, hk2, hbd2⟩ := C.fns g gi hgi
    simp [okNm] at hn hn2
    simp only [List.all_cons, Bool.and_eq_true] at hns2
    have inner := pe_callS (pos := pos2) (p := p2) F2 C.room (gl_of hg2) hm2 hk2 hbd2 (fun σ => passAt tk σ) ha (by simpa using hn2.1) (star_of hns2.1) (plain_of (e := e2) hns2.2)
    have rest : PA X es (fun σ H Q => ∃ q : Addr, tAs G X (W.plus q) bs σ H Q) := ⟨fun w pp s σ H Q I ⟨q, h⟩ => (hb q).run w pp s σ H Q I h⟩
    refine PE.imp (pe_callS F C.room (gl_of hg) hm hk hbd (fun σ => passAt tk σ) (pa_cons inner rest (star_of rfl)) (by simpa using hn.1) (star_of rfl) (plain_of (e := .Call (.Name gi.name p2) (e2 :: es2) [] pos2) hns)) fun σ H Q q => ?_
    obtain ⟨δ, F', Kd, Ed, R, w, ok, oe⟩ := q
    refine ⟨δ, F', _, Ed, R, w, fun xs δ1 q1 vs H1 F1 e1 r1 a1 => ?_, oe⟩
    obtain ⟨_, e0, q1⟩ := ex_of q1
    rw [hgi] at e0
    cases e0
    refine call_new (L.len g _ hgi) r1 a1 q1 (fun d fr δ2 q2 v H2 F2 e2 r2 rr new => ?_) (oe.go e1)
    obtain ⟨hfr, q2⟩ := q2
    subst hfr
    obtain ⟨pt, xs, ds, rfl, rfl, n1, n2, n3, n4, n5⟩ := rr
    have hp : H1 pt = none := new rfl pt rfl
    have e12 := e1.trans e2
    refine ⟨pt, δ2, F2, _, Ed, ⟨r2.len, r2.sub, r2.fro, r2.own, r2.inj, fun b z => ?_⟩, q2, fun ys δ3 q3 us H3 F3 e3 r3 a3 => ?_, fun x δ' q cls dx H' F' e r xr => oe x δ' q cls dx H' F' (e12.trans e) (r.zsub fun b z => .inl z) xr⟩
    · rcases z with z | rfl
      · exact r2.zz b z
      · exact ⟨n1, ⟨xs, n2⟩, n4⟩
    · obtain ⟨_, e0, q3⟩ := ex_of q3
      rw [hfi] at e0
      cases e0
      have R3 : Rep X.K W.Z δ3 σ F3 H3 := r3.zsub fun b z => .inl z
      obtain ⟨m1, _, m4⟩ := r3.zz pt (.inr rfl)
      have m2 : H3 pt = some (.lst xs) := e3.frm _ _ n2 n4
      have R3p := R3.snoc m1 m2 (n3.mono e3.sub) m4 n5
      have e123 := e12.trans e3
      have ext : ∀ δ4 F4 H4, Rep X.K W.Z δ4 (σ ++ [some (.ref pt)]) F4 H4 → flB δ4 (δ3 ++ [some (.list ds, .own)]) = true → Ext (δ3 ++ [some (.list ds, .own)]) δ4 (σ ++ [some (.ref pt)]) F3 F4 H3 H4 → Ext δ δ4.dropLast σ F' F4 H H4 := fun δ4 F4 H4 r4 hB e4 => by
        obtain ⟨s1, s2, s3, s4⟩ := Ext.unsnoc hp R3 r4 m4 hB e4
        refine ⟨e123.sub.trans s1, fun b q => e123.own b (s2 b q), fun b o h n => ?_, fun i d h => ?_⟩
        · refine s3 b o ?_ (e123.frm b o h n) fun q => n (e123.own b q)
          rintro rfl
          have := e1.frm _ _ h n
          rw [hp] at this; cases this
        · obtain ⟨d1, h1⟩ := e123.lnt i d h
          exact s4 i d1 h1
      have ans := call_ok (G := G) (X := X) (W := ⟨fun cls dx _ H => W.W cls dx σ H, W.Z, W.z, W.hz⟩) (Q := Q) (Ed := fun x δ4 => flB δ4 (δ3 ++ [some (.list ds, .own)]) = true ∧ Ed x δ4.dropLast) (L.len f _ hfi) R3p (as := .ref δ3.length :: ys) (vs := .ref pt :: us) ⟨by rw [← R3.len]; exact snoc_at, a3.snoc⟩ q3
        (fun r fr4 δ4 q4 v4 H4 F4 e4 r4 rr4 => by
          obtain ⟨hB, q4⟩ := q4
          refine ok _ _ _ q4 v4 H4 F4 (ext _ _ _ r4 hB e4) r4.unsnoc ?_
          cases fr4 with
          | false => exact rr4
          | true =>
            obtain ⟨p5, xs5, ds5, g1, g2, g3, g4, g5, g6, g7⟩ := rr4
            exact ⟨p5, xs5, ds5, g1, g2, g3, g4, g5, fun q => g6 (own_drop r4.len q), g7⟩)
        (fun x δ4 q4 cls dx H4 F4 e4 r4 xr => oe x _ q4.2 cls dx H4 F4 (ext _ _ _ r4 q4.1 e4) r4.unsnoc xr)
      exact ans
theorem pt_no {e : Expr} {m : Ex} (h : ∀ δ k E, ¬ wpT G W.z m δ k E) : PT X e (tT G X W m) := ⟨fun p s σ H Q I ⟨δ, F, k, Ed, R, w, _⟩ => (h _ _ _ w).elim⟩
theorem tru_rr {δ : Dl} {σ : Sv} {F H : Hp} {d : D} {fr : Bool} {v : V} {b : Bool} (R : Rep X.K W.Z δ σ F H) (rr : RRep X.K W.Z δ σ F H v d fr) (h : truth d = some b) : TruV X.K v H b := by
  obtain ⟨F', _, r, rp⟩ := rr.frz R
  exact truth_ok (rp.mono r.sub) h
theorem truK_is {d : D} {k : Bool → Prop} (h : truK d k) : ∃ b, truth d = some b ∧ k b := by
  exact ex_of h
theorem s_truth {e : Expr} {m : Ex} (he : ∀ whole, isTrue e X.env whole = (do let v ← whole; standAt e.pos; holding [v] (truthy v))) (h : PE X e (tE G X W m))
    (w : ∀ δ k E, wpT G W.z m δ k E → wpE G W.z m δ (fun r _ δ1 => truK r fun b => k b δ1) E) : PT X e (tT G X W m) := by
  refine PT.imp (pt_truth h he) fun σ H Q q => ?_
  obtain ⟨δ, F, k, Ed, R, wt, ok, oe⟩ := q
  exact ⟨δ, F, _, Ed, R, w _ _ _ wt, fun d fr δ1 q1 v H1 F1 e1 r1 rr => by
    obtain ⟨b, hb, q1⟩ := truK_is q1
    exact ⟨b, tru_rr r1 rr hb, ok _ _ q1 H1 F1 e1 r1⟩, oe⟩
theorem s_varT {N : List Str} {i : Nat} {x : Str} {pos : Pos} (hN : X.N = N) (h : okVar N X.env.scope i x = true) : PT X (.Name x pos) (tT G X W (.var i)) := by
  simp [okVar, okNm] at h
  obtain ⟨⟨h1, h2⟩, h3, h4⟩ := h
  refine PT.imp (pt_truth (pe_var (i := i) (by rw [hN]; exact h1) (vis_of h2) (by simpa using h3) (by simpa using h4)) (fun _ => rfl)) fun σ H Q q => ?_
  obtain ⟨δ, F, k, Ed, R, w, ok, oe⟩ := q
  have w : (match look δ i with | some (d, _) => truK d fun b => k b δ | none => False) := w
  cases l : look δ i with
  | none => rw [l] at w; exact w.elim
  | some p =>
    obtain ⟨d, f⟩ := p
    rw [l] at w
    obtain ⟨b, hb, w⟩ := truK_is w
    have : ∃ v, σ[i]? = some (some v) ∧ Rp X.K H v d := by
      by_cases hf : f = .fro
      · subst hf
        obtain ⟨v, e, r⟩ := R.fro i d l
        exact ⟨v, e, r.mono R.sub⟩
      · obtain ⟨a, xs, ds, rfl, e, _, e4, r⟩ := R.own i d f l hf
        exact ⟨_, e, .lst e4 (r.mono R.sub)⟩
    obtain ⟨v, e, r⟩ := this
    exact ⟨v, e, b, truth_ok r hb, ok _ _ w H F Ext.refl R⟩
theorem plainIx_of {e : Expr} (h : nice e = true) : PlainIx e := fun o i => by cases e <;> first | rfl | simp [nice] at h
theorem inv_cmp {N : List Str} {sc : Scope} {o : COp} {a b : Ex} {e : Expr} (h : okE G N sc (.cmp o a b) e = true) : ∃ l r pos, e = .Compare l [acmp o] [r] pos ∧ behindInMarks (acmp o) r = false ∧ okE G N sc a l = true ∧ okE G N sc b r = true := by
  cases e <;> try (simp [okE] at h; done)
  rename_i l ops cs pos
  match ops, cs, h with
  | [op], [r], h =>
    simp [okE] at h
    obtain ⟨⟨⟨rfl, h1⟩, h2⟩, h3⟩ := h
    exact ⟨l, r, pos, rfl, h1, h2, h3⟩
  | [], _, h => simp [okE] at h
  | [_], [], h => simp [okE] at h
  | [_], _ :: _ :: _, h => simp [okE] at h
  | _ :: _ :: _, _, h => simp [okE] at h
theorem inv_cmp2 {N : List Str} {sc : Scope} {o p : COp} {a b c : Ex} {e : Expr} (h : okE G N sc (.cmp2 o p a b c) e = true) :
    ∃ l r q pos, e = .Compare l [acmp o, acmp p] [r, q] pos ∧ behindInMarks (acmp p) q = false ∧ okE G N sc a l = true ∧ okE G N sc b r = true ∧ okE G N sc c q = true := by
  cases e <;> try (simp [okE] at h; done)
  rename_i l ops cs pos
  match ops, cs, h with
  | [op, op'], [r, q], h =>
    simp [okE] at h
    obtain ⟨⟨⟨⟨⟨rfl, rfl⟩, h1⟩, h2⟩, h3⟩, h4⟩ := h
    exact ⟨l, r, q, pos, rfl, h1, h2, h3, h4⟩
  | [], _, h => simp [okE] at h
  | [_], _, h => simp [okE] at h
  | [_, _], [], h => simp [okE] at h
  | [_, _], [_], h => simp [okE] at h
  | [_, _], _ :: _ :: _ :: _, h => simp [okE] at h
  | _ :: _ :: _ :: _, _, h => simp [okE] at h
theorem inv_and {N : List Str} {sc : Scope} {a b : Ex} {e : Expr} (h : okE G N sc (.and a b) e = true) : ∃ l m r pos, e = .BoolOp .And (l :: m :: r) pos ∧ okE G N sc a l = true ∧ okE G N sc b (.BoolOp .And (m :: r) pos) = true := by
  cases e <;> try (simp [okE] at h; done)
  rename_i op vs pos
  match op, vs, h with
  | .And, l :: m :: r, h =>
    simp [okE] at h
    exact ⟨l, m, r, pos, rfl, h.1, h.2⟩
  | .And, [], h => simp [okE] at h
  | .And, [_], h => simp [okE] at h
  | .Or, _, h => simp [okE] at h
theorem inv_or {N : List Str} {sc : Scope} {a b : Ex} {e : Expr} (h : okE G N sc (.or a b) e = true) : ∃ l m r pos, e = .BoolOp .Or (l :: m :: r) pos ∧ okE G N sc a l = true ∧ okE G N sc b (.BoolOp .Or (m :: r) pos) = true := by
  cases e <;> try (simp [okE] at h; done)
  rename_i op vs pos
  match op, vs, h with
  | .Or, l :: m :: r, h =>
    simp [okE] at h
    exact ⟨l, m, r, pos, rfl, h.1, h.2⟩
  | .Or, [], h => simp [okE] at h
  | .Or, [_], h => simp [okE] at h
  | .And, _, h => simp [okE] at h
theorem inv_one {N : List Str} {sc : Scope} {a : Ex} {e : Expr} (h : okE G N sc (.one a) e = true) : ∃ op l pos, e = .BoolOp op [l] pos ∧ okE G N sc a l = true := by
  cases e <;> try (simp [okE] at h; done)
  rename_i op vs pos
  match vs, h with
  | [l], h => exact ⟨op, l, pos, rfl, by simpa [okE] using h⟩
  | [], h => simp [okE] at h
  | _ :: _ :: _, h => simp [okE] at h
theorem inv_slc {N : List Str} {sc : Scope} {a : Ex} {lo hi : Ox} {e : Expr} (h : okE G N sc (.slc a lo hi) e = true) : ∃ l l' h' p2 pos, e = .Subscript l (.Slice l' h' none p2) pos ∧ okE G N sc a l = true ∧ okO G N sc lo l' = true ∧ okO G N sc hi h' = true := by
  cases e <;> try (simp [okE] at h; done)
  rename_i l r pos
  cases r <;> try (simp [okE] at h; done)
  rename_i l' h' st p2
  cases st with
  | some _ => simp [okE] at h
  | none =>
    simp [okE] at h
    exact ⟨l, l', h', p2, pos, rfl, h.1.1, h.1.2, h.2⟩
theorem inv_blt {N : List Str} {sc : Scope} {f : Bf} {as : Exs} {e : Expr} (h : okE G N sc (.blt f as) e = true) :
    ∃ m ms x p e0 es pos, as = .cons m ms ∧ e = .Call (.Name x p) (e0 :: es) [] pos ∧ x = bnm f ∧ glB sc x = true ∧ okEs G N sc (.cons m ms) (e0 :: es) = true := by
  cases as with
  | nil => cases e <;> simp [okE] at h
  | cons m ms =>
    cases e <;> try (simp [okE] at h; done)
    rename_i fn es kw pos
    cases fn <;> try (simp [okE] at h; done)
    rename_i x p
    match es, kw, h with
    | e0 :: es, [], h =>
      rw [okE] at h
      simp only [Bool.and_eq_true, decide_eq_true_eq] at h
      exact ⟨m, ms, x, p, e0, es, pos, rfl, rfl, h.1.1, h.1.2, h.2⟩
    | [], _, h => simp [okE] at h
    | _ :: _, _ :: _, h => simp [okE] at h
theorem inv_isi {N : List Str} {sc : Scope} {a : Ex} {t : Ty} {e : Expr} (h : okE G N sc (.isi a t) e = true) :
    ∃ x p e0 y p2 pos, e = .Call (.Name x p) [e0, .Name y p2] [] pos ∧ x = "isinstance" ∧ glB sc x = true ∧ y = Str.ofString (tnm t) ∧ glB sc y = true ∧ nice e0 = true ∧ okE G N sc a e0 = true := by
  cases e <;> try (simp [okE] at h; done)
  rename_i fn es kw pos
  cases fn <;> try (simp [okE] at h; done)
  rename_i x p
  match es, kw, h with
  | [e0, .Name y p2], [], h =>
    rw [okE] at h
    simp only [Bool.and_eq_true, decide_eq_true_eq] at h
    obtain ⟨⟨⟨⟨⟨h1, h2⟩, h3⟩, h4⟩, h5⟩, h6⟩ := h
    exact ⟨x, p, e0, y, p2, pos, rfl, h1, h2, h3, h4, h5, h6⟩
  | [], _, h => simp [okE] at h
  | [_], _, h => simp [okE] at h
  | _ :: _ :: _ :: _, _, h => simp [okE] at h
  | [_, e1], _ :: _, h => cases e1 <;> simp [okE] at h
  | [e0, e1], [], h => cases e1 <;> first | (simp [okE] at h; done) | (
      rename_i y p2
      rw [okE] at h
      simp only [Bool.and_eq_true, decide_eq_true_eq] at h
      obtain ⟨⟨⟨⟨⟨h1, h2⟩, h3⟩, h4⟩, h5⟩, h6⟩ := h
      exact ⟨x, p, e0, y, p2, pos, rfl, h1, h2, h3, h4, h5, h6⟩)
theorem inv_call {N : List Str} {sc : Scope} {f : Nat} {as : Exs} {e : Expr} (h : okE G N sc (.call f as) e = true) :
    ∃ x p es pos, e = .Call (.Name x p) es [] pos ∧ glB sc x = true ∧ okNm x = true ∧ (G.fs[f]?).map (·.name) = some x ∧ okEs G N sc as es = true := by
  cases e <;> try (simp [okE] at h; done)
  rename_i fn es kw pos
  cases fn <;> try (simp [okE] at h; done)
  rename_i x p
  match kw, h with
  | [], h =>
    rw [okE] at h
    simp only [Bool.and_eq_true, decide_eq_true_eq] at h
    exact ⟨x, p, es, pos, rfl, h.1.1.1, h.1.1.2, h.1.2, h.2⟩
  | _ :: _, h => simp [okE] at h
theorem inv_ct {N : List Str} {sc : Scope} {f g : Nat} {as bs : Exs} {e : Expr} (h : okE G N sc (.ct f g as bs) e = true) :
    ∃ x p y p2 e2 es2 pos2 es pos, e = .Call (.Name x p) (.Call (.Name y p2) (e2 :: es2) [] pos2 :: es) [] pos ∧ (glB sc x = true ∧ okNm x = true ∧ (G.fs[f]?).map (·.name) = some x) ∧ (glB sc y = true ∧ okNm y = true ∧ (G.fs[g]?).map (·.name) = some y) ∧
      okEs G N sc as (e2 :: es2) = true ∧ okEs G N sc bs es = true := by
  cases e <;> try (simp [okE] at h; done)
  rename_i fn args kw pos
  cases fn <;> try (simp [okE] at h; done)
  rename_i x p
  cases args with
  | nil => simp [okE] at h
  | cons a1 es =>
  cases kw with
  | cons _ _ => cases a1 <;> simp [okE] at h
  | nil =>
  cases a1 <;> try (simp [okE] at h; done)
  rename_i fn2 args2 kw2 pos2
  cases fn2 <;> try (simp [okE] at h; done)
  rename_i y p2
  cases args2 with
  | nil => simp [okE] at h
  | cons e2 es2 =>
  cases kw2 with
  | cons _ _ => simp [okE] at h
  | nil =>
    rw [okE] at h
    simp only [Bool.and_eq_true, decide_eq_true_eq] at h
    exact ⟨x, p, y, p2, e2, es2, pos2, es, pos, rfl, ⟨h.1.1.1, h.1.1.2, h.1.2⟩, ⟨h.2.1.1.1, h.2.1.1.2, h.2.1.2⟩, h.2.2.1, h.2.2.2⟩
theorem inv_pop {N : List Str} {sc : Scope} {i : Nat} {e : Expr} (h : okE G N sc (.pop i) e = true) :
    ∃ x pn m apos cpos, e = .Call (.Attribute (.Name x pn) m apos) [] [] cpos ∧ m = ("pop" : Str) ∧ apos.endLine = cpos.line ∧ okVar N sc i x = true := by
  cases e <;> try (simp [okE] at h; done)
  rename_i fn es kw cpos
  cases fn <;> try (simp [okE] at h; done)
  rename_i o m apos
  cases o <;> try (simp [okE] at h; done)
  rename_i x pn
  match es, kw, h with
  | [], [], h =>
    rw [okE] at h
    simp only [Bool.and_eq_true, decide_eq_true_eq] at h
    exact ⟨x, pn, m, apos, cpos, rfl, h.1.1, h.1.2, h.2⟩
  | _ :: _, _, h => simp [okE] at h
  | [], _ :: _, h => simp [okE] at h
theorem inv_lc {N : List Str} {sc : Scope} {m : Ex} {tg : Tg} {it : Ti} {c : Ox} {own : List Nat} {e : Expr} (h : okE G N sc (.lc m tg it c own) e = true) :
    ∃ elt tgt iter ifs scope pos, e = .ListComp elt [⟨tgt, iter, ifs, 0⟩] scope pos ∧ nice iter = true ∧ okI G N sc it iter tgt = true ∧ blkC N sc scope (ownN N own) = true ∧ okTg N (fun x => scope.names.lookup x == some .cell) (relS scope sc) tg tgt = true ∧
      okC G N (relS scope sc) c ifs = true ∧ okE G N (relS scope sc) m elt = true ∧ okTgO own tg = true := by
  cases e <;> try (simp [okE] at h; done)
  rename_i elt gs scope pos
  match gs, h with
  | [⟨tgt, iter, ifs, a⟩], h =>
    rw [okE] at h
    simp only [Bool.and_eq_true, decide_eq_true_eq] at h
    obtain ⟨⟨⟨⟨⟨⟨⟨rfl, h1⟩, h2⟩, h3⟩, h4⟩, h5⟩, h6⟩, h7⟩ := h
    exact ⟨elt, tgt, iter, ifs, scope, pos, rfl, h1, h2, h3, h4, h5, h6, h7⟩
  | [], h => simp [okE] at h
  | _ :: _ :: _, h => simp [okE] at h
theorem takes_inn {X : Cx} {Z : Addr → Prop} : Takes X (Wz.inn Z).W := L2.takes0
set_option maxHeartbeats 4000000
mutual
theorem sE (L : Lens G) : ∀ (m : Ex) {N : List Str} {X : Cx} {W : Wz} {e : Expr} {k : Nat}, X.N = N → Cxt G X k → Takes X W.W → okE G N X.env.scope m e = true → PE X e (tE G X W m)
  | .var i, N, X, W, e, k, hN, C, tk, h => by
    cases e <;> simp [okE] at h
    exact s_var hN h
  | .int n, N, X, W, e, k, hN, C, tk, h => by
    cases e <;> try simp [okE] at h
    rename_i c _ _
    cases c <;> simp [okE] at h
    subst h; exact s_int
  | .bl n, N, X, W, e, k, hN, C, tk, h => by
    cases e <;> try simp [okE] at h
    rename_i c _ _
    cases c <;> simp [okE] at h
    subst h; exact s_bl
  | .non, N, X, W, e, k, hN, C, tk, h => by
    cases e <;> try simp [okE] at h
    rename_i c _ _
    cases c <;> simp [okE] at h
    exact s_non
  | .str n, N, X, W, e, k, hN, C, tk, h => by
    cases e <;> try simp [okE] at h
    rename_i c _ _
    cases c <;> simp [okE] at h
    subst h; exact s_str
  | .cst c, N, X, W, e, k, hN, C, tk, h => by
    cases e <;> try simp [okE] at h
    obtain ⟨⟨h1, h2⟩, h3⟩ := h
    exact s_cst C h1 h2 (by simpa using h3)
  | .bin o a b, N, X, W, e, k, hN, C, tk, h => by
    cases e <;> try simp [okE] at h
    obtain ⟨⟨rfl, h1⟩, h2⟩ := h
    exact s_bin (arg_of hN h1 (sE L a hN C tk h1)) (arg_of hN h2 (sE L b hN C tk h2))
  | .neg a, N, X, W, e, k, hN, C, tk, h => by
    cases e <;> try simp [okE] at h
    rename_i op _ _
    cases op <;> simp [okE] at h
    exact s_neg (sE L a hN C tk h)
  | .cmp o a b, N, X, W, e, k, hN, C, tk, h => by
    obtain ⟨l, r, pos, rfl, h0, h1, h2⟩ := inv_cmp h
    exact s_cmp C.room h0 (arg_of hN h1 (sE L a hN C tk h1)) (arg_of hN h2 (sE L b hN C tk h2))
  | .cmp2 o p a b c, N, X, W, e, k, hN, C, tk, h => by
    obtain ⟨l, r, q, pos, rfl, h0, h1, h2, h3⟩ := inv_cmp2 h
    exact s_cmp2 C.room h0 (arg_of hN h1 (sE L a hN C tk h1)) (arg_of hN h2 (sE L b hN C tk h2)) (arg_of hN h3 (sE L c hN C tk h3))
  | .and a b, N, X, W, e, k, hN, C, tk, h => by
    obtain ⟨l, m, r, pos, rfl, h1, h2⟩ := inv_and h
    exact s_and (sE L a hN C tk h1) (sE L b hN C tk h2)
  | .or a b, N, X, W, e, k, hN, C, tk, h => by
    obtain ⟨l, m, r, pos, rfl, h1, h2⟩ := inv_or h
    exact s_or (sE L a hN C tk h1) (sE L b hN C tk h2)
  | .one a, N, X, W, e, k, hN, C, tk, h => by
    obtain ⟨op, l, pos, rfl, h1⟩ := inv_one h
    exact s_one (sE L a hN C tk h1)
  | .not a, N, X, W, e, k, hN, C, tk, h => by
    cases e <;> try simp [okE] at h
    rename_i op _ _
    cases op <;> simp [okE] at h
    exact s_not (sE L a hN C tk h)
  | .ite c a b, N, X, W, e, k, hN, C, tk, h => by
    cases e <;> try simp [okE] at h
    obtain ⟨⟨h1, h2⟩, h3⟩ := h
    exact s_ite (sT L c hN C tk h1) (sE L a hN C tk h2) (sE L b hN C tk h3)
  | .tup as, N, X, W, e, k, hN, C, tk, h => by
    cases e <;> try simp [okE] at h
    exact s_tup (sVs L as hN C tk h)
  | .lst as, N, X, W, e, k, hN, C, tk, h => by
    cases e <;> try simp [okE] at h
    exact s_lst (sVs L as hN C tk h)
  | .sub a i, N, X, W, e, k, hN, C, tk, h => by
    cases e <;> try simp [okE] at h
    obtain ⟨⟨h0, h1⟩, h2⟩ := h
    exact s_sub (plainIx_of h0) (arg_of hN h1 (sE L a hN C tk h1)) (arg_of hN h2 (sE L i hN C tk h2))
  | .slc a lo hi, N, X, W, e, k, hN, C, tk, h => by
    obtain ⟨l, l', h', p2, pos, rfl, h1, h2, h3⟩ := inv_slc h
    exact s_slc (arg_of hN h1 (sE L a hN C tk h1)) (sO L lo hN C tk h2) (sO L hi hN C tk h3)
  | .blt f as, N, X, W, e, k, hN, C, tk, h => by
    obtain ⟨m, ms, x, p, e0, es, pos, rfl, rfl, h1, h2, h3⟩ := inv_blt h
    have hn := nices h3
    simp only [List.all_cons, Bool.and_eq_true] at hn
    exact s_blt C h1 h2 hn.1 hn.2 (sAs L (.cons m ms) hN C tk h3)
  | .isi a t, N, X, W, e, k, hN, C, tk, h => by
    obtain ⟨x, p, e0, y, p2, pos, rfl, h1, h2, h3, h4, h5, h6⟩ := inv_isi h
    exact s_isi C h1 h2 h3 h4 h5 (arg_of hN h6 (sE L a hN C tk h6))
  | .call f as, N, X, W, e, k, hN, C, tk, h => by
    obtain ⟨x, p, es, pos, rfl, h1, h2, h3, h4⟩ := inv_call h
    cases as with
    | nil =>
      cases es with
      | nil => exact s_call0 C L tk h1 h2 h3
      | cons _ _ => simp [okEs] at h4
    | cons m ms =>
      cases es with
      | nil => simp [okEs] at h4
      | cons e0 es => exact s_call C L tk h1 h2 h3 (nices h4) (sAs L (.cons m ms) hN C tk h4)
  | .ct f g as bs, N, X, W, e, k, hN, C, tk, h => by
    obtain ⟨x, p, y, p2, e2, es2, pos2, es, pos, rfl, ⟨h1, h2, h3⟩, ⟨h4, h5, h6⟩, h7, h8⟩ := inv_ct h
    exact s_ct C L tk h1 h2 h3 h4 h5 h6 (nices h7) (nices h8) (sAs L as hN C tk h7) fun q => sAs L bs (W := W.plus q) hN C tk h8
  | .pop i, N, X, W, e, k, hN, C, tk, h => by
    obtain ⟨x, pn, m, apos, cpos, rfl, h1, h2, h3⟩ := inv_pop h
    exact s_pop hN h1 h2 h3
  | .lc m tg it c own, N, X, W, e, k, hN, C, tk, h => by
    obtain ⟨elt, tgt, iter, ifs, scope, pos, rfl, h1, h2, h3, h4, h5, h6, h7⟩ := inv_lc h
    refine s_lc hN C h1 (sI L it hN C tk h1 h2) h3 h7 (fun s H Ca cl fp => ?_) (fun Z s H Ca cl fp => ?_) (fun Z s H Ca cl fp => ?_)
    · exact pg_of (X := X.blk s H scope (compEnvC scope cl Ca X.env) fp) (N := N) hN (C.blk s H scope _ fp).nd (C.blk s H scope _ fp).calm (fun x hx _ => hx) h4
    · exact sC L c (X := X.blk s H scope (compEnvC scope cl Ca X.env) fp) hN (C.blk s H scope _ fp) h5
    · exact sE L m (X := X.blk s H scope (compEnvC scope cl Ca X.env) fp) (N := N) hN (C.blk s H scope _ fp) takes_inn h6
theorem sVs (L : Lens G) : ∀ (ms : Exs) {N : List Str} {X : Cx} {W : Wz} {es : List Expr} {k : Nat}, X.N = N → Cxt G X k → Takes X W.W → okEs G N X.env.scope ms es = true → PA X es (tVs G X W ms)
  | .nil, N, X, W, es, k, hN, C, tk, h => by
    cases es with
    | nil => exact s_vnil
    | cons _ _ => simp [okEs] at h
  | .cons m ms, N, X, W, es, k, hN, C, tk, h => by
    cases es with
    | nil => simp [okEs] at h
    | cons e es =>
      simp only [okEs, Bool.and_eq_true] at h
      exact s_vcons h.1.1 (sE L m hN C tk h.1.2) (sVs L ms hN C tk h.2)
theorem sAs (L : Lens G) : ∀ (ms : Exs) {N : List Str} {X : Cx} {W : Wz} {es : List Expr} {k : Nat}, X.N = N → Cxt G X k → Takes X W.W → okEs G N X.env.scope ms es = true → PA X es (tAs G X W ms)
  | .nil, N, X, W, es, k, hN, C, tk, h => by
    cases es with
    | nil => exact s_anil
    | cons _ _ => simp [okEs] at h
  | .cons m ms, N, X, W, es, k, hN, C, tk, h => by
    cases es with
    | nil => simp [okEs] at h
    | cons e es =>
      simp only [okEs, Bool.and_eq_true] at h
      exact s_acons h.1.1 (arg_of hN h.1.2 (sE L m hN C tk h.1.2)) (sAs L ms hN C tk h.2)
theorem sO (L : Lens G) : ∀ (m : Ox) {N : List Str} {X : Cx} {W : Wz} {e : Option Expr} {k : Nat}, X.N = N → Cxt G X k → Takes X W.W → okO G N X.env.scope m e = true → PO X e (tOx G X W m)
  | .no, N, X, W, e, k, hN, C, tk, h => by
    cases e with
    | none => exact s_ono
    | some _ => simp [okO] at h
  | .so m, N, X, W, e, k, hN, C, tk, h => by
    cases e with
    | none => simp [okO] at h
    | some e => exact s_oso (sE L m hN C tk (by simpa [okO] using h))
theorem sC (L : Lens G) : ∀ (m : Ox) {N : List Str} {X : Cx} {Z : Addr → Prop} {es : List Expr} {k : Nat}, X.N = N → Cxt G X k → okC G N X.env.scope m es = true → PTs X es (tC G X (Wz.inn Z) m)
  | .no, N, X, Z, es, k, hN, C, h => by
    cases es with
    | nil => exact s_cno
    | cons _ _ => simp [okC] at h
  | .so m, N, X, Z, es, k, hN, C, h => by
    match es, h with
    | [e], h => exact s_cso (sT L m hN C takes_inn (by simpa [okC] using h))
    | [], h => simp [okC] at h
    | _ :: _ :: _, h => simp [okC] at h
theorem sT (L : Lens G) : ∀ (m : Ex) {N : List Str} {X : Cx} {W : Wz} {e : Expr} {k : Nat}, X.N = N → Cxt G X k → Takes X W.W → okE G N X.env.scope m e = true → PT X e (tT G X W m)
  | .var i, N, X, W, e, k, hN, C, tk, h => by
    cases e <;> simp [okE] at h
    exact s_varT hN h
  | .int n, N, X, W, e, k, hN, C, tk, h => by
    have q := sE L (.int n) (W := W) hN C tk h
    cases e <;> try simp [okE] at h
    exact s_truth (fun _ => rfl) q fun δ k E w => w
  | .bl n, N, X, W, e, k, hN, C, tk, h => by
    have q := sE L (.bl n) (W := W) hN C tk h
    cases e <;> try simp [okE] at h
    exact s_truth (fun _ => rfl) q fun δ k E w => w
  | .non, N, X, W, e, k, hN, C, tk, h => pt_no fun _ _ _ w => w
  | .str n, N, X, W, e, k, hN, C, tk, h => pt_no fun _ _ _ w => w
  | .cst c, N, X, W, e, k, hN, C, tk, h => pt_no fun _ _ _ w => w
  | .bin o a b, N, X, W, e, k, hN, C, tk, h => pt_no fun _ _ _ w => w
  | .neg a, N, X, W, e, k, hN, C, tk, h => pt_no fun _ _ _ w => w
  | .cmp o a b, N, X, W, e, k, hN, C, tk, h => by
    obtain ⟨l, r, pos, rfl, h0, h1, h2⟩ := inv_cmp h
    exact s_cmpT C.room h0 (arg_of hN h1 (sE L a hN C tk h1)) (arg_of hN h2 (sE L b hN C tk h2))
  | .cmp2 o p a b c, N, X, W, e, k, hN, C, tk, h => by
    obtain ⟨l, r, q, pos, rfl, h0, h1, h2, h3⟩ := inv_cmp2 h
    exact s_cmp2T C.room h0 (arg_of hN h1 (sE L a hN C tk h1)) (arg_of hN h2 (sE L b hN C tk h2)) (arg_of hN h3 (sE L c hN C tk h3))
  | .and a b, N, X, W, e, k, hN, C, tk, h => by
    obtain ⟨l, m, r, pos, rfl, h1, h2⟩ := inv_and h
    exact (s_andT (sT L a hN C tk h1) (sW L b hN C tk h2)).pt
  | .or a b, N, X, W, e, k, hN, C, tk, h => by
    obtain ⟨l, m, r, pos, rfl, h1, h2⟩ := inv_or h
    exact (s_orT (sT L a hN C tk h1) (sW L b hN C tk h2)).pt
  | .one a, N, X, W, e, k, hN, C, tk, h => by
    obtain ⟨op, l, pos, rfl, h1⟩ := inv_one h
    cases op with
    | And => exact (s_oneA (sT L a hN C tk h1)).pt
    | Or => exact (s_oneO (sT L a hN C tk h1)).pt
  | .not a, N, X, W, e, k, hN, C, tk, h => by
    cases e <;> try simp [okE] at h
    rename_i op _ _
    cases op <;> simp [okE] at h
    exact s_notT (sT L a hN C tk h)
  | .ite c a b, N, X, W, e, k, hN, C, tk, h => pt_no fun _ _ _ w => w
  | .tup as, N, X, W, e, k, hN, C, tk, h => pt_no fun _ _ _ w => w
  | .lst as, N, X, W, e, k, hN, C, tk, h => pt_no fun _ _ _ w => w
  | .sub a i, N, X, W, e, k, hN, C, tk, h => pt_no fun _ _ _ w => w
  | .slc a lo hi, N, X, W, e, k, hN, C, tk, h => pt_no fun _ _ _ w => w
  | .blt f as, N, X, W, e, k, hN, C, tk, h => by
    obtain ⟨m, ms, x, p, e0, es, pos, rfl, rfl, h1, h2, h3⟩ := inv_blt h
    have hn := nices h3
    simp only [List.all_cons, Bool.and_eq_true] at hn
    exact s_truth (fun _ => rfl) (s_blt C h1 h2 hn.1 hn.2 (sAs L (.cons m ms) hN C tk h3)) fun δ k E w => w
  | .isi a t, N, X, W, e, k, hN, C, tk, h => by
    obtain ⟨x, p, e0, y, p2, pos, rfl, h1, h2, h3, h4, h5, h6⟩ := inv_isi h
    refine PT.imp (pt_truth (s_isi (t := t) C h1 h2 h3 h4 h5 (arg_of hN h6 (sE L a hN C tk h6))) (fun _ => rfl)) fun σ H Q q => ?_
    obtain ⟨δ, F, k, Ed, R, wt, ok, oe⟩ := q
    refine ⟨δ, F, fun d fr δ1 => ∃ b, d = .bool b ∧ k b δ1, Ed, R, ?_, fun d fr δ1 ⟨b, hb, q1⟩ v H1 F1 e1 r1 rr => ?_, oe⟩
    · have wt : arg (asVar a) (fun k => wpE G W.z a δ k Ed) δ (fun x δ1 => (match dat δ1 x with | some d => isScr d = false ∧ k (isT d t) δ1 | none => False)) := wt
      show arg (asVar a) (fun k => wpE G W.z a δ k Ed) δ (fun x δ1 => (match dat δ1 x with | some d => isScr d = false ∧ ∃ b, PyData.bool (isT d t) = .bool b ∧ k b δ1 | none => False))
      have : (fun (x : Ar) (δ1 : Dl) => (match dat δ1 x with | some d => isScr d = false ∧ ∃ b, PyData.bool (isT d t) = .bool b ∧ k b δ1 | none => False)) = fun x δ1 => (match dat δ1 x with | some d => isScr d = false ∧ k (isT d t) δ1 | none => False) := by
        funext x δ1
        cases dat δ1 x with
        | none => rfl
        | some d => simp
      rw [this]
      exact wt
    · subst hb
      obtain rfl := rr_bool rr
      exact ⟨b, rfl, ok _ _ q1 H1 F1 e1 r1⟩
  | .call f as, N, X, W, e, k, hN, C, tk, h => by
    obtain ⟨x, p, es, pos, rfl, h1, h2, h3, h4⟩ := inv_call h
    cases as with
    | nil =>
      cases es with
      | nil => exact s_truth (fun _ => rfl) (s_call0 C L tk h1 h2 h3) fun δ k E w => w
      | cons _ _ => simp [okEs] at h4
    | cons m ms =>
      cases es with
      | nil => simp [okEs] at h4
      | cons e0 es => exact s_truth (fun _ => rfl) (s_call C L tk h1 h2 h3 (nices h4) (sAs L (.cons m ms) hN C tk h4)) fun δ k E w => w
  | .ct f g as bs, N, X, W, e, k, hN, C, tk, h => pt_no fun _ _ _ w => w
  | .pop i, N, X, W, e, k, hN, C, tk, h => pt_no fun _ _ _ w => w
  | .lc m tg it c own, N, X, W, e, k, hN, C, tk, h => pt_no fun _ _ _ w => w
/-- the rest of an and, an or -/
theorem sW (L : Lens G) : ∀ (m : Ex) {N : List Str} {X : Cx} {W : Wz} {op : PySem.BoolOp} {l : Expr} {r : List Expr} {pos : Pos} {k : Nat}, X.N = N → Cxt G X k → Takes X W.W → okE G N X.env.scope m (.BoolOp op (l :: r) pos) = true → PW X (.BoolOp op (l :: r) pos) (tT G X W m)
  | .and a b, N, X, W, op, l, r, pos, k, hN, C, tk, h => by
    obtain ⟨l', m, r', pos', e, h1, h2⟩ := inv_and h
    cases e
    exact s_andT (sT L a hN C tk h1) (sW L b hN C tk h2)
  | .or a b, N, X, W, op, l, r, pos, k, hN, C, tk, h => by
    obtain ⟨l', m, r', pos', e, h1, h2⟩ := inv_or h
    cases e
    exact s_orT (sT L a hN C tk h1) (sW L b hN C tk h2)
  | .one a, N, X, W, op, l, r, pos, k, hN, C, tk, h => by
    obtain ⟨op', l', pos', e, h1⟩ := inv_one h
    cases e
    cases op with
    | And => exact s_oneA (sT L a hN C tk h1)
    | Or => exact s_oneO (sT L a hN C tk h1)
  | .var _, N, X, W, op, l, r, pos, k, hN, C, tk, h => by simp [okE] at h
  | .int _, N, X, W, op, l, r, pos, k, hN, C, tk, h => by simp [okE] at h
  | .bl _, N, X, W, op, l, r, pos, k, hN, C, tk, h => by simp [okE] at h
  | .non, N, X, W, op, l, r, pos, k, hN, C, tk, h => by simp [okE] at h
  | .str _, N, X, W, op, l, r, pos, k, hN, C, tk, h => by simp [okE] at h
  | .cst _, N, X, W, op, l, r, pos, k, hN, C, tk, h => by simp [okE] at h
  | .bin _ _ _, N, X, W, op, l, r, pos, k, hN, C, tk, h => by simp [okE] at h
  | .neg _, N, X, W, op, l, r, pos, k, hN, C, tk, h => by simp [okE] at h
  | .cmp _ _ _, N, X, W, op, l, r, pos, k, hN, C, tk, h => by simp [okE] at h
  | .cmp2 _ _ _ _ _, N, X, W, op, l, r, pos, k, hN, C, tk, h => by simp [okE] at h
  | .not _, N, X, W, op, l, r, pos, k, hN, C, tk, h => by simp [okE] at h
  | .ite _ _ _, N, X, W, op, l, r, pos, k, hN, C, tk, h => by simp [okE] at h
  | .tup _, N, X, W, op, l, r, pos, k, hN, C, tk, h => by simp [okE] at h
  | .lst _, N, X, W, op, l, r, pos, k, hN, C, tk, h => by simp [okE] at h
  | .sub _ _, N, X, W, op, l, r, pos, k, hN, C, tk, h => by simp [okE] at h
  | .slc _ _ _, N, X, W, op, l, r, pos, k, hN, C, tk, h => by simp [okE] at h
  | .blt _ as, N, X, W, op, l, r, pos, k, hN, C, tk, h => by cases as <;> simp [okE] at h
  | .isi _ _, N, X, W, op, l, r, pos, k, hN, C, tk, h => by simp [okE] at h
  | .call _ _, N, X, W, op, l, r, pos, k, hN, C, tk, h => by simp [okE] at h
  | .ct _ _ _ _, N, X, W, op, l, r, pos, k, hN, C, tk, h => by simp [okE] at h
  | .pop _, N, X, W, op, l, r, pos, k, hN, C, tk, h => by simp [okE] at h
  | .lc _ _ _ _ _, N, X, W, op, l, r, pos, k, hN, C, tk, h => by simp [okE] at h
theorem sI (L : Lens G) : ∀ (m : Ti) {N : List Str} {X : Cx} {W : Wz} {e tg : Expr} {k : Nat}, X.N = N → Cxt G X k → Takes X W.W → nice e = true → okI G N X.env.scope m e tg = true → PI X tg e (tI G X W m)
  | .seq a, N, X, W, e, tg, k, hN, C, tk, hn, h => by
    have h : okE G N X.env.scope a e = true := by simpa [okI] using h
    exact s_seq (arg_of hN h (sE L a hN C tk h))
  | .rng1 a, N, X, W, e, tg, k, hN, C, tk, hn, h => by
    cases e <;> try (simp [okI] at h; done)
    rename_i fn es kw pos
    cases fn <;> try (simp [okI] at h; done)
    match es, kw, h with
    | [e0], [], h =>
      rw [okI] at h
      simp only [Bool.and_eq_true, decide_eq_true_eq] at h
      exact s_rng1 C h.1.1.1 h.1.1.2 h.1.2 (sE L a hN C tk h.2)
    | [], _, h => simp [okI] at h
    | _ :: _ :: _, _, h => simp [okI] at h
    | [_], _ :: _, h => simp [okI] at h
  | .rng2 a b, N, X, W, e, tg, k, hN, C, tk, hn, h => by
    cases e <;> try (simp [okI] at h; done)
    rename_i fn es kw pos
    cases fn <;> try (simp [okI] at h; done)
    match es, kw, h with
    | [e0, e1], [], h =>
      rw [okI] at h
      simp only [Bool.and_eq_true, decide_eq_true_eq] at h
      exact s_rng2 C h.1.1.1.1.1 h.1.1.1.1.2 h.1.1.1.2 h.1.1.2 (sE L a hN C tk h.1.2) (sE L b hN C tk h.2)
    | [], _, h => simp [okI] at h
    | [_], _, h => simp [okI] at h
    | _ :: _ :: _ :: _, _, h => simp [okI] at h
    | [_, _], _ :: _, h => simp [okI] at h
  | .zip a b, N, X, W, e, tg, k, hN, C, tk, hn, h => by
    cases e <;> try (simp [okI] at h; done)
    rename_i fn es kw pos
    cases fn <;> try (simp [okI] at h; done)
    cases tg <;> try (
      match es, kw, h with
      | [_, _], [], h => simp [okI] at h
      | [], _, h => simp [okI] at h
      | [_], _, h => simp [okI] at h
      | _ :: _ :: _ :: _, _, h => simp [okI] at h
      | [_, _], _ :: _, h => simp [okI] at h)
    match es, kw, h with
    | [e0, e1], [], h =>
      rw [okI] at h
      simp only [Bool.and_eq_true, decide_eq_true_eq] at h
      exact s_zip C h.1.1.1.1.1 h.1.1.1.1.2 h.1.1.1.2 h.1.1.2 (sE L a hN C tk h.1.2) (sE L b hN C tk h.2)
    | [], _, h => simp [okI] at h
    | [_], _, h => simp [okI] at h
    | _ :: _ :: _ :: _, _, h => simp [okI] at h
    | [_, _], _ :: _, h => simp [okI] at h
  | .rev a, N, X, W, e, tg, k, hN, C, tk, hn, h => by
    cases e <;> try (simp [okI] at h; done)
    rename_i fn es kw pos
    cases fn <;> try (simp [okI] at h; done)
    match es, kw, h with
    | [e0], [], h =>
      rw [okI] at h
      simp only [Bool.and_eq_true, decide_eq_true_eq] at h
      exact s_rev C h.1.1.1 h.1.1.2 h.1.2 (sE L a hN C tk h.2)
    | [], _, h => simp [okI] at h
    | _ :: _ :: _, _, h => simp [okI] at h
    | [_], _ :: _, h => simp [okI] at h
end
end
end Mi
set_option Elab.async false
set_option linter.all false
set_option maxRecDepth 100000
namespace Mi
open PySem L2 PyProof.Rows
/-! ### 10. statements: the text -/
/-- a value that is neither a display of a tuple nor a comprehension -/
def rhsB : Expr → Bool
  | .ListComp _ _ _ _ => false
  | .SetComp _ _ _ _ => false
  | .DictComp _ _ _ _ _ => false
  | .Tuple _ _ _ => false
  | .Starred _ _ => false
  | _ => true
def noComp : Expr → Bool
  | .ListComp _ _ _ _ => false
  | .SetComp _ _ _ _ => false
  | .DictComp _ _ _ _ _ => false
  | _ => true
/-- name = [..]: the store goes within the comprehension's frame -/
def swB (sc : Scope) (y : Str) (py : Pos) (line : Nat) (scope : Scope) : Bool := decide (sc.names.lookup y = some .local) && py.line == line && !(scope.names.any fun p => p.1 == y && (p.2 == .local || p.2 == .cell))
def okSet (sc : Scope) (x : Str) (p : Pos) : Expr → Bool
  | .ListComp e gs scope pos => true
  | .SetComp _ _ _ _ => false
  | .DictComp _ _ _ _ _ => false
  | _ => true
def aopA : BOp → Operator := aop
def okPar (sc : Scope) (x y : Str) (px py : Pos) (a b : Expr) : Bool := decide (sc.names.lookup x = some .local) && decide (sc.names.lookup y = some .local) && px.line == py.line && !(x == y) && nice a && nice b && !([a, b].all (foldedForSure 8)) && !([a, b].all (constantsAlone 8))
def isTup : Expr → Bool
  | .Tuple _ _ _ => true
  | _ => false
mutual
def okS (G : Gd) (N : List Str) (sc : Scope) : Cm → Stmt → Bool
  | .exp e, s => (match s with
    | .Expr e' _ => noComp e' && okE G N sc e e'
    | _ => false)
  | .app i e, s => (match s with
    | .Expr (.Call (.Attribute (.Name x _) m apos) [a] [] cpos) _ => decide (m = ("append" : Str)) && decide (apos.endLine = cpos.line) && okVar N sc i x && nice a && okE G N sc e a
    | _ => false)
  | .ext i e, s => (match s with
    | .Expr (.Call (.Attribute (.Name x _) m apos) [a] [] cpos) _ => decide (m = ("extend" : Str)) && decide (apos.endLine = cpos.line) && okVar N sc i x && nice a && okE G N sc e a
    | _ => false)
  | .set i e, s => (match s with
    | .Assign [.Name x p] e' _ => okTg1 N (fun _ => true) sc i (.Name x p) && okSet sc x p e' && okE G N sc e e'
    | _ => false)
  | .unp is e, s => (match s with
    | .Assign [.Tuple es _ _] e' _ => rhsB e' && okTgs N (fun _ => true) sc is es && okE G N sc e e'
    | _ => false)
  | .par i j a b, s => (match s with
    | .Assign [.Tuple [.Name x px, .Name y py] _ _] (.Tuple [a', b'] _ _) _ => decide (N[i]? = some x) && decide (N[j]? = some y) && decide (i ≠ j) && okPar sc x y px py a' b' && okE G N sc a a' && okE G N sc b b'
    | _ => false)
  | .sub i k e, s => (match s with
    | .Assign [.Subscript (.Name x _) r _] e' _ => noComp e' && nice r && okVar N sc i x && okE G N sc k r && okE G N sc e e'
    | _ => false)
  | .aug o i e, s => (match s with
    | .AugAssign (.Name x p) op e' _ => decide (op = aop o) && okTg1 N (fun _ => true) sc i (.Name x p) && okE G N sc e e'
    | _ => false)
  | .iff c a b, s => (match s with
    | .If c' a' b' _ => okE G N sc c c' && okSs G N sc a a' && okSs G N sc b b'
    | _ => false)
  | .whl c b, s => (match s with
    | .While c' b' [] _ => okE G N sc c c' && okSs G N sc b b'
    | _ => false)
  | .for tg it b, s => (match s with
    | .For tg' it' b' [] _ => nice it' && okI G N sc it it' tg' && okTg N (fun _ => true) sc tg tg' && okSs G N sc b b'
    | _ => false)
  | .ret e, s => (match s with
    | .Return (some e') _ => okE G N sc e e'
    | _ => false)
  | .retN, s => (match s with
    | .Return none _ => true
    | _ => false)
  | .pas, s => (match s with
    | .Pass _ => true
    | _ => false)
  | .brk, s => (match s with
    | .Break _ => true
    | _ => false)
  | .cnt, s => (match s with
    | .Continue _ => true
    | _ => false)
  | .rse c, s => (match s with
    | .Raise (some (.Call (.Name x _) [.Constant (.str _) _ _] [] _)) none _ => glB sc x && okNm x && decide (G.xs[c]? = some x)
    | _ => false)
def okSs (G : Gd) (N : List Str) (sc : Scope) : Cms → List Stmt → Bool
  | .nil, [] => true
  | .cons m ms, s :: ss => okS G N sc m s && okSs G N sc ms ss
  | _, _ => false
end
/-! ### what they do -/
def Wz.top (W : WX) : Wz := ⟨W, fun _ => False, false, fun _ _ h => h⟩
/-- from one statement to the next -/
structure Go (δ δ' : Dl) (σ σ' : Sv) (F F' : Hp) : Prop where
  sub : Same F F'
  lnt : ∀ j d, look δ j = some (d, .lent) → ∃ d', look δ' j = some (d', .lent) ∧ σ'[j]? = σ[j]?
theorem Go.refl {δ : Dl} {σ : Sv} {F : Hp} : Go δ δ σ σ F F := ⟨Same.refl _, fun _ d h => ⟨d, h, rfl⟩⟩
theorem Go.trans {δ δ1 δ2 : Dl} {σ σ1 σ2 : Sv} {F F1 F2 : Hp} (a : Go δ δ1 σ σ1 F F1) (b : Go δ1 δ2 σ1 σ2 F1 F2) : Go δ δ2 σ σ2 F F2 := ⟨a.sub.trans b.sub, fun j d h => by
  obtain ⟨d1, h1, e1⟩ := a.lnt j d h
  obtain ⟨d2, h2, e2⟩ := b.lnt j d1 h1
  exact ⟨d2, h2, e2.trans e1⟩⟩
theorem Ext.go {δ δ' : Dl} {σ : Sv} {F F' H H' : Hp} (e : Ext δ δ' σ F F' H H') : Go δ δ' σ σ F F' := ⟨e.sub, fun j d h => by
  obtain ⟨d', h'⟩ := e.lnt j d h
  exact ⟨d', h', rfl⟩⟩
section
variable (G : Gd) (X : Cx) (W : WX)
abbrev R0 (δ : Dl) (σ : Sv) (F H : Hp) : Prop := Rep X.K (fun _ => False) δ σ F H
structure OkD (δ : Dl) (σ : Sv) (F : Hp) (E : DE) (D : Ends) : Prop where
  nx : ∀ δ', E.nx δ' → ∀ σ' H' F', Go δ δ' σ σ' F F' → R0 X δ' σ' F' H' → D.nx σ' H'
  rt : ∀ d fr δ', E.rt d fr δ' → ∀ v σ' H' F', Go δ δ' σ σ' F F' → R0 X δ' σ' F' H' → RRep X.K (fun _ => False) δ' σ' F' H' v d fr → D.rt v H'
  bk : ∀ δ', E.bk δ' → ∀ σ' H' F', Go δ δ' σ σ' F F' → R0 X δ' σ' F' H' → D.bk σ' H'
  ct : ∀ δ', E.ct δ' → ∀ σ' H' F', Go δ δ' σ σ' F F' → R0 X δ' σ' F' H' → D.ct σ' H'
  ex : ∀ x δ', E.ex x δ' → ∀ cls dx σ' H' F', Go δ δ' σ σ' F F' → R0 X δ' σ' F' H' → XRep X.mg G.xs x cls dx H' → W cls dx σ' H'
def tS (m : Cm) : TS := fun D σ H => ∃ (δ : Dl) (F : Hp) (E : DE), R0 X δ σ F H ∧ wpS G m δ E ∧ OkD G X W δ σ F E D
def tSs (ms : Cms) : TS := fun D σ H => ∃ (δ : Dl) (F : Hp) (E : DE), R0 X δ σ F H ∧ wpSs G ms δ E ∧ OkD G X W δ σ F E D
end
theorem PS.imp {X : Cx} {st : Stmt} {t t' : TS} (h : PS X st t) (i : ∀ D σ H, t' D σ H → t D σ H) : PS X st t' := ⟨fun p s σ H D I q => h.run p s σ H D I (i D σ H q)⟩
theorem PSs.imp {X : Cx} {st : List Stmt} {t t' : TS} (h : PSs X st t) (i : ∀ D σ H, t' D σ H → t D σ H) : PSs X st t' := ⟨fun p s σ H D I q => h.run p s σ H D I (i D σ H q)⟩
section
variable {G : Gd} {X : Cx} {W : WX} {δ δ1 : Dl} {σ σ1 : Sv} {F F1 H : Hp}
theorem OkD.go {E : DE} {D : Ends} (h : OkD G X W δ σ F E D) (g : Go δ δ1 σ σ1 F F1) : OkD G X W δ1 σ1 F1 E D :=
  ⟨fun δ' q σ' H' F' g' => h.nx δ' q σ' H' F' (g.trans g'), fun d fr δ' q v σ' H' F' g' => h.rt d fr δ' q v σ' H' F' (g.trans g'), fun δ' q σ' H' F' g' => h.bk δ' q σ' H' F' (g.trans g'),
    fun δ' q σ' H' F' g' => h.ct δ' q σ' H' F' (g.trans g'), fun x δ' q cls dx σ' H' F' g' => h.ex x δ' q cls dx σ' H' F' (g.trans g')⟩
theorem OkD.oe {E : DE} {D : Ends} (h : OkD G X W δ σ F E D) : OkE G X (Wz.top W) δ σ F H E.ex := fun x δ' q cls dx H' F' e r xr => h.ex x δ' q cls dx σ H' F' e.go r xr
theorem sw_off {e : Expr} {t : Option Expr} {l : Nat} {env : Env} (h : noComp e = true) : swapsWith e t l env = pure false := by
  cases e <;> first | rfl | simp [noComp] at h
/-- setting a name -/
theorem set_go {i : Nat} {d : D} {fr : Bool} {v : V} {E : DE} {D : Ends} (R : R0 X δ σ F H) (rr : RRep X.K (fun _ => False) δ σ F H v d fr) (k : setK i (d, flOf d fr) δ E.nx) (ok : OkD G X W δ σ F E D) : D.nx (σ.set i (some v)) H := by
  obtain ⟨hl, k⟩ := k
  obtain ⟨o, ln, lt⟩ := stp_one (σ := σ) (d := d) (f := flOf d fr) (v := v) hl
  exact ok.nx _ k _ H F ⟨Same.refl _, fun j e h => ⟨e, lt j e h⟩⟩ (set_slot R rr)
theorem c_exp {e : Ex} {e' : Expr} {pos : Pos} (hn : noComp e' = true) (h : PE X e' (tE G X (Wz.top W) e)) : PS X (.Expr e' pos) (tS G X W (.exp e)) := by
  refine PS.imp (ps_expr h (sw_off hn)) fun D σ H q => ?_
  obtain ⟨δ, F, E, R, w, ok⟩ := q
  exact ⟨δ, F, _, E.ex, R, w, fun d fr δ1 q1 v H1 F1 e1 r1 rr => ok.nx _ q1 σ H1 F1 e1.go r1, ok.oe⟩
/-- a list method with one argument -/
theorem c_meth {N : List Str} {i : Nat} {x m : Str} {id : String} {r : V → List V → Hp → VK → Prop} {pn apos cpos pos : Pos} {a : Expr} {e : Ex} (hN : X.N = N) (slot : Slot "list" m id) (hty : typeOf (.builtin id) = pure (.type "method_descriptor")) (hm : MtR X id r) (hl : apos.endLine = cpos.line)
    (hv : okVar N X.env.scope i x = true) (hn : nice a = true) (h : PE X a (tE G X (Wz.top W) e)) : PS X (.Expr (.Call (.Attribute (.Name x pn) m apos) [a] [] cpos) pos) (tDrop (tBM X.K "list" r (tVar i) (tCons (tE G X (Wz.top W) e) tNil))) := by
  simp [okVar, okNm] at hv
  obtain ⟨⟨h1, h2⟩, h3, h4⟩ := hv
  refine ps_expr (pe_bm PySem.F.plainAttrs_list slot hty hm (pe_var (i := i) (by rw [hN]; exact h1) (vis_of h2) (by simpa using h3) (by simpa using h4)) (pa_cons h pa_nil (star_of hn)) rfl ?_ (by simp [hl]) (star_of hn) rfl) rfl
  rw [star_of hn]; rfl
theorem ownL_at {i : Nat} (R : R0 X δ σ F H) (h : ownL δ i) : ∃ p xs, σ[i]? = some (some (.ref p)) ∧ H p = some (.lst xs) := by
  unfold ownL at h
  split at h
  · rename_i l
    obtain ⟨a, xs, ds, _, e2, _, e4, _⟩ := R.own i _ _ l (by decide)
    exact ⟨a, xs, e2, e4⟩
  · rename_i l
    obtain ⟨a, xs, ds, _, e2, _, e4, _⟩ := R.own i _ _ l (by decide)
    exact ⟨a, xs, e2, e4⟩
  · exact h.elim
theorem MtM.r {id : String} {r : V → List V → Hp → VK → Prop} (h : MtM X id r) : MtR X id r := h
theorem c_app {N : List Str} {i : Nat} {x m : Str} {pn apos cpos pos : Pos} {a : Expr} {e : Ex} (hN : X.N = N) (hm : m = ("append" : Str)) (hl : apos.endLine = cpos.line) (hv : okVar N X.env.scope i x = true) (hn : nice a = true) (h : PE X a (tE G X (Wz.top W) e)) :
    PS X (.Expr (.Call (.Attribute (.Name x pn) m apos) [a] [] cpos) pos) (tS G X W (.app i e)) := by
  subst hm
  refine PS.imp (c_meth hN PySem.F.slot_list_append PySem.F.type_list_append (MtM.r mt_append) hl hv hn h) fun D σ H q => ?_
  obtain ⟨δ, F, E, R, w, ok⟩ := q
  obtain ⟨w0, w⟩ : ownL δ i ∧ wpE G false e δ (fun d _ δ1 => match look δ1 i with
    | some (.list ds, f) => (f ≠ .fro ∧ ds.length < 1000000) ∧ E.nx (putAt δ1 i (some (.list (ds ++ [d]), f)))
    | _ => False) E.ex := w
  obtain ⟨p, ys, hσ, hp⟩ := ownL_at R w0
  refine ⟨.ref p, hσ, .inl ⟨rfl, ys, SqL.of hp⟩, δ, F, _, E.ex, R, w, fun d fr δ1 q1 v H1 F1 e1 r1 rr => ?_, ok.oe⟩
  dsimp only at q1
  cases l : look δ1 i with
  | none => rw [l] at q1; exact q1.elim
  | some z =>
    obtain ⟨d1, f⟩ := z
    rw [l] at q1
    cases d1 <;> first | exact q1.elim | skip
    rename_i ds
    obtain ⟨⟨hf, hlen⟩, q1⟩ := q1
    obtain ⟨F2, e2, r2, rp⟩ := rr.frz r1
    obtain ⟨a', xs, ds', e0, s2, s3, s4, ra⟩ := r2.own i _ f l hf
    cases e0
    rw [hσ] at s2; cases s2
    obtain ⟨r3, e3⟩ := r2.write l hf hσ (ra.app (.cons rp .nil))
    exact ⟨p, xs, v, rfl, rfl, s4, by rw [ra.len]; exact lt1e6 hlen, ok.nx _ q1 σ _ F2 ((e1.trans e2).trans e3).go r3⟩
theorem c_ext {N : List Str} {i : Nat} {x m : Str} {pn apos cpos pos : Pos} {a : Expr} {e : Ex} (hN : X.N = N) (hm : m = ("extend" : Str)) (hl : apos.endLine = cpos.line) (hv : okVar N X.env.scope i x = true) (hn : nice a = true) (h : PE X a (tE G X (Wz.top W) e)) :
    PS X (.Expr (.Call (.Attribute (.Name x pn) m apos) [a] [] cpos) pos) (tS G X W (.ext i e)) := by
  subst hm
  refine PS.imp (c_meth hN PySem.F.slot_list_extend PySem.F.type_list_extend (MtM.r mt_extend) hl hv hn h) fun D σ H q => ?_
  obtain ⟨δ, F, E, R, w, ok⟩ := q
  obtain ⟨w0, w⟩ : ownL δ i ∧ wpE G false e δ (fun d _ δ1 => match look δ1 i, d with
    | some (.list ds, f), .list es => (f ≠ .fro ∧ ds.length + es.length ≤ 1000000) ∧ E.nx (putAt δ1 i (some (.list (ds ++ es), f)))
    | _, _ => False) E.ex := w
  obtain ⟨p, ys, hσ, hp⟩ := ownL_at R w0
  refine ⟨.ref p, hσ, .inl ⟨rfl, ys, SqL.of hp⟩, δ, F, _, E.ex, R, w, fun d fr δ1 q1 v H1 F1 e1 r1 rr => ?_, ok.oe⟩
  dsimp only at q1
  cases l : look δ1 i with
  | none => rw [l] at q1; exact q1.elim
  | some z =>
    obtain ⟨d1, f⟩ := z
    rw [l] at q1
    cases d1 <;> first | exact q1.elim | skip
    rename_i ds
    cases d <;> first | exact q1.elim | skip
    rename_i es
    obtain ⟨⟨hf, hlen⟩, q1⟩ := q1
    obtain ⟨F2, b, zs, e2, r2, rfl, hb, rz⟩ := rr_list r1 rr
    obtain ⟨a', xs, ds', e0, s2, s3, s4, ra⟩ := r2.own i _ f l hf
    cases e0
    rw [hσ] at s2; cases s2
    obtain ⟨r3, e3⟩ := r2.write l hf hσ (ra.app rz)
    exact ⟨p, b, xs, zs, rfl, rfl, s4, r2.sub _ _ hb, by rw [ra.len, rz.len]; exact line1e6 hlen, ok.nx _ q1 σ _ F2 ((e1.trans e2).trans e3).go r3⟩
theorem c_set {N : List Str} {i : Nat} {x : Str} {p pos : Pos} {e : Ex} {e' : Expr} (hN : X.N = N) (nd : X.N.Nodup) (hf : ∀ y, X.fn y = true) (ht : okTg1 N (fun _ => true) X.env.scope i (.Name x p) = true) (hn : noComp e' = true) (h : PE X e' (tE G X (Wz.top W) e)) :
    PS X (.Assign [.Name x p] e' pos) (tS G X W (.set i e)) := by
  simp [okTg1] at ht
  have hx : Loc X.env.scope x := by
    have := ht.2
    unfold tgtB at this
    split at this
    · exact .inl (by assumption)
    · exact .inr (by assumption)
    · cases this
  refine PS.imp (ps_set nd (by rw [hN]; exact ht.1) hx h (sw_off hn) (.inl (hf x))) fun D σ H q => ?_
  obtain ⟨δ, F, E, R, w, ok⟩ := q
  exact ⟨δ, F, _, E.ex, R, w, fun d fr δ1 q1 v H1 F1 e1 r1 rr => set_go r1 rr q1 (ok.go e1.go), ok.oe⟩
theorem c_setLc {N : List Str} {k : Nat} (hN : X.N = N) (C : Cxt G X k) (hk : X.env.scope.kind = .function) (hfn : ∀ y, X.fn y = true) {i : Nat} {x : Str} {p : Pos} {e : Ex} {tg : Tg} {it : Ti} {c : Ox} {own : List Nat} {elt tgt iter : Expr} {ifs : List Expr} {scope : Scope} {pos spos : Pos}
    (hx : okTg1 N (fun _ => true) X.env.scope i (.Name x p) = true)
    (hni : nice iter = true) (hi : PI X tgt iter (tI G X (Wz.top W) it)) (hb : blkC N X.env.scope scope (ownN N own) = true) (ho : okTgO own tg = true)
    (hg : ∀ (s : Shared) (H : Hp) (Ca : Addr) (cl : List (Str × Addr)) (fp : List Addr), PG (X.blk s H scope (compEnvC scope cl Ca X.env) fp) tgt (gT X.K tg))
    (ht : ∀ (Z : Addr → Prop) (s : Shared) (H : Hp) (Ca : Addr) (cl : List (Str × Addr)) (fp : List Addr), PTs (X.blk s H scope (compEnvC scope cl Ca X.env) fp) ifs (tC G (X.blk s H scope (compEnvC scope cl Ca X.env) fp) (Wz.inn Z) c))
    (he : ∀ (Z : Addr → Prop) (s : Shared) (H : Hp) (Ca : Addr) (cl : List (Str × Addr)) (fp : List Addr), PE (X.blk s H scope (compEnvC scope cl Ca X.env) fp) elt (tE G (X.blk s H scope (compEnvC scope cl Ca X.env) fp) (Wz.inn Z) e)) :
    PS X (.Assign [.Name x p] (.ListComp elt [⟨tgt, iter, ifs, 0⟩] scope pos) spos) (tS G X W (.set i (.lc e tg it c own))) := by
  have hx0 := hx
  simp [okTg1] at hx
  have hl : Loc X.env.scope x := by
    have := hx.2
    unfold tgtB at this
    split at this
    · exact .inl (by assumption)
    · exact .inr (by assumption)
    · cases this
  have fin : ∀ D σ H, tS G X W (.set i (.lc e tg it c own)) D σ H → tAsg (tE G X (Wz.top W) (.lc e tg it c own)) (gName i) D σ H := fun D σ H q => by
    obtain ⟨δ, F, E, R, w, ok⟩ := q
    have w : wpE G false (.lc e tg it c own) δ (fun d fr δ1 => setK i (d, flOf d fr) δ1 E.nx) E.ex := w
    exact ⟨δ, F, _, E.ex, R, w, fun d fr δ1 q1 v H1 F1 e1 r1 rr => set_go r1 rr q1 (ok.go e1.go), ok.oe⟩
  by_cases hs : swB X.env.scope x p pos.line scope = true
  · simp only [swB, Bool.and_eq_true, decide_eq_true_eq, Bool.not_eq_true', beq_iff_eq] at hs
    obtain ⟨⟨h1, h2⟩, h3⟩ := hs
    refine PS.imp (ps_setLc (own := ownN N own) (g := gT X.K tg) (tt := fun σ H Q => ∃ Z, tC G X (Wz.inn Z) c σ H Q) (te := fun σ H Q => ∃ Z, tE G X (Wz.inn Z) e σ H Q) C.calm C.nd (by rw [hN]; exact hx.1) h1
      (sw_true hk h1 (by simpa using h2) h3) hi (by rw [hN]; exact blkOk_by hb) hg (fun s H Ca cl fp => PTs.ex fun Z => ht Z s H Ca cl fp) (fun s H Ca cl fp => PE.ex fun Z => he Z s H Ca cl fp) (fun x => by cases iter <;> first | rfl | simp [nice] at hni)) fun D σ H q => ?_
    rw [ownN_snd]
    exact lc_imp ho σ H _ (fin D σ H q)
  · have hsw : swapsWith (.ListComp elt [⟨tgt, iter, ifs, 0⟩] scope pos) (some (.Name x p)) spos.line X.env = pure false := by
      have hs : swB X.env.scope x p pos.line scope = false := by simpa using hs
      have hb : X.env.blockKind = .function := by unfold Env.blockKind; rw [hk]; rfl
      show (pure (X.env.blockKind == .function && X.env.kindOf x == some .local && p.line == pos.line && !(scope.names.any fun (n, k) => n == x && (k == .local || k == .cell))) : Sem Bool) = pure false
      have e : (X.env.blockKind == .function && X.env.kindOf x == some .local && p.line == pos.line && !(scope.names.any fun (n, k) => n == x && (k == .local || k == .cell))) = swB X.env.scope x p pos.line scope := by
        unfold swB
        rw [hb]
        have ek : (X.env.kindOf x == some NameKind.local) = decide (X.env.scope.names.lookup x = some .local) := by
          by_cases h : X.env.scope.names.lookup x = some .local
          · rw [decide_eq_true h]
            simpa [Env.kindOf] using h
          · rw [decide_eq_false h]
            simpa [Env.kindOf] using h
        rw [ek]
        simp
      rw [e, hs]
    exact PS.imp (ps_set C.nd (by rw [hN]; exact hx.1) hl (s_lc hN C hni hi hb ho hg ht he) hsw (.inl (hfn x))) fin
end
end Mi
set_option Elab.async false
set_option linter.all false
set_option maxRecDepth 100000
namespace Mi
open PySem L2 PyProof.Rows
section
variable {G : Gd} {X : Cx} {W : WX} {δ δ1 : Dl} {σ σ1 : Sv} {F F1 H : Hp}
theorem Stp.go {is : List Nat} {δ' : Dl} {σ' : Sv} (S : Stp is δ δ' σ σ') : Go δ δ' σ σ' F F := ⟨Same.refl _, fun j d h => ⟨d, S.lnt j d h⟩⟩
theorem sw_none {es : List Expr} {k : Nat} {p : Pos} {e : Expr} {env : Env} (h : rhsB e = true) : swappedStores [.Tuple es k p] e env = pure none := by
  cases e <;> first | rfl | simp [rhsB] at h
theorem sws_off {e t : Expr} {l : Nat} {env : Env} (h : noComp e = true) : swapsWithSole [t] e l env = pure false := sw_off h
theorem rhs_nc {e : Expr} (h : rhsB e = true) : noComp e = true := by
  cases e <;> first | rfl | simp [rhsB] at h
theorem c_unp {N : List Str} {is : List Nat} {es : List Expr} {k kk : Nat} {p pos : Pos} {e : Ex} {e' : Expr} (hN : X.N = N) (C : Cxt G X kk) (hf : ∀ y, X.fn y = true) (ht : okTgs N (fun _ => true) X.env.scope is es = true) (hr : rhsB e' = true) (h : PE X e' (tE G X (Wz.top W) e)) :
    PS X (.Assign [.Tuple es k p] e' pos) (tS G X W (.unp is e)) := by
  refine PS.imp (ps_asg h (pg_of (tg := .many is) (fn := fun _ => true) hN C.nd C.calm (fun x _ _ => hf x) (by simpa [okTg] using ht)) (sws_off (rhs_nc hr)) (sw_none hr) rfl) fun D σ H q => ?_
  obtain ⟨δ, F, E, R, w, ok⟩ := q
  refine ⟨δ, F, _, E.ex, R, w, fun d fr δ1 q1 v H1 F1 e1 r1 rr => ?_, ok.oe⟩
  obtain ⟨F2, e2, r2, rp⟩ := rr.frz r1
  exact bind_ok r2 rp q1 fun δ' σ' hk R' S => ok.nx _ hk σ' H1 F2 ((e1.trans e2).go.trans S.go) R'
theorem c_par {N : List Str} {i j : Nat} {x y : Str} {px py pt pt2 pos : Pos} {kt k2 kk : Nat} {a b : Ex} {a' b' : Expr} (hN : X.N = N) (C : Cxt G X kk) (hk : X.env.scope.kind = .function) (hi : N[i]? = some x) (hj : N[j]? = some y) (hij : i ≠ j) (ho : okPar X.env.scope x y px py a' b' = true)
    (ha : PE X a' (tE G X (Wz.top W) a)) (hb : PE X b' (tE G X (Wz.top W) b)) : PS X (.Assign [.Tuple [.Name x px, .Name y py] kt pt] (.Tuple [a', b'] k2 pt2) pos) (tS G X W (.par i j a b)) := by
  simp only [okPar, Bool.and_eq_true, decide_eq_true_eq, Bool.not_eq_true', beq_iff_eq] at ho
  obtain ⟨⟨⟨⟨⟨⟨⟨h1, h2⟩, h3⟩, h4⟩, h5⟩, h6⟩, h7⟩, h8⟩ := ho
  have hw : swappedStores [.Tuple [.Name x px, .Name y py] kt pt] (.Tuple [a', b'] k2 pt2) X.env = pure (some [x, y]) := by
    have kx : X.env.kindOf x = some .local := h1
    have ky : X.env.kindOf y = some .local := h2
    have hb : X.env.blockKind = .function := by unfold Env.blockKind; rw [hk]; rfl
    have nst : ([a', b'].any fun | .Starred .. => true | _ => false) = false := by
      cases a' <;> simp [nice] at h5 <;> cases b' <;> simp [nice] at h6 <;> rfl
    have e1 : (X.env.kindOf x == some NameKind.local && px.line == px.line) = true := by rw [kx]; simp
    have e2 : (X.env.kindOf y == some NameKind.local && py.line == px.line) = true := by rw [ky, h3]; simp
    have ed : ([x, y] : List Str).eraseDups.length = 2 := by
      have h4' : (y == x) = false := by
        have : x ≠ y := by simpa using h4
        simpa using Ne.symm this
      simp [List.eraseDups_cons, h4']
    unfold swappedStores
    simp only [hb, h7, h8, List.length_cons, List.length_nil, List.filterMap_cons, List.filterMap_nil, List.head?_cons, Option.map_some, Option.getD_some, Expr.pos, e1, e2, if_true, ed]
    rw [if_neg (by decide), if_neg (by
      intro h
      simp only [List.any_cons, List.any_nil, Bool.or_false, Bool.or_eq_true] at h
      rcases h with h | h
      · split at h
        · simp [nice] at h5
        · cases h
      · split at h
        · simp [nice] at h6
        · cases h)]
    rfl
  refine PS.imp (ps_par C.calm C.nd (by rw [hN]; exact hi) (by rw [hN]; exact hj) hij h1 h2 (pa_cons ha (pa_cons hb pa_nil (star_of h6)) (star_of h5)) hw) fun D σ H q => ?_
  obtain ⟨δ, F, E, R, w, ok⟩ := q
  refine ⟨δ, F, _, E.ex, R, w, fun d fr δ1 q1 v H1 F1 e1 r1 rr => ?_, ok.oe⟩
  obtain ⟨F2, e2, r2, rp⟩ := rr.frz r1
  refine ⟨δ1, F2, _, E.ex, r2, q1, fun d' fr' δ2 q2 v' H3 F3 e3 r3 rr3 => ?_, (ok.oe).go (e1.trans e2)⟩
  obtain ⟨F4, e4, r4, rp4⟩ := rr3.frz r3
  obtain ⟨hl, q2⟩ := q2
  obtain ⟨o, ln, lt⟩ := stp_one (σ := σ) (d := d) (f := .fro) (v := v) hl
  obtain ⟨hl2, q2⟩ := q2
  obtain ⟨o2, ln2, lt2⟩ := stp_one (σ := σ.set i (some v)) (d := d') (f := .fro) (v := v') hl2
  refine ⟨v, v', rfl, ok.nx _ q2 _ H3 F4 (((e1.trans e2).trans (e3.trans e4)).go.trans ⟨Same.refl _, fun j d h => ?_⟩) (set_fro (set_fro r4 (rp.mono (e3.trans e4).sub)) rp4)⟩
  obtain ⟨g1, g2⟩ := lt j d h
  obtain ⟨g3, g4⟩ := lt2 j d g1
  exact ⟨d, g3, g4.trans g2⟩
theorem c_sub {N : List Str} {i : Nat} {x : Str} {k e : Ex} {r e' : Expr} {px ps pos : Pos} (hN : X.N = N) (hn : noComp e' = true) (hr : nice r = true) (hv : okVar N X.env.scope i x = true) (hk : PE X r (tE G X (Wz.top W) k)) (he : PE X e' (tE G X (Wz.top W) e)) :
    PS X (.Assign [.Subscript (.Name x px) r ps] e' pos) (tS G X W (.sub i k e)) := by
  simp [okVar, okNm] at hv
  obtain ⟨⟨h1, h2⟩, h3, h4⟩ := hv
  refine PS.imp (ps_asg he (pg_sub (pe_var (i := i) (by rw [hN]; exact h1) (vis_of h2) (by simpa using h3) (by simpa using h4)) hk set_list (fun v => by cases r <;> first | rfl | simp [nice] at hr)) (sws_off hn) (by cases e' <;> rfl) rfl) fun D σ H q => ?_
  obtain ⟨δ, F, E, R, w, ok⟩ := q
  obtain ⟨w0, w⟩ : ownL δ i ∧ wpE G false e δ (fun d _ δ1 => wpE G false k δ1 (fun x _ δ2 => match look δ2 i, x with
    | some (.list ds, f), .int n => f ≠ .fro ∧ onS (ixN ds.length n) fun j => E.nx (putAt δ2 i (some (.list (ds.set j d), f)))
    | _, _ => False) E.ex) E.ex := w
  obtain ⟨p, ys, hσ, _⟩ := ownL_at R w0
  refine ⟨δ, F, _, E.ex, R, w, fun d fr δ1 q1 v H1 F1 e1 r1 rr => ?_, ok.oe⟩
  obtain ⟨F2, e2, r2, rp⟩ := rr.frz r1
  refine ⟨.ref p, hσ, δ1, F2, _, E.ex, r2, q1, fun d' fr' δ2 q2 v' H3 F3 e3 r3 rr3 => ?_, (ok.oe).go (e1.trans e2)⟩
  dsimp only at q2
  cases l : look δ2 i with
  | none => rw [l] at q2; exact q2.elim
  | some z =>
    obtain ⟨d1, f⟩ := z
    rw [l] at q2
    cases d1 <;> first | exact q2.elim | skip
    rename_i ds
    cases d' <;> first | exact q2.elim | skip
    rename_i n
    obtain ⟨hf, q2⟩ := q2
    obtain ⟨j, hj, q2⟩ := ex_of q2
    obtain rfl := rr_int rr3
    obtain ⟨a', xs, ds', e0, s2, s3, s4, ra⟩ := r3.own i _ f l hf
    cases e0
    rw [hσ] at s2; cases s2
    obtain ⟨r4, e4⟩ := r3.write l hf hσ (ra.set (rp.mono e3.sub) j)
    exact ⟨p, xs, n, j, rfl, rfl, s4, by rw [ra.len]; exact hj, ok.nx _ q2 σ _ F3 ((e1.trans e2).trans (e3.trans e4)).go r4⟩
theorem aug_is {o : BOp} {i : Nat} {e : Ex} {E : DE} (w : wpS G (.aug o i e) δ E) : ∃ x, look δ i = some (.int x, .fro) ∧ wpE G false e δ (fun d _ δ1 => augK o x d fun z => setK i (.int z, .fro) δ1 E.nx) E.ex := by
  have w : (match look δ i with
    | some (.int x, .fro) => wpE G false e δ (fun d _ δ1 => augK o x d fun z => setK i (.int z, .fro) δ1 E.nx) E.ex
    | _ => False) := w
  split at w
  · exact ⟨_, by assumption, w⟩
  · exact w.elim
theorem c_aug {N : List Str} {o : BOp} {i : Nat} {x : Str} {e : Ex} {e' : Expr} {p pos : Pos} (hN : X.N = N) (nd : X.N.Nodup) (hfn : ∀ y, X.fn y = true) (ht : okTg1 N (fun _ => true) X.env.scope i (.Name x p) = true) (h : PE X e' (tE G X (Wz.top W) e)) :
    PS X (.AugAssign (.Name x p) (aop o) e' pos) (tS G X W (.aug o i e)) := by
  simp [okTg1] at ht
  have hx : Loc X.env.scope x := by
    have := ht.2
    unfold tgtB at this
    split at this
    · exact .inl (by assumption)
    · exact .inr (by assumption)
    · cases this
  have key : ∀ (g : Int → Int → Int), (∀ {x : Int} {d : _} {k : Int → Prop}, augK o x d k → ∃ y, d = .int y ∧ k (g x y)) →
      ∀ D σ H, tS G X W (.aug o i e) D σ H → tAug i (tE G X (Wz.top W) e) (ipI g) D σ H := fun g hg D σ H q => by
    obtain ⟨δ, F, E, R, w, ok⟩ := q
    obtain ⟨a, l, w⟩ := aug_is w
    obtain ⟨u, hu, ru⟩ := R.fro i _ l
    cases ru
    refine ⟨_, hu, δ, F, _, E.ex, R, w, fun d fr δ1 q1 v H1 F1 e1 r1 rr => ?_, ok.oe⟩
    obtain ⟨y, rfl, q2⟩ := hg q1
    obtain rfl := rr_int rr
    exact ⟨a, y, rfl, rfl, set_go (fr := false) r1 (.int _) q2 (ok.go e1.go)⟩
  cases o with
  | add => exact PS.imp (ps_aug nd (by rw [hN]; exact ht.1) hx h ip_add (.inl (hfn x))) (key _ fun {x d k} q => by cases d <;> first | exact ⟨_, rfl, q⟩ | exact q.elim)
  | sub => exact PS.imp (ps_aug nd (by rw [hN]; exact ht.1) hx h ip_sub (.inl (hfn x))) (key _ fun {x d k} q => by cases d <;> first | exact ⟨_, rfl, q⟩ | exact q.elim)
  | _ =>
    exact PS.imp (ps_aug (ti := fun _ _ _ _ => False) nd (by rw [hN]; exact ht.1) hx h (fun _ _ _ _ _ _ _ _ _ _ _ _ h => h.elim) (.inl (hfn x))) fun D σ H q => by
      obtain ⟨δ, F, E, R, w, ok⟩ := q
      obtain ⟨a, l, w⟩ : ∃ x, look δ i = some (.int x, .fro) ∧ wpE G false e δ (fun d _ δ1 => False) E.ex := by
        obtain ⟨a, l, w⟩ := aug_is w
        exact ⟨a, l, w⟩
      obtain ⟨u, hu, ru⟩ := R.fro i _ l
      exact ⟨_, hu, δ, F, _, E.ex, R, w, fun d fr δ1 q1 v H1 F1 e1 r1 rr => q1.elim, ok.oe⟩
end
end Mi
set_option Elab.async false
set_option linter.all false
set_option maxRecDepth 100000
namespace Mi
open PySem L2 PyProof.Rows
section
variable {G : Gd} {X : Cx} {W : WX} {δ δ1 : Dl} {σ σ1 : Sv} {F F1 H : Hp}
theorem c_iff {c : Ex} {a b : Cms} {c' : Expr} {a' b' : List Stmt} {pos : Pos} (hc : PT X c' (tT G X (Wz.top W) c)) (ha : PSs X a' (tSs G X W a)) (hb : PSs X b' (tSs G X W b)) : PS X (.If c' a' b' pos) (tS G X W (.iff c a b)) := by
  refine PS.imp (ps_if hc ha hb) fun D σ H q => ?_
  obtain ⟨δ, F, E, R, w, ok⟩ := q
  refine ⟨δ, F, _, E.ex, R, w, fun t δ1 q1 H1 F1 e1 r1 => ?_, ok.oe⟩
  cases t with
  | true => exact ⟨δ1, F1, E, r1, ifT q1, ok.go e1.go⟩
  | false => exact ⟨δ1, F1, E, r1, ifF q1, ok.go e1.go⟩
theorem c_whl {c : Ex} {b : Cms} {c' : Expr} {b' : List Stmt} {pos : Pos} (hp : PassesOwn (model X.prog X.w) X.A X.env X.xe) (hc : PT X c' (tT G X (Wz.top W) c)) (hb : PSs X b' (tSs G X W b)) : PS X (.While c' b' [] pos) (tS G X W (.whl c b)) := by
  refine PS.imp (ps_while hp hc hb) fun D σ H q => ?_
  obtain ⟨δ, F, E, R, w, ok⟩ := q
  obtain ⟨n, w⟩ : ∃ n, loopN (fun δ1 k => wpT G false c δ1 k E.ex) (fun δ1 E1 => wpSs G b δ1 E1) E n δ := w
  refine ⟨fun m σ' H' => ∃ δ' F', R0 X δ' σ' F' H' ∧ Go δ δ' σ σ' F F' ∧ loopN (fun δ1 k => wpT G false c δ1 k E.ex) (fun δ1 E1 => wpSs G b δ1 E1) E m δ', ⟨n, δ, F, R, Go.refl, w⟩, ?_⟩
  rintro m σ' H' ⟨δ', F', R', g, w⟩
  cases m with
  | zero => exact w.elim
  | succ n =>
    have w : wpT G false c δ' (fun b' δ1 => if b' = true then wpSs G b δ1 { E with nx := loopN (fun δ1 k => wpT G false c δ1 k E.ex) (fun δ1 E1 => wpSs G b δ1 E1) E n, ct := loopN (fun δ1 k => wpT G false c δ1 k E.ex) (fun δ1 E1 => wpSs G b δ1 E1) E n, bk := E.nx } else E.nx δ1) E.ex := w
    refine ⟨δ', F', _, E.ex, R', w, fun t δ1 q1 H1 F1 e1 r1 => ?_, (ok.go g).oe⟩
    cases t with
    | false => exact ok.nx _ (ifF q1) σ' H1 F1 (g.trans e1.go) r1
    | true =>
      show ∃ N : Sv → Hp → Prop, _ ∧ _
      refine ⟨fun σ2 H2 => ∃ δ2 F2, R0 X δ2 σ2 F2 H2 ∧ Go δ δ2 σ σ2 F F2 ∧ loopN (fun δ1 k => wpT G false c δ1 k E.ex) (fun δ1 E1 => wpSs G b δ1 E1) E n δ2, fun σ2 H2 h => ⟨n, Nat.lt_succ_self n, h⟩, δ1, F1, _, r1, ifT q1, ?_⟩
      have g1 := g.trans e1.go
      have o := ok.go g1
      exact ⟨fun δ2 q2 σ2 H2 F2 g2 r2 => ⟨δ2, F2, r2, g1.trans g2, q2⟩, o.rt, o.nx, fun δ2 q2 σ2 H2 F2 g2 r2 => ⟨δ2, F2, r2, g1.trans g2, q2⟩, o.ex⟩
theorem frzSrc_ok {src : Option Nat} {sa : Option Addr} {items : List _} {J : It} {k : Dl → Prop} (R : R0 X δ σ F H) (sr : SrcRel σ src sa) (sl : ∀ j, src = some j → ∃ f, look δ j = some (.list items, f) ∧ f ≠ .fro) (srv : Srv X.K J items F sa) (w : frzSrc src δ k) :
    ∃ δ' F', k δ' ∧ R0 X δ' σ F' H ∧ Go δ δ' σ σ F F' ∧ ∀ (i : Nat) (F2 H2 : Hp), Same F' F2 → Same F2 H2 → (items.length ≤ i → J.stop i H2) ∧ ∀ d, items[i]? = some d → J.go i H2 ∧ ∀ x H', J.yld i H2 x H' → (H' = H2 ∧ Rp X.K F2 x d) ∨ ∃ p xs ds, H2 p = none ∧ H' = upd H2 p (.tup xs) ∧ x = .ref p ∧ d = .tuple ds ∧ RpA X.K F2 xs ds := by
  cases hs : src with
  | none =>
    rw [hs] at w sr
    cases sa with
    | some _ => exact sr.elim
    | none => exact ⟨δ, F, w, R, Go.refl, fun i F2 H2 s1 s2 => srv i F2 H2 s1 s2 fun a h => nomatch h⟩
  | some j =>
    rw [hs] at w sr
    obtain ⟨f, l, hf⟩ := sl j hs
    obtain ⟨hl, w⟩ := w
    cases sa with
    | none => exact sr.elim
    | some a =>
      rw [l] at hl w
      cases f with
      | fro => exact absurd rfl hf
      | lent => cases hl
      | own =>
        obtain ⟨F', v, e, r, R', E'⟩ := R.frzAt l
        have sr : σ[j]? = some (some (.ref a)) := sr
        rw [sr] at e; cases e
        cases r with
        | lst h1 h2 => exact ⟨_, F', w, R', E'.go, fun i F2 H2 s1 s2 => srv i F2 H2 (E'.sub.trans s1) s2 fun a' h => by cases h; exact ⟨_, s2 _ _ (s1 _ _ h1), h2.mono s1⟩⟩
theorem c_for {tg : Tg} {it : Ti} {b : Cms} {tg' it' : Expr} {b' : List Stmt} {pos : Pos} (hp : PassesOwn (model X.prog X.w) X.A X.env X.xe) (hc : X.calm = true) (hn : nice it' = true) (hi : PI X tg' it' (tI G X (Wz.top W) it)) (hg : PG X tg' (gT X.K tg)) (hb : PSs X b' (tSs G X W b)) :
    PS X (.For tg' it' b' [] pos) (tS G X W (.for tg it b)) := by
  refine PS.imp (ps_for hp hc hi hg hb (fun x => by cases it' <;> first | rfl | simp [nice] at hn)) fun D σ H q => ?_
  obtain ⟨δ, F, E, R, w, ok⟩ := q
  have w : wpI G false it δ (fun items src δ1 => frzSrc src δ1 fun δ2 => forL (bindT tg) (fun δ3 E1 => wpSs G b δ3 E1) E items δ2) E.ex := w
  refine ⟨δ, F, _, E.ex, R, w, fun items src δ1 q1 J H1 F1 sa e1 r1 sr sl srv => ?_, ok.oe⟩
  obtain ⟨δ2, F2, q2, r2, g2, serve⟩ := frzSrc_ok r1 sr sl srv q1
  have g0 := e1.go.trans g2
  refine ⟨fun i m σ' H' => m = items.length - i ∧ i ≤ items.length ∧ ∃ δ' F', R0 X δ' σ' F' H' ∧ Go δ δ' σ σ' F F' ∧ Same F2 F' ∧ forL (bindT tg) (fun δ3 E1 => wpSs G b δ3 E1) E (items.drop i) δ', ⟨items.length, by simp, Nat.zero_le _, δ2, F2, r2, g0, Same.refl _, by simpa using q2⟩, ?_⟩
  rintro i m σ' H' ⟨rfl, hil, δ', F', R', g, s2, w⟩
  obtain ⟨stop, go⟩ := serve i F' H' s2 R'.sub
  by_cases hlt : i < items.length
  · refine .inr ?_
    have hx : items[i]? = some items[i] := List.getElem?_eq_getElem hlt
    obtain ⟨g1, yld⟩ := go _ hx
    rw [List.drop_eq_getElem_cons hlt] at w
    have w : bindT tg items[i] δ' fun δ1 => wpSs G b δ1 { E with nx := forL (bindT tg) (fun δ3 E1 => wpSs G b δ3 E1) E (items.drop (i + 1)), ct := forL (bindT tg) (fun δ3 E1 => wpSs G b δ3 E1) E (items.drop (i + 1)), bk := E.nx } := w
    refine ⟨g1, fun σ3 H3 => ∃ δ3 F3, R0 X δ3 σ3 F3 H3 ∧ Go δ δ3 σ σ3 F F3 ∧ Same F2 F3 ∧ forL (bindT tg) (fun δ3 E1 => wpSs G b δ3 E1) E (items.drop (i + 1)) δ3, fun σ3 H3 h => ⟨items.length - (i + 1), by omega, rfl, hlt, h⟩, fun x Hx y => ?_⟩
    have item : ∃ F3, Same F' F3 ∧ R0 X δ' σ' F3 Hx ∧ Rp X.K F3 x items[i] := by
      rcases yld x Hx y with ⟨rfl, r⟩ | ⟨p, xs, ds, hp, rfl, rfl, hd, r⟩
      · exact ⟨F', Same.refl _, R', r⟩
      · refine ⟨upd F' p (.tup xs), same_new (R'.sub.free hp), R'.new hp, ?_⟩
        rw [hd]
        exact .tup (SqT.of upd_same) (r.mono (same_new (R'.sub.free hp)))
    obtain ⟨F3, s3, R3, rx⟩ := item
    refine bind_ok R3 rx w fun δa σa wa Ra S => ⟨δa, F3, _, Ra, wa, ?_⟩
    have ga : Go δ δa σ σa F F3 := g.trans ⟨s3, fun j d h => ⟨d, S.lnt j d h⟩⟩
    have o := ok.go ga
    exact ⟨fun δ4 q4 σ4 H4 F4 g4 r4 => ⟨δ4, F4, r4, ga.trans g4, (s2.trans s3).trans g4.sub, q4⟩, o.rt, o.nx, fun δ4 q4 σ4 H4 F4 g4 r4 => ⟨δ4, F4, r4, ga.trans g4, (s2.trans s3).trans g4.sub, q4⟩, o.ex⟩
  · have hi : i = items.length := by omega
    refine .inl ⟨stop (by omega), ?_⟩
    rw [hi, List.drop_length] at w
    exact ok.nx _ w σ' H' F' g R'
theorem c_ret {e : Ex} {e' : Expr} {pos : Pos} {N : List Str} (hN : X.N = N) (hok : okE G N X.env.scope e e' = true) (h : PE X e' (tE G X (Wz.top W) e)) : PS X (.Return (some e') pos) (tS G X W (.ret e)) := by
  cases hm : asVar e with
  | none =>
    refine PS.imp (ps_ret h) fun D σ H q => ?_
    obtain ⟨δ, F, E, R, w, ok⟩ := q
    have w : (match asVar e with
      | some i => (match look δ i with | some (d, .own) => E.rt d true (putAt δ i none) | some (d, .fro) => E.rt d false δ | _ => False)
      | none => wpE G false e δ (fun d fr δ1 => E.rt d fr δ1) E.ex) := w
    rw [hm] at w
    exact ⟨δ, F, _, E.ex, R, w, fun d fr δ1 q1 v H1 F1 e1 r1 rr => ok.rt _ _ _ q1 v σ H1 F1 e1.go r1 rr, ok.oe⟩
  | some i =>
    have := asVar_some hm
    subst this
    cases e' <;> simp [okE, okVar, okNm] at hok
    rename_i x p
    obtain ⟨⟨h1, h2⟩, h3, h4⟩ := hok
    refine PS.imp (ps_ret (pe_var (i := i) (by rw [hN]; exact h1) (vis_of h2) (by simpa using h3) (by simpa using h4))) fun D σ H q => ?_
    obtain ⟨δ, F, E, R, w, ok⟩ := q
    have w : (match look δ i with | some (d, .own) => E.rt d true (putAt δ i none) | some (d, .fro) => E.rt d false δ | _ => False) := w
    cases l : look δ i with
    | none => rw [l] at w; exact w.elim
    | some z =>
      obtain ⟨d, f⟩ := z
      rw [l] at w
      cases f with
      | fro =>
        obtain ⟨v, e, r⟩ := R.fro i d l
        exact ⟨v, e, ok.rt _ _ _ w v σ H F Go.refl R r⟩
      | own =>
        obtain ⟨a, xs, ds, rfl, e2, e3, e4, r⟩ := R.own i d _ l (by decide)
        refine ⟨_, e2, ok.rt _ _ _ w (.ref a) σ H F ⟨Same.refl _, fun j d h5 => ⟨d, ?_, rfl⟩⟩ (R.drop i) ⟨a, xs, ds, rfl, rfl, e3, e4, r, fun ⟨j, d', f', g1, g2, g3⟩ => ?_, fun h => h⟩⟩
        · rw [look_put_ne _ _ _ _ (by rintro rfl; rw [l] at h5; cases h5)]; exact h5
        · rcases look_put g1 with ⟨_, z, _⟩ | ⟨hj, z⟩
          · cases z
          · exact hj (R.inj j i d' _ f' .own a z g2 l (by decide) g3 e2)
      | lent => exact w.elim
theorem c_rse {c k : Nat} {x m : Str} {p p2 p3 pos : Pos} {j : Nat} (C : Cxt G X k) (tk : Takes X W) (hg : glB X.env.scope x = true) (hn : okNm x = true) (hc : G.xs[c]? = some x) :
    PS X (.Raise (some (.Call (.Name x p) [.Constant (.str m) j p2] [] p3)) none pos) (tS G X W (.rse c)) := by
  obtain ⟨Ca, bm, B, newId, initId, Fb, q, gC, kC, sB, tC⟩ := C.xcs c x hc
  simp [okNm] at hn
  refine PS.imp (ps_raise C.calm tk (pmk_own Fb q gC kC (raises_own sB tC) (gl_of hg) (by simpa using hn.1))) fun D σ H q => ?_
  obtain ⟨δ, F, E, R, w, ok⟩ := q
  exact ok.ex _ _ w _ _ σ H F Go.refl R ⟨x, Ca, hc, gC, rfl, rfl, rfl⟩
theorem c_nil : PSs X [] (tSs G X W .nil) := PSs.imp pss_nil fun D σ H ⟨δ, F, E, R, w, ok⟩ => ok.nx _ w σ H F Go.refl R
theorem c_cons {m : Cm} {ms : Cms} {s : Stmt} {ss : List Stmt} (h : PS X s (tS G X W m)) (hs : PSs X ss (tSs G X W ms)) : PSs X (s :: ss) (tSs G X W (.cons m ms)) := by
  refine PSs.imp (pss_cons h hs) fun D σ H q => ?_
  obtain ⟨δ, F, E, R, w, ok⟩ := q
  exact ⟨δ, F, _, R, w, ⟨fun δ1 q1 σ1 H1 F1 g1 r1 => ⟨δ1, F1, E, r1, q1, ok.go g1⟩, ok.rt, ok.bk, ok.ct, ok.ex⟩⟩
end
/-- a body's context -/
structure Bod (G : Gd) (X : Cx) (W : WX) (N : List Str) (k : Nat) : Prop where
  hN : X.N = N
  C : Cxt G X k
  L : Lens G
  tk : Takes X W
  hp : PassesOwn (model X.prog X.w) X.A X.env X.xe
  fn : ∀ y, X.fn y = true
  kind : X.env.scope.kind = .function
set_option maxHeartbeats 4000000
mutual
theorem soS {G : Gd} {X : Cx} {W : WX} {N : List Str} {k : Nat} (B : Bod G X W N k) : ∀ (m : Cm) {s : Stmt}, okS G N X.env.scope m s = true → PS X s (tS G X W m)
  | .exp e, s, h => by
    simp only [okS] at h
    split at h <;> try (cases h; done)
    simp only [Bool.and_eq_true] at h
    exact c_exp h.1 (sE B.L e B.hN B.C B.tk h.2)
  | .app i e, s, h => by
    simp only [okS] at h
    split at h <;> try (cases h; done)
    simp only [Bool.and_eq_true, decide_eq_true_eq] at h
    exact c_app B.hN h.1.1.1.1 h.1.1.1.2 h.1.1.2 h.1.2 (sE B.L e B.hN B.C B.tk h.2)
  | .ext i e, s, h => by
    simp only [okS] at h
    split at h <;> try (cases h; done)
    simp only [Bool.and_eq_true, decide_eq_true_eq] at h
    exact c_ext B.hN h.1.1.1.1 h.1.1.1.2 h.1.1.2 h.1.2 (sE B.L e B.hN B.C B.tk h.2)
  | .set i e, s, h => by
    simp only [okS] at h
    split at h <;> try (cases h; done)
    rename_i x p e' pos
    simp only [Bool.and_eq_true] at h
    obtain ⟨⟨h1, h2⟩, h3⟩ := h
    by_cases hn : noComp e' = true
    · exact c_set B.hN B.C.nd B.fn h1 hn (sE B.L e B.hN B.C B.tk h3)
    · cases e' <;> try (simp [noComp] at hn; done)
      · rename_i elt gs scope pos'
        have hl : ∃ m tg it c own, e = .lc m tg it c own := by
          cases e with
          | lc m tg it c own => exact ⟨_, _, _, _, _, rfl⟩
          | blt f as => cases as <;> simp [okE] at h3
          | _ => simp [okE] at h3
        obtain ⟨m, tg, it, c, own, rfl⟩ := hl
        obtain ⟨elt', tgt, iter, ifs, scope', pos'', e0, g1, g2, g3, g4, g5, g6, g7⟩ := inv_lc h3
        cases e0
        refine c_setLc B.hN B.C B.kind B.fn h1 g1 (sI B.L it B.hN B.C B.tk g1 g2) g3 g7 (fun s H Ca cl fp => ?_) (fun Z s H Ca cl fp => ?_) (fun Z s H Ca cl fp => ?_)
        · exact pg_of (X := X.blk s H scope (compEnvC scope cl Ca X.env) fp) (N := N) B.hN (B.C.blk s H scope _ fp).nd (B.C.blk s H scope _ fp).calm (fun x hx _ => hx) g4
        · exact sC B.L c (X := X.blk s H scope (compEnvC scope cl Ca X.env) fp) B.hN (B.C.blk s H scope _ fp) g5
        · exact sE B.L m (X := X.blk s H scope (compEnvC scope cl Ca X.env) fp) (N := N) B.hN (B.C.blk s H scope _ fp) takes_inn g6
      · simp [okSet] at h2
      · simp [okSet] at h2
  | .unp is e, s, h => by
    simp only [okS] at h
    split at h <;> try (cases h; done)
    simp only [Bool.and_eq_true] at h
    exact c_unp B.hN B.C B.fn h.1.2 h.1.1 (sE B.L e B.hN B.C B.tk h.2)
  | .par i j a b, s, h => by
    simp only [okS] at h
    split at h <;> try (cases h; done)
    simp only [Bool.and_eq_true, decide_eq_true_eq] at h
    exact c_par B.hN B.C B.kind h.1.1.1.1.1 h.1.1.1.1.2 h.1.1.1.2 h.1.1.2 (sE B.L a B.hN B.C B.tk h.1.2) (sE B.L b B.hN B.C B.tk h.2)
  | .sub i k e, s, h => by
    simp only [okS] at h
    split at h <;> try (cases h; done)
    simp only [Bool.and_eq_true] at h
    exact c_sub B.hN h.1.1.1.1 h.1.1.1.2 h.1.1.2 (sE B.L k B.hN B.C B.tk h.1.2) (sE B.L e B.hN B.C B.tk h.2)
  | .aug o i e, s, h => by
    simp only [okS] at h
    split at h <;> try (cases h; done)
    simp only [Bool.and_eq_true, decide_eq_true_eq] at h
    obtain ⟨⟨rfl, h1⟩, h2⟩ := h
    exact c_aug B.hN B.C.nd B.fn h1 (sE B.L e B.hN B.C B.tk h2)
  | .iff c a b, s, h => by
    simp only [okS] at h
    split at h <;> try (cases h; done)
    simp only [Bool.and_eq_true] at h
    exact c_iff (sT B.L c B.hN B.C B.tk h.1.1) (soSs B a h.1.2) (soSs B b h.2)
  | .whl c b, s, h => by
    simp only [okS] at h
    split at h <;> try (cases h; done)
    simp only [Bool.and_eq_true] at h
    exact c_whl B.hp (sT B.L c B.hN B.C B.tk h.1) (soSs B b h.2)
  | .for tg it b, s, h => by
    simp only [okS] at h
    split at h <;> try (cases h; done)
    simp only [Bool.and_eq_true] at h
    exact c_for B.hp B.C.calm h.1.1.1 (sI B.L it B.hN B.C B.tk h.1.1.1 h.1.1.2) (pg_of (fn := fun _ => true) B.hN B.C.nd B.C.calm (fun x _ _ => B.fn x) h.1.2) (soSs B b h.2)
  | .ret e, s, h => by
    simp only [okS] at h
    split at h <;> try (cases h; done)
    exact c_ret B.hN h (sE B.L e B.hN B.C B.tk h)
  | .retN, s, h => by
    simp only [okS] at h
    split at h <;> try (cases h; done)
    exact PS.imp ps_retN fun D σ H ⟨δ, F, E, R, w, ok⟩ => ok.rt _ _ _ w .non σ H F Go.refl R .non
  | .pas, s, h => by
    simp only [okS] at h
    split at h <;> try (cases h; done)
    exact PS.imp ps_pass fun D σ H ⟨δ, F, E, R, w, ok⟩ => ok.nx _ w σ H F Go.refl R
  | .brk, s, h => by
    simp only [okS] at h
    split at h <;> try (cases h; done)
    exact PS.imp ps_break fun D σ H ⟨δ, F, E, R, w, ok⟩ => ok.bk _ w σ H F Go.refl R
  | .cnt, s, h => by
    simp only [okS] at h
    split at h <;> try (cases h; done)
    exact PS.imp ps_continue fun D σ H ⟨δ, F, E, R, w, ok⟩ => ok.ct _ w σ H F Go.refl R
  | .rse c, s, h => by
    simp only [okS] at h
    split at h <;> try (cases h; done)
    simp only [Bool.and_eq_true, decide_eq_true_eq] at h
    exact c_rse B.C B.tk h.1.1 h.1.2 h.2
theorem soSs {G : Gd} {X : Cx} {W : WX} {N : List Str} {k : Nat} (B : Bod G X W N k) : ∀ (ms : Cms) {ss : List Stmt}, okSs G N X.env.scope ms ss = true → PSs X ss (tSs G X W ms)
  | .nil, ss, h => by
    cases ss with
    | nil => exact c_nil
    | cons _ _ => simp [okSs] at h
  | .cons m ms, ss, h => by
    cases ss with
    | nil => simp [okSs] at h
    | cons s ss =>
      simp only [okSs, Bool.and_eq_true] at h
      exact c_cons (soS B m h.1) (soSs B ms h.2)
end
end Mi
set_option Elab.async false
set_option linter.all false
set_option maxRecDepth 100000
namespace Mi
open PySem L2 PyProof.Rows
/-! ### 11. defs -/
def entryGo : List Bool → List D → Dl
  | l :: ls, d :: ds => some (d, if l then .lent else .fro) :: entryGo ls ds
  | _, _ => []
def nones : Nat → Dl
  | 0 => []
  | n + 1 => none :: nones n
def entry (ls : List Bool) (ds : List D) (n : Nat) : Dl := entryGo ls ds ++ nones (n - ds.length)
def outsFrom (δ : Dl) : Nat → List Bool → List D
  | _, [] => []
  | n, l :: ls => (if l = true then (match look δ n with | some (d, _) => d | none => .none) else .none) :: outsFrom δ (n + 1) ls
def outsOf (δ : Dl) (ls : List Bool) : List D := outsFrom δ 0 ls
/-- what a body does with data -/
def bodyT (G : Gd) (n : Nat) (ls : List Bool) (fresh : Bool) (body : Cms) (ds : List D) (Q : D → List D → Prop) (E : Xn → List D → Prop) : Prop :=
  wpSs G body (entry ls ds n) { nx := fun δ => fresh = false ∧ Q .none (outsOf δ ls), rt := fun d fr δ => (fresh = true → fr = true) ∧ Q d (outsOf δ ls), bk := fun _ => False, ct := fun _ => False, ex := fun x δ => E x (outsOf δ ls) }
theorem look_nones : ∀ (n j : Nat), look (nones n) j = none
  | 0, _ => rfl
  | n + 1, 0 => rfl
  | n + 1, j + 1 => look_nones n j
theorem nones_len : ∀ n : Nat, (nones n).length = n
  | 0 => rfl
  | n + 1 => by simp [nones, nones_len n]
theorem look_app : ∀ (δ : Dl) (m j : Nat) {x : D × Fl}, look (δ ++ nones m) j = some x → look δ j = some x
  | [], m, j, x, h => by rw [List.nil_append, look_nones] at h; cases h
  | y :: r, m, 0, x, h => h
  | y :: r, m, j + 1, x, h => look_app r m j (x := x) h
theorem app_look : ∀ {δ : Dl} {m j : Nat} {x : D × Fl}, look δ j = some x → look (δ ++ nones m) j = some x
  | [], m, j, x, h => by cases h
  | y :: r, m, 0, x, h => h
  | y :: r, m, j + 1, x, h => app_look (δ := r) (j := j) h
section
variable {K : Frag} {F H F' H' : Hp}
theorem args_len : ∀ {ls : List Bool} {vs : List V} {ds : List D}, Args K F H ls vs ds → vs.length = ls.length ∧ ds.length = ls.length
  | [], [], [], _ => ⟨rfl, rfl⟩
  | false :: ls, v :: vs, d :: ds, ⟨_, h⟩ => by
    obtain ⟨a, b⟩ := args_len h
    simp [a, b]
  | true :: ls, v :: vs, d :: ds, ⟨_, h⟩ => by
    obtain ⟨a, b⟩ := args_len h
    simp [a, b]
  | [], _ :: _, _, h => by cases h
  | [], [], _ :: _, h => by cases h
  | false :: _, [], _, h => by cases h
  | true :: _, [], _, h => by cases h
  | false :: _, _ :: _, [], h => by cases h
  | true :: _, _ :: _, [], h => by cases h
theorem entryGo_len : ∀ {ls : List Bool} {ds : List D}, ds.length = ls.length → (entryGo ls ds).length = ls.length
  | [], ds, _ => rfl
  | l :: ls, [], h => by simp at h
  | l :: ls, d :: ds, h => by
    simp only [List.length_cons] at h
    have := entryGo_len (ls := ls) (ds := ds) (by omega)
    simp [entryGo, this]
theorem entry_fro : ∀ {ls : List Bool} {vs : List V} {ds : List D} {i : Nat} {d : D}, Args K F H ls vs ds → look (entryGo ls ds) i = some (d, .fro) → ∃ v, vs[i]? = some v ∧ Rp K F v d
  | [], vs, ds, i, d, _, h => by cases h
  | l :: ls, vs, [], i, d, a, h => by cases h
  | l :: ls, [], e :: ds, i, d, a, h => by cases l <;> cases a
  | false :: ls, v :: vs, e :: ds, 0, d, a, h => by
    have h : some (e, Fl.fro) = some (d, Fl.fro) := h
    cases h
    exact ⟨v, rfl, a.1⟩
  | true :: ls, v :: vs, e :: ds, 0, d, a, h => by
    have h : some (e, Fl.lent) = some (d, Fl.fro) := h
    cases h
  | l :: ls, v :: vs, e :: ds, i + 1, d, a, h => by
    have a : Args K F H ls vs ds := by cases l <;> exact a.2
    obtain ⟨u, h1, h2⟩ := entry_fro (i := i) a h
    exact ⟨u, by simpa using h1, h2⟩
theorem entry_own : ∀ {ls : List Bool} {vs : List V} {ds : List D} {i : Nat} {d : D} {f : Fl}, Args K F H ls vs ds → look (entryGo ls ds) i = some (d, f) → f ≠ .fro →
    f = .lent ∧ ∃ a xs es, vs[i]? = some (.ref a) ∧ d = .list es ∧ F a = none ∧ H a = some (.lst xs) ∧ RpA K F xs es ∧ V.ref a ∈ lentVs ls vs ∧ ls[i]? = some true
  | [], vs, ds, i, d, f, _, h, _ => by cases h
  | l :: ls, vs, [], i, d, f, a, h, _ => by cases h
  | l :: ls, [], e :: ds, i, d, f, a, h, _ => by cases l <;> cases a
  | false :: ls, v :: vs, e :: ds, 0, d, f, a, h, hf => by
    have h : some (e, Fl.fro) = some (d, f) := h
    cases h
    exact absurd rfl hf
  | true :: ls, v :: vs, e :: ds, 0, d, f, a, h, hf => by
    have h : some (e, Fl.lent) = some (d, f) := h
    cases h
    obtain ⟨⟨a, xs, es, rfl, rfl, h1, h2, h3⟩, _⟩ := a
    exact ⟨rfl, a, xs, es, rfl, rfl, h1, h2, h3, by show _ ∈ _ :: _; simp, rfl⟩
  | false :: ls, v :: vs, e :: ds, i + 1, d, f, a, h, hf => by
    obtain ⟨h0, u, xs, es, h1, h2, h3, h4, h5, h6, h7⟩ := entry_own (i := i) a.2 h hf
    exact ⟨h0, u, xs, es, by simpa using h1, h2, h3, h4, h5, h6, by simpa using h7⟩
  | true :: ls, v :: vs, e :: ds, i + 1, d, f, a, h, hf => by
    obtain ⟨h0, u, xs, es, h1, h2, h3, h4, h5, h6, h7⟩ := entry_own (i := i) a.2 h hf
    exact ⟨h0, u, xs, es, by simpa using h1, h2, h3, h4, h5, by show _ ∈ _ :: _; simp [h6], by simpa using h7⟩
theorem lent_mem : ∀ {ls : List Bool} {vs : List V} {i : Nat} {v : V}, ls[i]? = some true → vs[i]? = some v → v ∈ lentVs ls vs
  | [], vs, i, v, h, _ => by simp at h
  | l :: ls, [], i, v, _, h => by simp at h
  | true :: ls, u :: vs, 0, v, _, h => by
    simp at h; subst h; show _ ∈ _ :: _; simp
  | false :: ls, u :: vs, 0, v, h, _ => by simp at h
  | true :: ls, u :: vs, i + 1, v, h1, h2 => by
    show _ ∈ _ :: _
    exact List.mem_cons_of_mem _ (lent_mem (i := i) (by simpa using h1) (by simpa using h2))
  | false :: ls, u :: vs, i + 1, v, h1, h2 => lent_mem (ls := ls) (vs := vs) (i := i) (by simpa using h1) (by simpa using h2)
theorem mem_lent : ∀ {ls : List Bool} {vs : List V} {v : V}, v ∈ lentVs ls vs → ∃ i : Nat, ls[i]? = some true ∧ vs[i]? = some v
  | [], vs, v, h => by simp [lentVs] at h
  | true :: ls, [], v, h => by simp [lentVs] at h
  | false :: ls, [], v, h => by simp [lentVs] at h
  | true :: ls, u :: vs, v, h => by
    have h : v ∈ u :: lentVs ls vs := h
    rcases List.mem_cons.mp h with rfl | h
    · exact ⟨0, rfl, rfl⟩
    · obtain ⟨i, h1, h2⟩ := mem_lent h
      exact ⟨i + 1, by simpa using h1, by simpa using h2⟩
  | false :: ls, u :: vs, v, h => by
    obtain ⟨i, h1, h2⟩ := mem_lent (show v ∈ lentVs ls vs from h)
    exact ⟨i + 1, by simpa using h1, by simpa using h2⟩
theorem lent_inj : ∀ {ls : List Bool} {vs : List V} {i j : Nat} {v : V}, (lentVs ls vs).Nodup → ls[i]? = some true → ls[j]? = some true → vs[i]? = some v → vs[j]? = some v → i = j
  | [], vs, i, j, v, _, h, _, _, _ => by simp at h
  | l :: ls, [], i, j, v, _, _, _, h, _ => by simp at h
  | l :: ls, u :: vs, 0, 0, v, _, _, _, _, _ => rfl
  | true :: ls, u :: vs, 0, j + 1, v, nd, h1, h2, h3, h4 => by
    have nd : (u :: lentVs ls vs).Nodup := nd
    simp at h3; subst h3
    exact absurd (lent_mem (i := j) (by simpa using h2) (by simpa using h4)) (List.nodup_cons.mp nd).1
  | true :: ls, u :: vs, i + 1, 0, v, nd, h1, h2, h3, h4 => by
    have nd : (u :: lentVs ls vs).Nodup := nd
    simp at h4; subst h4
    exact absurd (lent_mem (i := i) (by simpa using h1) (by simpa using h3)) (List.nodup_cons.mp nd).1
  | true :: ls, u :: vs, i + 1, j + 1, v, nd, h1, h2, h3, h4 => by
    have nd : (u :: lentVs ls vs).Nodup := nd
    rw [lent_inj (i := i) (j := j) (List.nodup_cons.mp nd).2 (by simpa using h1) (by simpa using h2) (by simpa using h3) (by simpa using h4)]
  | false :: ls, u :: vs, 0, j + 1, v, nd, h1, h2, h3, h4 => by simp at h1
  | false :: ls, u :: vs, i + 1, 0, v, nd, h1, h2, h3, h4 => by simp at h2
  | false :: ls, u :: vs, i + 1, j + 1, v, nd, h1, h2, h3, h4 => by
    rw [lent_inj (i := i) (j := j) (show (lentVs ls vs).Nodup from nd) (by simpa using h1) (by simpa using h2) (by simpa using h3) (by simpa using h4)]
theorem start_get {N : List Str} {vs : List V} {i : Nat} {v : V} (h : vs[i]? = some v) : (L2.start N vs)[i]? = some (some v) := by
  have hi : i < vs.length := (List.getElem?_eq_some_iff.mp h).1
  unfold L2.start
  rw [List.getElem?_append_left (by simpa using hi), List.getElem?_map, h]; rfl
theorem get_start {N : List Str} {vs : List V} {i : Nat} {v : V} (hi : i < vs.length) (h : (L2.start N vs)[i]? = some (some v)) : vs[i]? = some v := by
  unfold L2.start at h
  rw [List.getElem?_append_left (by simpa using hi), List.getElem?_map] at h
  cases e : vs[i]? with
  | none => rw [e] at h; cases h
  | some u => rw [e] at h; cases h; rfl
theorem entry_rep {ls : List Bool} {vs : List V} {ds : List D} {N : List Str} (hn : vs.length ≤ N.length) (s : Same F H) (a : Args K F H ls vs ds) (nd : (lentVs ls vs).Nodup) : Rep K (fun _ => False) (entry ls ds N.length) (L2.start N vs) F H := by
  obtain ⟨h1, h2⟩ := args_len a
  have lk : ∀ i x, look (entry ls ds N.length) i = some x → look (entryGo ls ds) i = some x := fun i x h => look_app _ _ _ h
  refine ⟨?_, s, fun i d h => ?_, fun i d f h hf => ?_, fun i j d e f g p q1 hf q2 hg s1 s2 => ?_, fun b z => z.elim⟩
  · unfold L2.start entry
    rw [List.length_append, List.length_append, List.length_map, List.length_replicate, entryGo_len h2, nones_len, h1, h2]
  · obtain ⟨v, e, r⟩ := entry_fro a (lk _ _ h)
    exact ⟨v, start_get e, r⟩
  · obtain ⟨_, p, xs, es, e1, e2, e3, e4, e5, _⟩ := entry_own a (lk _ _ h) hf
    exact ⟨p, xs, es, e2, start_get e1, e3, e4, e5⟩
  · obtain ⟨_, p1, _, _, e1, _, _, _, _, _, l1⟩ := entry_own a (lk _ _ q1) hf
    obtain ⟨_, p2, _, _, e2, _, _, _, _, _, l2⟩ := entry_own a (lk _ _ q2) hg
    rw [start_get e1] at s1; cases s1
    rw [start_get e2] at s2; cases s2
    exact lent_inj nd l1 l2 e1 e2
/-- a lent argument's slot -/
theorem entry_lent : ∀ {ls : List Bool} {vs : List V} {ds : List D} {i : Nat}, Args K F H ls vs ds → ls[i]? = some true → ∃ d, look (entryGo ls ds) i = some (d, .lent)
  | [], vs, ds, i, _, h => by simp at h
  | l :: ls, [], ds, i, a, h => by cases l <;> cases ds <;> cases a
  | l :: ls, v :: vs, [], i, a, h => by cases l <;> cases a
  | true :: ls, v :: vs, d :: ds, 0, a, h => ⟨d, rfl⟩
  | false :: ls, v :: vs, d :: ds, 0, a, h => by simp at h
  | l :: ls, v :: vs, d :: ds, i + 1, a, h => by
    have a : Args K F H ls vs ds := by cases l <;> exact a.2
    exact entry_lent (i := i) a (by simpa using h)
theorem outs_of {δ : Dl} : ∀ {ls : List Bool} {vs : List V} {n : Nat}, vs.length = ls.length →
    (∀ i, ls[i]? = some true → ∃ a xs es f, vs[i]? = some (.ref a) ∧ look δ (n + i) = some (.list es, f) ∧ F' a = none ∧ H' a = some (.lst xs) ∧ RpA K F' xs es) → Outs K F' H' ls vs (outsFrom δ n ls)
  | [], [], n, _, _ => trivial
  | [], _ :: _, n, h, _ => by simp at h
  | _ :: _, [], n, h, _ => by simp at h
  | true :: ls, v :: vs, n, hl, h => by
    obtain ⟨a, xs, es, f, e1, e2, e3, e4, e5⟩ := h 0 rfl
    simp at e1; subst e1
    have e2 : look δ n = some (.list es, f) := by simpa using e2
    refine ⟨⟨a, xs, es, rfl, by rw [e2]; rfl, e3, e4, e5⟩, outs_of (by simpa using hl) fun i hi => ?_⟩
    obtain ⟨a, xs, es, f, e1, e2, e3⟩ := h (i + 1) (by simpa using hi)
    exact ⟨a, xs, es, f, by simpa using e1, by rw [show n + 1 + i = n + (i + 1) by omega]; exact e2, e3⟩
  | false :: ls, v :: vs, n, hl, h => outs_of (vs := vs) (by simpa using hl) fun i hi => by
    obtain ⟨a, xs, es, f, e1, e2, e3⟩ := h (i + 1) (by simpa using hi)
    exact ⟨a, xs, es, f, by simpa using e1, by rw [show n + 1 + i = n + (i + 1) by omega]; exact e2, e3⟩
end
/-- the facts of a program, for whatever body -/
structure Fx (G : Gd) (P : Program) (w : World) (K : Frag) (mg : Str → Option Value) (base : Heap) (k : Nat) : Prop where
  fns : ∀ (i : Nat) (fi : FI), G.fs[i]? = some fi → ∃ f fd, FnOk P w K mg base (L2.CX P w) k f fd fi.ps (spD K mg G.xs fi) ∧ mg fi.name = some (.ref f) ∧ PySem.W.keepIn K (.ref f) = true ∧ Binds K fd fi.ps []
  blt : ∀ n ∈ bltNames, mg n = none
  cst : ∀ (i : Nat) (n : Str) (d : D), G.cs[i]? = some (n, d) → ∃ v u, mg n = some u ∧ RelV v u ∧ ∀ H, Rp K H v d
  xcs : ∀ (i : Nat) (n : Str), G.xs[i]? = some n → ∃ (C : Addr) (bm : List Value) (B newId initId : String), ExcBaseFacts B newId initId bm ∧ PySem.W.excIn K C bm newId = true ∧ mg n = some (.ref C) ∧ PySem.W.keepIn K (.ref C) = true ∧
    PySem.W.subIn K (.ref C) (.type "BaseException") = some true ∧ PySem.W.typeIn K (.ref C) = some (.type "type")
theorem def_ok {P : Program} {w : World} {K : Frag} {mg : Str → Option Value} {base : Heap} {G : Gd} {fi : FI} {x qual : Str} {st : Stmt} {f : Addr} {fd : FuncData} {N : List Str} {body : Cms} {k : Nat}
    (F : Fun K x qual st f fd) (S : FnScope N fi.ps (defScope st)) (X : Fx G P w K mg base k) (L : Lens G) (hl : fi.lent.length = fi.ps.length) (hok : okSs G N (defScope st) body (defBody st) = true)
    (T : ∀ ds Q E, fi.T ds Q E → bodyT G N.length fi.lent fi.fresh body ds Q E) : FnOk P w K mg base (L2.CX P w) (k + 1) f fd fi.ps (spD K mg G.xs fi) := by
  have hps : fi.ps.length ≤ N.length := by
    have := congrArg List.length S.pre
    rw [List.length_take] at this
    omega
  refine F.okX S (fun vs H Q E h => ?_) (fun cdv A outer s H vs Q E hr h => ?_)
  · obtain ⟨_, _, _, _, h, _⟩ := h
    exact h
  · obtain ⟨ds, Qd, Ed, F0, hv, sF, cov, a, nd, t, hQ, hE⟩ := h
    have B : Bod G (cxOf (L2.CX P w) P w K mg base N qual (defScope st) f cdv A outer s H E) (fun cls d _ H => E cls d H) N k :=
      ⟨rfl, ⟨X.fns, X.blt, X.cst, X.xcs, hr, rfl, S.nd⟩, L, takes_of rfl rfl rfl rfl, passes_of rfl, fun _ => rfl, S.kind⟩
    refine ⟨_, soSs B body hok, entry fi.lent ds N.length, F0, _, entry_rep (by rw [hv]; exact hps) sF a nd, T ds Qd Ed t, ?_⟩
    obtain ⟨l1, l2⟩ := args_len a
    -- the lent lists at the end
    have outs : ∀ δ' σ' F' H', Go (entry fi.lent ds N.length) δ' (L2.start N vs) σ' F0 F' → Rep K (fun _ => False) δ' σ' F' H' → Outs K F' H' fi.lent vs (outsOf δ' fi.lent) := fun δ' σ' F' H' g r => by
      refine outs_of l1 fun i hi => ?_
      obtain ⟨d, hd⟩ := entry_lent a hi
      obtain ⟨d', h1, h2⟩ := g.lnt i d (app_look hd)
      obtain ⟨p, xs, es, rfl, e2, e3, e4, e5⟩ := r.own i d' _ h1 (by decide)
      rw [e2] at h2
      have hi' : i < vs.length := by
        have := (List.getElem?_eq_some_iff.mp hi).1
        omega
      exact ⟨p, xs, es, _, get_start hi' h2.symm, by simpa using h1, e3, e4, e5⟩
    have lentOwn : ∀ δ' σ' F' H', Go (entry fi.lent ds N.length) δ' (L2.start N vs) σ' F0 F' → Rep K (fun _ => False) δ' σ' F' H' → ∀ p, V.ref p ∈ lentVs fi.lent vs → Owned δ' σ' p := fun δ' σ' F' H' g r p hp => by
      obtain ⟨i, hi, e⟩ := mem_lent hp
      obtain ⟨d, hd⟩ := entry_lent a hi
      obtain ⟨d', h1, h2⟩ := g.lnt i d (app_look hd)
      exact ⟨i, d', _, h1, by decide, by rw [h2]; exact start_get e⟩
    have ret : ∀ (d : _) (fr : Bool) δ' v σ' H' F', (fi.fresh = true → fr = true) → Qd d (outsOf δ' fi.lent) → Go (entry fi.lent ds N.length) δ' (L2.start N vs) σ' F0 F' → Rep K (fun _ => False) δ' σ' F' H' → RRep K (fun _ => False) δ' σ' F' H' v d fr → Q v H' := fun d fr δ' v σ' H' F' hfr q g r rr => by
      cases hf : fi.fresh with
      | true =>
        rw [hfr hf] at rr
        obtain ⟨p, xs, es, rfl, rfl, e1, e2, e3, e4, _⟩ := rr
        refine hQ _ _ q _ H' F' g.sub r.sub (outs δ' σ' F' H' g r) ?_
        rw [hf]
        refine ⟨p, xs, es, rfl, rfl, ?_, e1, e2, e3⟩
        by_cases hp : H p = none
        · exact hp
        · refine absurd (lentOwn δ' σ' F' H' g r p (cov p ?_ hp)) e4
          exact g.sub.free e1
      | false =>
        obtain ⟨F2, e2, r2, rp⟩ := rr.frz r
        refine hQ _ _ q _ H' F2 (g.sub.trans e2.sub) r2.sub (outs δ' σ' F2 H' (g.trans e2.go) r2) ?_
        rw [hf]
        exact rp
    exact ⟨fun δ' q σ' H' F' g r => ret .none false δ' .non σ' H' F' (fun h => by rw [q.1] at h; cases h) q.2 g r .non,
      fun d fr δ' q v σ' H' F' g r rr => ret d fr δ' v σ' H' F' q.1 q.2 g r rr, fun δ' q => q.elim, fun δ' q => q.elim,
      fun x δ' q cls dx σ' H' F' g r xr => hE _ _ q cls dx H' F' g.sub r.sub (outs δ' σ' F' H' g r) xr⟩
end Mi
set_option Elab.async false
set_option linter.all false
set_option maxRecDepth 100000
namespace Mi
open PySem L2 PyProof.Rows
/-! ### 12. a whole program -/
structure Row where
  fi : FI
  N : List Str
  body : Cms
  st : Stmt
def scopeB (N ps : List Str) (sc : Scope) : Bool :=
  (match sc.kind with | .function => true | _ => false) && !sc.isCoroutine && !sc.isGenerator && decide N.Nodup && decide (N.take ps.length = ps) &&
    ps.all (fun x => match sc.names.lookup x with | some .local => true | some .cell => true | _ => false) && sc.names.all (fun y => match y.2 with | .free => false | _ => true)
theorem scope_of {N ps : List Str} {sc : Scope} (h : scopeB N ps sc = true) : FnScope N ps sc := by
  simp only [scopeB, Bool.and_eq_true, List.all_eq_true, decide_eq_true_eq, Bool.not_eq_true'] at h
  obtain ⟨⟨⟨⟨⟨⟨h1, h2⟩, h3⟩, h4⟩, h5⟩, h6⟩, h7⟩ := h
  refine ⟨?_, h2, h3, h4, h5, fun x hx => ?_, fun y hy e => ?_⟩
  · split at h1
    · assumption
    · cases h1
  · have := h6 x hx
    split at this
    · exact .inl (by assumption)
    · exact .inr (by assumption)
    · cases this
  · have := h7 y hy
    rw [e] at this
    cases this
/-- a def's text is what its body says -/
def chkRow (G : Gd) (r : Row) : Bool := scopeB r.N r.fi.ps (defScope r.st) && decide (r.fi.lent.length = r.fi.ps.length) && okSs G r.N (defScope r.st) r.body (defBody r.st)
def RowOk (G : Gd) (r : Row) : Prop := chkRow G r = true ∧ ∀ ds Q E, r.fi.T ds Q E → bodyT G r.N.length r.fi.lent r.fi.fresh r.body ds Q E
def ChkAll (cs : List (Str × D)) (xs : List Str) : List FI → List Row → Prop
  | _, [] => True
  | done, r :: rs => RowOk ⟨done, cs, xs⟩ r ∧ ChkAll cs xs (done ++ [r.fi]) rs
def FunAt (K : Frag) (mg : Str → Option Value) (r : Row) : Prop := ∃ f fd, Fun K r.fi.name r.fi.name r.st f fd ∧ mg r.fi.name = some (.ref f) ∧ PySem.W.keepIn K (.ref f) = true ∧ Binds K fd r.fi.ps []
def FunAll (K : Frag) (mg : Str → Option Value) : List Row → Prop
  | [] => True
  | r :: rs => FunAt K mg r ∧ FunAll K mg rs
def CstAt (K : Frag) (mg : Str → Option Value) (c : Str × D) : Prop := ∃ v u, mg c.1 = some u ∧ RelV v u ∧ ∀ H, Rp K H v c.2
def CstAll (K : Frag) (mg : Str → Option Value) : List (Str × D) → Prop
  | [] => True
  | c :: cs => CstAt K mg c ∧ CstAll K mg cs
def XcsAt (K : Frag) (mg : Str → Option Value) (n : Str) : Prop := ∃ (C : Addr) (bm : List Value) (B newId initId : String), ExcBaseFacts B newId initId bm ∧ PySem.W.excIn K C bm newId = true ∧ mg n = some (.ref C) ∧ PySem.W.keepIn K (.ref C) = true ∧
    PySem.W.subIn K (.ref C) (.type "BaseException") = some true ∧ PySem.W.typeIn K (.ref C) = some (.type "type")
def XcsAll (K : Frag) (mg : Str → Option Value) : List Str → Prop
  | [] => True
  | c :: cs => XcsAt K mg c ∧ XcsAll K mg cs
theorem cst_at {K : Frag} {mg : Str → Option Value} : ∀ {cs : List (Str × D)} {i : Nat} {c : Str × D}, CstAll K mg cs → cs[i]? = some c → CstAt K mg c
  | [], i, c, _, h => by simp at h
  | d :: cs, 0, c, a, h => by simp at h; subst h; exact a.1
  | d :: cs, i + 1, c, a, h => cst_at (i := i) a.2 (by simpa using h)
theorem xcs_at {K : Frag} {mg : Str → Option Value} : ∀ {cs : List Str} {i : Nat} {c : Str}, XcsAll K mg cs → cs[i]? = some c → XcsAt K mg c
  | [], i, c, _, h => by simp at h
  | d :: cs, 0, c, a, h => by simp at h; subst h; exact a.1
  | d :: cs, i + 1, c, a, h => xcs_at (i := i) a.2 (by simpa using h)
section
variable {P : Program} {w : World} {K : Frag} {mg : Str → Option Value} {base : Heap} {cs : List (Str × D)} {xs : List Str}
theorem all_from : ∀ {rows : List Row} {done : List FI}, Fx ⟨done, cs, xs⟩ P w K mg base done.length → (∀ fi ∈ done, fi.lent.length = fi.ps.length) → ChkAll cs xs done rows → FunAll K mg rows →
    Fx ⟨done ++ rows.map (·.fi), cs, xs⟩ P w K mg base (done.length + rows.length)
  | [], done, X, _, _, _ => by simpa using X
  | r :: rs, done, X, hl, ck, fn => by
    obtain ⟨⟨c, T⟩, ck⟩ := ck
    obtain ⟨⟨f, fd, F, hm, hk, hb⟩, fn⟩ := fn
    simp only [chkRow, Bool.and_eq_true, decide_eq_true_eq] at c
    obtain ⟨⟨c1, c2⟩, c3⟩ := c
    have ok : FnOk P w K mg base (L2.CX P w) (done.length + 1) f fd r.fi.ps (spD K mg xs r.fi) :=
      def_ok (G := ⟨done, cs, xs⟩) F (scope_of c1) X ⟨fun i fi h => hl fi (List.mem_of_getElem? h)⟩ c2 c3 T
    have X2 : Fx ⟨done ++ [r.fi], cs, xs⟩ P w K mg base (done ++ [r.fi]).length := by
      refine ⟨fun i fi h => ?_, X.blt, X.cst, X.xcs⟩
      rw [List.length_append, List.length_singleton]
      by_cases hi : i < done.length
      · have h : done[i]? = some fi := by
          have h : (done ++ [r.fi])[i]? = some fi := h
          rwa [List.getElem?_append_left hi] at h
        obtain ⟨f', fd', a, b⟩ := X.fns i fi h
        exact ⟨f', fd', a.mono (Nat.le_succ _), b⟩
      · have h : (done ++ [r.fi])[i]? = some fi := h
        rw [List.getElem?_append_right (by omega)] at h
        have : i - done.length = 0 := by
          have := (List.getElem?_eq_some_iff.mp h).1
          simp at this
          omega
        rw [this] at h
        simp at h
        subst h
        exact ⟨f, fd, ok, hm, hk, hb⟩
    have := all_from (rows := rs) (done := done ++ [r.fi]) X2 (fun fi h => by
      rcases List.mem_append.mp h with h | h
      · exact hl fi h
      · have : fi = r.fi := by simpa using h
        subst this; exact c2) ck fn
    simp only [List.length_append, List.length_singleton, List.append_assoc, List.singleton_append] at this
    simp only [List.length_cons, List.map_cons]
    rw [show done.length + (rs.length + 1) = done.length + 1 + rs.length by omega]
    exact this
/-- all defs of a program keep their promises -/
theorem all_ok {rows : List Row} (blt : ∀ n ∈ bltNames, mg n = none) (hc : CstAll K mg cs) (hx : XcsAll K mg xs) (ck : ChkAll cs xs [] rows) (fn : FunAll K mg rows) : Fx ⟨rows.map (·.fi), cs, xs⟩ P w K mg base rows.length := by
  have := all_from (P := P) (w := w) (K := K) (mg := mg) (base := base) (cs := cs) (xs := xs) (rows := rows) (done := []) ⟨fun i fi h => by simp at h, blt, fun i n d h => cst_at hc h, fun i n h => xcs_at hx h⟩ (by simp) ck fn
  simpa using this
/-- the law: a list of at most 63 ints is handed in, True comes out -/
def spLaw (K : Frag) : Sp := fun vs H Q _ => ∃ (a : Addr) (ns : List Int), vs = [.ref a] ∧ SqL K H a (ns.map V.int) ∧ ns.length ≤ 63 ∧ ∀ H', Q (.bl true) H'
def lawT : List D → (D → List D → Prop) → (Xn → List D → Prop) → Prop := fun ds Q _ => ∃ ns : List Int, ns.length ≤ 63 ∧ ds = [scrD ns] ∧ ∀ os, Q (.bool true) os
def lawFi : FI := { name := "law", ps := ["script"], lent := [false], fresh := false, T := lawT }
theorem law_of {f : Addr} {fd : FuncData} {k : Nat} (F : FnOk P w K mg base (L2.CX P w) k f fd ["script"] (spD K mg xs lawFi)) : FnOk P w K mg base (L2.CX P w) k f fd ["script"] (spLaw K) := by
  refine F.imp fun vs H Q E h => ?_
  obtain ⟨a, ns, rfl, hs, hl, q⟩ := h
  refine ⟨[scrD ns], fun r _ => r = .bool true, fun _ _ => False, H, rfl, Same.refl _, fun b h1 h2 => absurd h1 h2, ⟨.scr hs, trivial⟩, List.nodup_nil, ⟨ns, hl, rfl, fun _ => rfl⟩, fun r os hr v H' F' _ _ _ rs => ?_, fun x os h => h.elim⟩
  subst hr
  have rs : Rp K F' v (.bool true) := rs
  cases rs
  exact q H'
end
theorem cx_no {P : Program} {w : World} {H : Hp} {s : Shared} {e : Value} {s' : Shared} (h : L2.CX P w [] H s (fun _ _ _ => False) e s') : False := by
  obtain ⟨_, _, _, _, _, _, _, _, _, _, _, _, q⟩ := h
  exact q
/-- a def's row out of what the top has left -/
theorem fun_at {K : Frag} {h : Heap} {mg : Str → Option Value} {r : Row} {f : Addr} {oc : Value} {od an : Option Addr} {osl : Array (Option Value)} {kV doc pm cdv ct : Value} (X : K.In h) (Gn : h.Ns mainGlobals mg)
    (a : PySem.W.nsIn K mainGlobals r.fi.name = some (some (.ref f)))
    (l : K.lookup f = some ⟨oc, od, .func (PySem.W.fnOf r.fi.name r.fi.name (defArgs r.st) (defBody r.st) (defScope r.st) .none kV doc pm an cdv ct), osl⟩)
    (c : PySem.W.codeIn K cdv r.fi.name = true) (k : PySem.W.keepIn K (.ref f) = true)
    (b : ∀ us : List Value, us.length = r.fi.ps.length → bindArgs (PySem.W.fnOf r.fi.name r.fi.name (defArgs r.st) (defBody r.st) (defScope r.st) .none kV doc pm an cdv ct) ⟨us, []⟩ = pure (r.fi.ps.zip us)) : FunAt K mg r :=
  ⟨f, _, fun_mk l c k, PySem.W.mg_of X Gn a, k, .all b⟩
end Mi
set_option Elab.async false
set_option linter.all false
set_option maxRecDepth 100000
namespace Mi
open PySem L2 PyProof.Rows
/-! ### 13. sizes, places, and how a body is worked out -/
def Sz (n : Nat) (x : Int) : Prop := x.natAbs < 2 ^ n
theorem sz_mul {a b : Nat} {x y : Int} (h : Sz a x) (g : Sz b y) : Sz (a + b) (x * y) := by
  unfold Sz at *
  rw [Int.natAbs_mul, Nat.pow_add]
  exact Nat.mul_lt_mul_of_lt_of_lt h g
theorem sz_le {a b : Nat} {x : Int} (h : Sz a x) (l : a ≤ b) : Sz b x := Nat.lt_of_lt_of_le h (Nat.pow_le_pow_right (by decide) l)
theorem sz_two {a : Nat} {x y z : Int} (h : Sz a x) (g : Sz a y) (e : z.natAbs ≤ x.natAbs + y.natAbs) : Sz (a + 1) z := by
  unfold Sz at *
  rw [Nat.pow_succ]
  omega
theorem sz_add {a b : Nat} {x y : Int} (h : Sz a x) (g : Sz b y) : Sz (max a b + 1) (x + y) := sz_two (sz_le h (Nat.le_max_left a b)) (sz_le g (Nat.le_max_right a b)) (by omega)
theorem sz_sub {a b : Nat} {x y : Int} (h : Sz a x) (g : Sz b y) : Sz (max a b + 1) (x - y) := sz_two (sz_le h (Nat.le_max_left a b)) (sz_le g (Nat.le_max_right a b)) (by omega)
theorem sz_neg {a : Nat} {x : Int} (h : Sz a x) : Sz a (-x) := by
  unfold Sz at *
  rwa [Int.natAbs_neg]
theorem sz_of {n : Nat} {x : Int} (h : x.natAbs < 2 ^ n) : Sz n x := h
theorem log_of {n : Nat} {x : Int} (h : Sz n x) : x.natAbs.log2 ≤ n := by
  unfold Sz at h
  by_cases e : x.natAbs = 0
  · rw [e]; exact Nat.zero_le _
  · exact Nat.le_of_lt ((Nat.log2_lt e).mpr h)
theorem okMul_of {a b : Nat} {x y : Int} (h : Sz a x) (g : Sz b y) (l : a + b < 1000000) : okMul x y := Nat.lt_of_le_of_lt (Nat.add_le_add (log_of h) (log_of g)) l
theorem okDiv_of {b : Nat} {y : Int} (n : y ≠ 0) (g : Sz b y) (l : b < 9000) : okDiv y := ⟨n, Nat.lt_of_le_of_lt (log_of g) l⟩
theorem fmod_lo {x y : Int} (h : 0 < y) : 0 ≤ x.fmod y := Int.fmod_nonneg_of_pos x h
theorem fmod_hi {x y : Int} (h : 0 < y) : x.fmod y < y := Int.fmod_lt_of_pos x h
theorem sz_mod {n : Nat} {x y : Int} (h : 0 < y) (g : Sz n y) : Sz n (x.fmod y) := by
  have a := fmod_lo (x := x) h
  have b := fmod_hi (x := x) h
  unfold Sz at *
  omega
theorem onS_some {α : Type} (a : α) (k : α → Prop) : onS (some a) k = k a := rfl
theorem onS_none {α : Type} (k : α → Prop) : onS (none : Option α) k = False := rfl
theorem at0 {α : Type} (a : α) (r : List α) : atI (a :: r) 0 = some a := by
  unfold atI ixN
  rw [if_pos (by decide), if_pos (by simp only [List.length_cons]; omega)]
  rfl
theorem atS {α : Type} (a : α) (r : List α) (n : Int) (h : 0 < n) : atI (a :: r) n = atI r (n - 1) := by
  have hl : ((a :: r).length : Int) = (r.length : Int) + 1 := by simp
  by_cases e : n < (r.length : Int) + 1
  · have e1 : ixN (a :: r).length n = some n.toNat := by
      unfold ixN
      rw [if_pos (by omega), if_pos (by omega)]
    have e2 : ixN r.length (n - 1) = some (n - 1).toNat := by
      unfold ixN
      rw [if_pos (by omega), if_pos (by omega)]
    unfold atI
    rw [e1, e2]
    simp only [Option.bind_some]
    rw [show n.toNat = (n - 1).toNat + 1 by omega, List.getElem?_cons_succ]
  · have e1 : ixN (a :: r).length n = none := by
      unfold ixN
      rw [if_pos (by omega), if_neg (by omega)]
    have e2 : ixN r.length (n - 1) = none := by
      unfold ixN
      rw [if_pos (by omega), if_neg (by omega)]
    unfold atI
    rw [e1, e2]
    rfl
theorem at1 {α : Type} (a b : α) (r : List α) : atI (a :: b :: r) 1 = some b := by rw [atS _ _ _ (by decide)]; exact at0 _ _
theorem at2 {α : Type} (a b c : α) (r : List α) : atI (a :: b :: c :: r) 2 = some c := by rw [atS _ _ _ (by decide)]; exact at1 _ _ _
theorem at3 {α : Type} (a b c d : α) (r : List α) : atI (a :: b :: c :: d :: r) 3 = some d := by rw [atS _ _ _ (by decide)]; exact at2 _ _ _ _
theorem at_get {α : Type} {xs : List α} {n : Int} (h0 : 0 ≤ n) (h : n < xs.length) : ∃ a, xs[n.toNat]? = some a ∧ atI xs n = some a := by
  have hn : n.toNat < xs.length := by omega
  refine ⟨xs[n.toNat], List.getElem?_eq_getElem hn, ?_⟩
  unfold atI ixN
  rw [if_pos h0, if_pos h]
  exact List.getElem?_eq_getElem hn
theorem rngD_succ (lo : Int) (n : Nat) : rngD lo (n + 1) = .int lo :: rngD (lo + 1) n := by
  unfold rngD
  rw [List.range_succ_eq_map, List.map_cons, List.map_map]
  congr 1
  · simp
  · apply List.map_congr_left
    intro a _
    simp only [Function.comp, Nat.succ_eq_add_one]
    congr 1
    omega
theorem for_rng {bnd : D → Dl → (Dl → Prop) → Prop} {body : Dl → DE → Prop} {E : DE} (I : Int → Dl → Prop) : ∀ (n : Nat) (lo : Int) (δ : Dl), I lo δ →
    (∀ (i : Int) (δ : Dl) (nx : Dl → Prop), lo ≤ i → i < lo + n → I i δ → (∀ δ', I (i + 1) δ' → nx δ') → bnd (.int i) δ fun δ1 => body δ1 { E with nx := nx, ct := nx, bk := E.nx }) →
    (∀ δ, I (lo + n) δ → E.nx δ) → forL bnd body E (rngD lo n) δ
  | 0, lo, δ, h, _, f => f δ (by simpa using h)
  | n + 1, lo, δ, h, st, f => by
    rw [rngD_succ]
    refine st lo δ _ (Int.le_refl _) (by omega) h fun δ' h' => ?_
    refine for_rng I n (lo + 1) δ' h' (fun i δ nx h1 h2 => st i δ nx (by omega) (by omega)) fun δ hd => f δ ?_
    rw [show lo + ((n + 1 : Nat) : Int) = lo + 1 + n by omega]
    exact hd
theorem for_list {bnd : D → Dl → (Dl → Prop) → Prop} {body : Dl → DE → Prop} {E : DE} (I : List D → Dl → Prop) : ∀ (xs : List D) (δ : Dl), I xs δ →
    (∀ (x : D) (r : List D) (δ : Dl) (nx : Dl → Prop), (∃ p, xs = p ++ x :: r) → I (x :: r) δ → (∀ δ', I r δ' → nx δ') → bnd x δ fun δ1 => body δ1 { E with nx := nx, ct := nx, bk := E.nx }) →
    (∀ δ, I [] δ → E.nx δ) → forL bnd body E xs δ
  | [], δ, h, _, f => f δ h
  | x :: r, δ, h, st, f => by
    refine st x r δ _ ⟨[], rfl⟩ h fun δ' h' => ?_
    refine for_list I r δ' h' (fun y s δ nx ⟨p, e⟩ => st y s δ nx ⟨x :: p, by rw [e]; rfl⟩) f
theorem cut_lo {xs : List D} {n : Int} (h : 0 ≤ n) : cutD xs (some n) none = xs.drop n.toNat := by
  obtain ⟨k, rfl⟩ := Int.eq_ofNat_of_zero_le h
  unfold cutD
  rw [HT.sIx_nat, HT.sIx_none, Int.toNat_natCast]
  rcases Nat.le_total k xs.length with l | l
  · rw [Nat.min_eq_left l, List.take_of_length_le (by simp)]
  · rw [Nat.min_eq_right l, List.drop_of_length_le (Nat.le_refl _), List.drop_of_length_le l, List.take_nil]
theorem cut_hi {xs : List D} {n : Int} (h : 0 ≤ n) : cutD xs none (some n) = xs.take n.toNat := by
  obtain ⟨k, rfl⟩ := Int.eq_ofNat_of_zero_le h
  unfold cutD
  rw [HT.sIx_nat, HT.sIx_none, Int.toNat_natCast, List.drop_zero, Nat.sub_zero]
  rcases Nat.le_total k xs.length with l | l
  · rw [Nat.min_eq_left l]
  · rw [Nat.min_eq_right l, List.take_of_length_le (Nat.le_refl _), List.take_of_length_le l]
theorem nc0 : ((0 : Nat) : Int) = 0 := rfl
theorem nc2 : ((2 : Nat) : Int) = 2 := rfl
theorem nc3 : ((3 : Nat) : Int) = 3 := rfl
theorem nc4 : ((4 : Nat) : Int) = 4 := rfl
theorem ix0 {n : Nat} (h : 0 < n) : ixN n 0 = some 0 := by
  unfold ixN
  rw [if_pos (by decide), if_pos (by omega)]
  rfl
theorem ixP {n : Nat} {i : Int} (h0 : 0 ≤ i) (h : i < n) : ixN n i = some i.toNat := by
  unfold ixN
  rw [if_pos h0, if_pos h]
theorem bop_add (i j : Int) (k) : bop .add (.int i) (.int j) k = k (.int (i + j)) false := rfl
theorem bop_sub (i j : Int) (k) : bop .sub (.int i) (.int j) k = k (.int (i - j)) false := rfl
theorem bop_mul (i j : Int) (k) : bop .mul (.int i) (.int j) k = (okMul i j ∧ k (.int (i * j)) false) := rfl
theorem bop_div (i j : Int) (k) : bop .div (.int i) (.int j) k = (okDiv j ∧ k (.int (i.fdiv j)) false) := rfl
theorem bop_mod (i j : Int) (k) : bop .mod (.int i) (.int j) k = (j ≠ 0 ∧ k (.int (i.fmod j)) false) := rfl
theorem bop_pow (i j : Int) (k) : bop .pow (.int i) (.int j) k = (okPow i j ∧ k (.int (i ^ j.toNat)) false) := rfl
theorem bop_lists (xs ys : List D) (k) : bop .add (.list xs) (.list ys) k = (xs.length + ys.length ≤ 1000000 ∧ k (.list (xs ++ ys)) true) := rfl
theorem bop_tups (xs ys : List D) (k) : bop .add (.tuple xs) (.tuple ys) k = ((xs ≠ [] ∧ ys ≠ [] ∧ xs.length + ys.length ≤ 1000000) ∧ k (.tuple (xs ++ ys)) false) := rfl
theorem cop_eq (x y : D) (k) : cop .eq x y k = (cmpOk x y ∧ k (PyData.eqv x y)) := rfl
theorem cop_ne (x y : D) (k) : cop .ne x y k = (cmpOk x y ∧ k (!PyData.eqv x y)) := rfl
theorem cop_lt (i j : Int) (k) : cop .lt (.int i) (.int j) k = k (decide (i < j)) := rfl
theorem cop_le (i j : Int) (k) : cop .le (.int i) (.int j) k = k (decide (i ≤ j)) := rfl
theorem cop_gt (i j : Int) (k) : cop .gt (.int i) (.int j) k = k (decide (j < i)) := rfl
theorem cop_ge (i j : Int) (k) : cop .ge (.int i) (.int j) k = k (decide (j ≤ i)) := rfl
theorem cop_isb (b c : Bool) (k) : cop .isn (.bool c) (.bool b) k = k (decide (c = b)) := rfl
theorem cop_nob (b c : Bool) (k) : cop .notn (.bool c) (.bool b) k = k (!decide (c = b)) := rfl
theorem cop_isnn (k) : cop .isn .none .none k = k true := rfl
theorem sbs_list (xs : List D) (i : Int) (k) : sbs (.list xs) (.int i) k = onS (atI xs i) k := rfl
theorem sbs_tup (xs : List D) (i : Int) (k) : sbs (.tuple xs) (.int i) k = onS (atI xs i) k := rfl
theorem sbs_scr (xs : List D) (i : Int) (k) : sbs (.dict [(.none, .list xs)]) (.int i) k = onS (atI xs i) k := rfl
theorem slcd_list (xs : List D) (lo hi) (k) : slcd (.list xs) lo hi k = k (.list (cutD xs lo hi)) true := rfl
theorem slcd_tup (xs : List D) (lo hi) (k) : slcd (.tuple xs) lo hi k = (¬ (HT.sIx xs.length 0 lo = 0 ∧ HT.sIx xs.length xs.length hi = xs.length) ∧ k (.tuple (cutD xs lo hi)) false) := rfl
theorem blt_len (x : D) (k) : blt .len [x] k = onS (itemsOf x) fun xs => k (.int xs.length) false := by cases x <;> rfl
theorem blt_abs (i : Int) (k) : blt .abs [.int i] k = k (.int (if i < 0 then -i else i)) false := rfl
theorem blt_max2 (i j : Int) (k) : blt .max2 [.int i, .int j] k = k (.int (if j > i then j else i)) false := rfl
theorem blt_min2 (i j : Int) (k) : blt .min2 [.int i, .int j] k = k (.int (if j < i then j else i)) false := rfl
theorem blt_sum (xs : List D) (k) : blt .sum [.list xs] k = onS (intsOf xs) fun ns => k (.int ns.sum) false := rfl
theorem blt_tupl (xs : List D) (k) : blt .tuple [.list xs] k = k (.tuple xs) false := rfl
theorem blt_tupt (xs : List D) (k) : blt .tuple [.tuple xs] k = k (.tuple xs) false := rfl
theorem blt_listl (xs : List D) (k) : blt .list [.list xs] k = k (.list xs) true := rfl
theorem blt_listt (xs : List D) (k) : blt .list [.tuple xs] k = k (.list xs) true := rfl
theorem blt_all (xs : List D) (k) : blt .all [.list xs] k = onS (boolsOf xs) fun bs => k (.bool (bs.all id)) false := rfl
theorem blt_any (xs : List D) (k) : blt .any [.list xs] k = onS (boolsOf xs) fun bs => k (.bool (bs.any id)) false := rfl
theorem blt_int (i : Int) (k) : blt .int [.int i] k = k (.int i) false := rfl
theorem items_list (xs : List D) : itemsOf (.list xs) = some xs := rfl
theorem items_tup (xs : List D) : itemsOf (.tuple xs) = some xs := rfl
theorem items_scr (xs : List D) : itemsOf (.dict [(.none, .list xs)]) = some xs := rfl
theorem isOwn_own (d : D) : isOwn (some (d, .own)) = true := rfl
theorem isOwn_lent (d : D) : isOwn (some (d, .lent)) = true := rfl
theorem isOwn_fro (d : D) : isOwn (some (d, .fro)) = false := rfl
theorem isOwn_no : isOwn none = false := rfl
theorem isLent_own (d : D) : isLent (some (d, .own)) = false := rfl
theorem isLent_lent (d : D) : isLent (some (d, .lent)) = true := rfl
theorem isLent_fro (d : D) : isLent (some (d, .fro)) = false := rfl
theorem isLent_no : isLent none = false := rfl
theorem reSl_two (d e : D) (f : Fl) : reSl (some (d, f)) (some e) = some (e, f) := rfl
theorem reSl_no (x : Sl) : reSl x none = x := by
  match x with
  | none => rfl
  | some (_, _) => rfl
theorem reSl_none (x : Option D) : reSl none x = none := rfl
theorem frz_own (d : D) : frz (some (d, .own)) = some (d, .fro) := rfl
theorem frz_lent (d : D) : frz (some (d, .lent)) = some (d, .lent) := rfl
theorem frz_fro (d : D) : frz (some (d, .fro)) = some (d, .fro) := rfl
theorem frz_no : frz none = none := rfl
theorem tr_bool (b : Bool) (k) : truK (.bool b) k = k b := rfl
theorem tr_int (i : Int) (k) : truK (.int i) k = k (i != 0) := rfl
theorem tr_none (k) : truK .none k = k false := rfl
theorem tr_list (xs : List D) (k) : truK (.list xs) k = k (!xs.isEmpty) := rfl
theorem tr_tup (xs : List D) (k) : truK (.tuple xs) k = k (!xs.isEmpty) := rfl
theorem fl_own (xs : List D) : flOf (.list xs) true = .own := rfl
theorem fl_fro (d : D) : flOf d false = .fro := rfl
theorem bind_one (i : Nat) (d : D) (δ k) : bindT (.one i) d δ k = setK i (d, .fro) δ k := rfl
theorem bind_tup (is : List Nat) (ds : List D) (δ k) : bindT (.many is) (.tuple ds) δ k = (is.length = ds.length ∧ setsK is ds δ k) := rfl
theorem bind_list (is : List Nat) (ds : List D) (δ k) : bindT (.many is) (.list ds) δ k = (is.length = ds.length ∧ setsK is ds δ k) := rfl
theorem aug_add (x y : Int) (k) : augK .add x (.int y) k = k (x + y) := rfl
theorem aug_sub (x y : Int) (k) : augK .sub x (.int y) k = k (x - y) := rfl
theorem sz_int (i j : Int) : cmpOk (.int i) (.int j) := ⟨rfl, rfl, Nat.zero_le _⟩
theorem by_rfl {α : Type} {a b : α} (h : a = b) : a = b := h
theorem eqv_int (i j : Int) : PyData.eqv (.int i) (.int j) = (i == j) := by_rfl rfl
theorem eqv_bool (i j : Bool) : PyData.eqv (.bool i) (.bool j) = (i == j) := by_rfl rfl
theorem eqv_tup (xs ys : List D) : PyData.eqv (.tuple xs) (.tuple ys) = PyData.eqvAll xs ys := by_rfl rfl
theorem eqv_list (xs ys : List D) : PyData.eqv (.list xs) (.list ys) = PyData.eqvAll xs ys := by_rfl rfl
theorem eqvA_nil : PyData.eqvAll [] [] = true := by_rfl rfl
theorem eqvA_cons (x y : D) (xs ys : List D) : PyData.eqvAll (x :: xs) (y :: ys) = (PyData.eqv x y && PyData.eqvAll xs ys) := by_rfl rfl
theorem eqvA_nc (y : D) (ys : List D) : PyData.eqvAll [] (y :: ys) = false := by_rfl rfl
theorem eqvA_cn (y : D) (ys : List D) : PyData.eqvAll (y :: ys) [] = false := by_rfl rfl
theorem isT_tup (xs : List D) (t : Ty) : isT (.tuple xs) t = decide (t = .tuple) := by cases t <;> rfl
theorem isT_list (xs : List D) (t : Ty) : isT (.list xs) t = decide (t = .list) := by cases t <;> rfl
theorem isT_int (i : Int) (t : Ty) : isT (.int i) t = decide (t = .int) := by cases t <;> rfl
theorem isT_bool (i : Bool) (t : Ty) : isT (.bool i) t = (decide (t = .int) || decide (t = .bool)) := by cases t <;> rfl
theorem isT_str (i : Str) (t : Ty) : isT (.str i) t = decide (t = .str) := by cases t <;> rfl
theorem isT_none (t : Ty) : isT .none t = false := by cases t <;> rfl
theorem scr_tup (xs : List D) : isScr (.tuple xs) = false := rfl
theorem scr_list (xs : List D) : isScr (.list xs) = false := rfl
theorem scr_int (i : Int) : isScr (.int i) = false := rfl
theorem scr_bool (i : Bool) : isScr (.bool i) = false := rfl
theorem scr_str (i : Str) : isScr (.str i) = false := rfl
theorem scr_none : isScr .none = false := rfl
/-- a call -/
def Ret (z : Bool) (fi : FI) (as : List Ar) (δ : Dl) (K : KD) (r : D) (os : List D) : Prop := os.length = as.length ∧ lentsOk fi.lent os = true ∧
      if resOk fi.fresh r = true then K r fi.fresh (back δ fi.lent as os)
      else ((z = false ∧ fi.fresh = false ∧ fi.lent.all (fun l => !l) = true ∧ δ.all (fun s => !isLent s) = true) ∧ K r false (δ.map frz)) ∨
        ((z = false ∧ ownIn δ (lentIs fi.lent as) = true) ∧ K r fi.fresh (back δ fi.lent as os))
theorem nodup_one (i : Nat) : [i].Nodup := by simp
theorem call_go {z : Bool} {fi : FI} {as : List Ar} {δ : Dl} {K : KD} {E : XD} {ds : List D} (h1 : lentOk δ fi.lent as = true) (h2 : (lentIs fi.lent as).Nodup) (h3 : noClash (lentIs fi.lent as) fi.lent as = true) (h4 : dats δ as = some ds)
    (t : fi.T ds (fun r os => Ret z fi as δ K r os) (fun x os => os.length = as.length ∧ lentsOk fi.lent os = true ∧ E x (back δ fi.lent as os))) : callK z fi as δ K E := by
  refine ⟨⟨h1, h2, h3⟩, ?_⟩
  rw [h4]
  exact t
theorem call_at {G : Gd} {i : Nat} {fi : FI} {z : Bool} {as : List Ar} {δ : Dl} {K : KD} {E : XD} {ds : List D} (hg : G.fs[i]? = some fi) (h1 : lentOk δ fi.lent as = true) (h2 : (lentIs fi.lent as).Nodup) (h3 : noClash (lentIs fi.lent as) fi.lent as = true) (h4 : dats δ as = some ds)
    (t : fi.T ds (fun r os => Ret z fi as δ K r os) (fun x os => os.length = as.length ∧ lentsOk fi.lent os = true ∧ E x (back δ fi.lent as os))) : onS G.fs[i]? fun fi => callK z fi as δ K E := by
  rw [hg]
  exact call_go h1 h2 h3 h4 t
theorem ret_all {z : Bool} {fi : FI} {as : List Ar} {δ : Dl} {K : KD} {r : D} {os : List D} (h1 : os.length = as.length) (h2 : lentsOk fi.lent os = true) (h3 : z = false) (h4 : ownIn δ (lentIs fi.lent as) = true) (k : K r fi.fresh (back δ fi.lent as os)) : Ret z fi as δ K r os := by
  refine ⟨h1, h2, ?_⟩
  by_cases h : resOk fi.fresh r = true
  · rw [if_pos h]; exact k
  · rw [if_neg h]; exact .inr ⟨⟨h3, h4⟩, k⟩
theorem ret_go {z : Bool} {fi : FI} {as : List Ar} {δ : Dl} {K : KD} {r : D} {os : List D} (h1 : os.length = as.length) (h2 : lentsOk fi.lent os = true) (h3 : resOk fi.fresh r = true) (k : K r fi.fresh (back δ fi.lent as os)) : Ret z fi as δ K r os := by
  refine ⟨h1, h2, ?_⟩
  rw [if_pos h3]
  exact k
theorem whl_at {cond : Dl → (Bool → Dl → Prop) → Prop} {body : Dl → DE → Prop} {E : DE} (I : Nat → Dl → Prop)
    (st : ∀ (m : Nat) (δ : Dl) (X : Dl → Prop), I m δ → (∀ m' δ', m' < m → I m' δ' → X δ') → cond δ fun b δ1 => if b = true then body δ1 { E with nx := X, ct := X, bk := E.nx } else E.nx δ1) : ∀ (n m : Nat) (δ : Dl), m < n → I m δ → loopN cond body E n δ
  | 0, m, δ, h, _ => absurd h (Nat.not_lt_zero _)
  | n + 1, m, δ, h, i => st m δ _ i fun m' δ' l i' => whl_at I st n m' δ' (by omega) i'
theorem whl_of {cond : Dl → (Bool → Dl → Prop) → Prop} {body : Dl → DE → Prop} {E : DE} (I : Nat → Dl → Prop) (m : Nat) (δ : Dl) (h : I m δ)
    (st : ∀ (m : Nat) (δ : Dl) (X : Dl → Prop), I m δ → (∀ m' δ', m' < m → I m' δ' → X δ') → cond δ fun b δ1 => if b = true then body δ1 { E with nx := X, ct := X, bk := E.nx } else E.nx δ1) : ∃ n, loopN cond body E n δ :=
  ⟨m + 1, whl_at I st (m + 1) m δ (Nat.lt_succ_self m) h⟩
theorem lc_of {src : Option Nat} {all : List D} {own : List Nat} {bnd : D → Dl → (Dl → Prop) → Prop} {tst : Dl → (Bool → Dl → Prop) → Prop} {elt : Dl → (D → Dl → Prop) → Prop} {fin : List D → Dl → Prop} (I : List D → List D → Dl → Prop) : ∀ (xs acc : List D) (δ : Dl), I xs acc δ →
    (∀ (x : D) (r acc : List D) (δ : Dl) (N : List D → Dl → Prop), I (x :: r) acc δ → (∀ acc' δ', I r acc' δ' → N acc' δ') → bnd x δ fun δ1 => tst δ1 fun b δ2 =>
      if b = true then elt δ2 fun d δ3 => acc.length < 1000000 ∧ srcOk src all δ3 ∧ N (acc ++ [d]) (wipeD δ3 own)
      else srcOk src all δ2 ∧ N acc (wipeD δ2 own)) →
    (∀ acc δ, I [] acc δ → fin acc δ) → lcL src all own bnd tst elt fin xs acc δ
  | [], acc, δ, h, _, f => f acc δ h
  | x :: r, acc, δ, h, st, f => st x r acc δ _ h fun acc' δ' h' => lc_of I r acc' δ' h' st f
def intL (ns : List Int) : List D := ns.map PyData.int
theorem ints_get (ns : List Int) : intsOf (ns.map PyData.int) = some ns := by
  induction ns with
  | nil => rfl
  | cons n r ih => show (intsOf (r.map PyData.int)).map (n :: ·) = _; rw [ih]; rfl
theorem plain_ints (ns : List Int) : PyData.plainAll (ns.map PyData.int) = true := by
  induction ns with
  | nil => rfl
  | cons n r ih => exact ih
theorem depth_ints (ns : List Int) : PyData.depthAll (ns.map PyData.int) = 0 := by
  induction ns with
  | nil => rfl
  | cons n r ih => show max 0 (PyData.depthAll (r.map PyData.int)) = 0; rw [ih]; rfl
theorem eqv_ints (ns : List Int) : PyData.eqvAll (ns.map PyData.int) (ns.map PyData.int) = true := by
  induction ns with
  | nil => rfl
  | cons n r ih =>
    show (n == n && PyData.eqvAll (r.map PyData.int) (r.map PyData.int)) = true
    rw [ih, beq_self_eq_true]; rfl
theorem smp_ints (ns : List Int) : smpA (ns.map PyData.int) = true := by
  induction ns with
  | nil => rfl
  | cons n r ih => exact ih
theorem cmp_lists (ns ms : List Int) : cmpOk (.list (ns.map PyData.int)) (.list (ms.map PyData.int)) := by
  refine ⟨plain_ints ns, plain_ints ms, Nat.le_trans (Nat.min_le_left _ _) ?_⟩
  show PyData.depthAll (ns.map PyData.int) + 1 ≤ 60
  rw [depth_ints]
  decide
theorem cmp_tups (ns ms : List Int) : cmpOk (.tuple (ns.map PyData.int)) (.tuple (ms.map PyData.int)) := by
  refine ⟨plain_ints ns, plain_ints ms, Nat.le_trans (Nat.min_le_left _ _) ?_⟩
  show PyData.depthAll (ns.map PyData.int) + 1 ≤ 60
  rw [depth_ints]
  decide
theorem am1 {α : Type} (a b c : α) : atI [a, b, c] (-1) = some c := rfl
theorem am2 {α : Type} (a b c : α) : atI [a, b, c] (-2) = some b := rfl
/-- the helper that takes a cell of the script -/
def T_cell (ds : List D) (Q : D → List D → Prop) (E : Xn → List D → Prop) : Prop := ∃ (ns : List Int) (k : Int), ds = [scrD ns, .int k] ∧ 0 ≤ k ∧ ∀ v : Int, Q (.int v) [.none, .none]
theorem pl_int (i : Int) : PyData.plain (.int i) = true := rfl
theorem walk_law {l : PySem.W.OpenLaw} {k : Nat} {q : Program} {loose : List Str} {XP : (Str → Option Value) → Heap → Prop} {YP : World → Heap → Prop} {d : DefRec} {K : Params → PySem.W.Frag} (hn : l.most = some 63) (hdf : d.params.defaults = []) (hr : Room k callerA)
    (hY : ∀ (w : World) (h : Heap), YP w h → (K w.params).In h)
    (F : ∀ (w : World) (mg : Str → Option Value) (fa : Addr) (h : Heap), (K w.params).In h → h.Ns mainGlobals mg → mg d.name = some (.ref fa) →
      ∃ fd : FuncData, (∀ (s : Shared) (v : Value), BindsTo s fd ⟨[v], []⟩ [("script", v)]) ∧ ∀ base : Heap, (K w.params).In base → base.Ns mainGlobals mg → FnOk l.prog w (K w.params) mg base (L2.CX l.prog w) k fa fd ["script"] (spLaw (K w.params))) :
    PySem.W.WalkO q loose XP YP l.row.toRowW d [] (fun f vs => PySem.call f vs) :=
  L2.walk_of (CX := fun w => L2.CX l.prog w) (sp := fun w => spLaw (K w.params)) hn (by decide) hdf hr hY F (fun _ _ a ns hl _ hS => ⟨a, ns, rfl, hS, hl, fun _ => rfl⟩) fun _ _ _ _ _ z => cx_no z
end Mi
set_option Elab.async false
set_option linter.all false
set_option maxRecDepth 100000
namespace Mi
open PySem L2 PyProof.Rows
def b__law_cell_at : Cms :=
  (.cons (.iff (.cmp .lt (.var 1) (.blt .len (.cons (.var 0) .nil)))
  (.cons (.ret (.sub (.var 0) (.var 1)))
  .nil)
  .nil)
  (.cons (.ret (.int 0))
  .nil))
def b__law_rest (i__law_cell_at : Nat) : Cms :=
  (.cons (.set 2 (.call i__law_cell_at (.cons (.var 0) (.cons (.var 1) .nil))))
  (.cons (.set 3 (.bin .mod (.bin .mul (.bin .add (.bin .add (.bin .mod (.bin .div (.var 2) (.int 2)) (.bin .pow (.int 10) (.int 18))) (.bin .mul (.bin .mul (.int 7919) (.var 1)) (.var 1))) (.int 1)) (.int 48271)) (.int 999999000001)))
  (.cons (.set 4 (.int 0))
  (.cons (.for (.one 5) (.rng1 (.int 60))
  (.cons (.set 3 (.bin .mod (.bin .add (.bin .add (.bin .mul (.var 3) (.int 69621)) (.bin .mul (.var 5) (.var 5))) (.int 1)) (.int 999999000001)))
  (.cons (.set 4 (.bin .add (.bin .mul (.var 4) (.bin .pow (.int 10) (.int 12))) (.bin .mod (.bin .mul (.var 3) (.bin .add (.var 3) (.bin .mul (.int 31) (.var 5)))) (.int 1000000000039))))
  .nil)))
  (.cons (.iff (.cmp .eq (.bin .mod (.var 2) (.int 2)) (.int 0))
  (.cons (.ret (.lst (.cons (.var 4) .nil)))
  .nil)
  .nil)
  (.cons (.ret (.lst (.cons (.bin .div (.var 2) (.int 2)) (.cons (.var 4) .nil))))
  .nil))))))
def b__law_digit : Cms :=
  (.cons (.iff (.and (.cmp .lt (.sub (.var 0) (.int 0)) (.int 2)) (.one (.cmp .gt (.blt .len (.cons (.var 0) .nil)) (.int 1))))
  (.cons (.sub 0 (.int 0) (.pop 0))
  .nil)
  .nil)
  (.cons (.set 2 (.bin .mod (.sub (.var 0) (.int 0)) (.var 1)))
  (.cons (.sub 0 (.int 0) (.bin .div (.sub (.var 0) (.int 0)) (.var 1)))
  (.cons (.ret (.var 2))
  .nil))))
def b__law_number (i__law_digit : Nat) : Cms :=
  (.cons (.set 2 (.call i__law_digit (.cons (.var 0) (.cons (.int 3) .nil))))
  (.cons (.iff (.cmp .eq (.var 2) (.int 0))
  (.cons (.ret (.bin .sub (.call i__law_digit (.cons (.var 0) (.cons (.int 7) .nil))) (.int 3)))
  .nil)
  .nil)
  (.cons (.iff (.cmp .eq (.var 2) (.int 1))
  (.cons (.ret (.bin .sub (.call i__law_digit (.cons (.var 0) (.cons (.int 41) .nil))) (.int 20)))
  .nil)
  .nil)
  (.cons (.ret (.bin .add (.bin .sub (.call i__law_digit (.cons (.var 0) (.cons (.bin .sub (.bin .mul (.int 2) (.var 1)) (.int 1)) .nil))) (.var 1)) (.int 1)))
  .nil))))
def b__law_whole : Cms :=
  (.cons (.ret (.and (.isi (.var 0) .int) (.one (.not (.isi (.var 0) .bool)))))
  .nil)
def isRest (r : List D) : Prop := (∃ a, r = [.int a]) ∨ ∃ a b, r = [.int a, .int b]
def T_rest (ds : List D) (Q : D → List D → Prop) (E : Xn → List D → Prop) : Prop := ∃ (ns : List Int) (k : Int), ds = [scrD ns, .int k] ∧ 0 ≤ k ∧ k < 2 ^ 60 ∧ ∀ r, isRest r → Q (.list r) [.none, .none]
def T_digit (ds : List D) (Q : D → List D → Prop) (E : Xn → List D → Prop) : Prop := ∃ (r : List D) (m : Int), ds = [.list r, .int m] ∧ isRest r ∧ 0 < m ∧ Sz 8000 m ∧ ∀ v r', 0 ≤ v → v < m → isRest r' → Q (.int v) [.list r', .none]
def T_number (ds : List D) (Q : D → List D → Prop) (E : Xn → List D → Prop) : Prop := ∃ (r : List D) (m : Int), ds = [.list r, .int m] ∧ isRest r ∧ 0 < m ∧ Sz 7000 m ∧ ∀ v r', (v < m + 21 ∧ -v < m + 21) → isRest r' → Q (.int v) [.list r', .none]
def isWhole : D → Bool
  | .int _ => true
  | _ => false
def T_whole (ds : List D) (Q : D → List D → Prop) (E : Xn → List D → Prop) : Prop := ∃ (d : D), ds = [d] ∧ isScr d = false ∧ Q (.bool (isWhole d)) [.none]
def f__law_cell_at : FI := ⟨"_law_cell_at", ["script", "k"], [false, false], false, T_cell⟩
def f__law_rest : FI := ⟨"_law_rest", ["script", "k"], [false, false], true, T_rest⟩
def f__law_digit : FI := ⟨"_law_digit", ["rest", "many"], [true, false], false, T_digit⟩
def f__law_number : FI := ⟨"_law_number", ["rest", "far"], [true, false], false, T_number⟩
def f__law_whole : FI := ⟨"_law_whole", ["found"], [false], false, T_whole⟩
local macro_rules | `(tactic| walk_at "mi") => `(tactic| try simp only [↓bodyT, entry, entryGo, nones, outsOf, outsFrom, ↓wpSs, ↓wpS, ↓wpE, ↓wpT, ↓wpAs, ↓wpVs, ↓wpO, ↓wpC, ↓wpI, ↓arg, asVar, look, dat, dats, bop_add, bop_sub, bop_mul, bop_div, bop_mod, bop_pow, bop_lists, bop_tups, cop_eq, cop_ne, cop_lt, cop_le, cop_gt, cop_ge, sbs_list, sbs_tup, sbs_scr, slcd_list, slcd_tup, blt_len, blt_abs, blt_max2, blt_min2, blt_sum, blt_tupl, blt_tupt, blt_listl, blt_listt, blt_all, blt_any, blt_int, items_list, items_tup, items_scr, isOwn_own, isOwn_lent, isOwn_fro, isOwn_no, isLent_own, isLent_lent, isLent_fro, isLent_no, reSl_two, reSl_no, reSl_none, frz_own, frz_lent, frz_fro, frz_no, tr_bool, tr_int, tr_none, tr_list, tr_tup, fl_own, fl_fro, bind_one, bind_tup, bind_list, aug_add, aug_sub, ↓setK, setsK, putAt, boolsOf, intsOf, onS_some, onS_none, at0, at1, at2, at3, ix0, back, backAt, newOf, f__law_cell_at, f__law_rest, f__law_digit, f__law_number, f__law_whole, eq_self, Nat.reduceEqDiff, frzSrc, srcOf, srcOk, ↓lcL, wipeD, unwipe, ownL, isT_tup, isT_list, isT_int, isT_bool, isT_str, isT_none, scr_tup, scr_list, scr_int, scr_bool, scr_str, scr_none, cut_lo, cut_hi, List.drop_succ_cons, List.drop_zero, sz_int, Int.reduceBEq, beq_self_eq_true, id_eq, bne_self_eq_false, eqv_int, eqv_bool, eqv_tup, eqv_list, eqvA_nil, eqvA_cons, eqvA_nc, eqvA_cn, List.length_cons, List.length_nil, List.getElem?_cons_zero, List.getElem?_cons_succ, List.set_cons_zero, List.set_cons_succ, List.dropLast_cons₂, List.dropLast_singleton, Nat.reduceAdd, Nat.reduceSub, Nat.zero_add, Nat.add_zero, List.append_eq, List.cons_append, List.nil_append, List.map_cons, List.map_nil, List.all_cons, List.all_nil, List.any_cons, List.any_nil, List.contains_nil, decide_eq_true_eq, nc0, Int.natCast_one, nc2, nc3, nc4, Int.reduceLT, Int.reduceLE, Int.reduceNeg, decide_true, decide_false, Bool.false_eq_true, Bool.true_and, Bool.and_true, Bool.false_and, Bool.and_false, Bool.not_true, Bool.not_false, if_true, if_false, ite_self, true_and, and_true, Option.map_some, Option.map_none, Option.isSome_some, Option.isSome_none, reduceCtorEq, imp_self, false_and, and_false, false_imp_iff, true_imp_iff, ne_eq, not_true_eq_false, not_false_eq_true, Nat.reduceLeDiff, Nat.reduceLT, reduceIte, List.isEmpty_cons, List.isEmpty_nil, Int.reduceToNat, Nat.le_refl, Nat.zero_le, Bool.or_false, Bool.false_or, Bool.or_true, Bool.true_or, Nat.reduceEqDiff])
local macro_rules | `(tactic| walk_at "call") => `(tactic| refine call_at (by assumption) rfl (by first | exact List.nodup_nil | exact nodup_one _) rfl rfl ?_)
local macro_rules | `(tactic| walk_at "ret") => `(tactic| refine ret_go rfl rfl rfl ?_)
local macro_rules | `(tactic| walk_at "sz") => `(tactic| (apply okMul_of; (repeat first | assumption | exact sz_of (n := 256) (by decide) | exact sz_mod (by decide) (sz_of (n := 256) (by decide)) | apply sz_mul | apply sz_add | apply sz_sub | apply sz_neg); try omega))
theorem okR60 : okRng 60 := by unfold okRng; decide
theorem okR3 : okRng 3 := by unfold okRng; decide
theorem rng3 : rngD 0 3 = [.int 0, .int 1, .int 2] := rfl
theorem t_cell {G : Gd} (ds : List D) (Q : D → List D → Prop) (E : Xn → List D → Prop) (h : T_cell ds Q E) : bodyT G 2 [false, false] false b__law_cell_at ds Q E := by
  obtain ⟨ns, k, rfl, hk, q⟩ := h
  unfold b__law_cell_at
  unfold scrD
  walk_at "mi"
  by_cases l : k < ((ns.map PyData.int).length : Int)
  · obtain ⟨a, h1, h2⟩ := at_get hk l
    rw [if_pos (by simpa using l), h2]
    rw [List.getElem?_map] at h1
    obtain ⟨v, h3, rfl⟩ := Option.map_eq_some_iff.mp h1
    exact q v
  · rw [if_neg (by simpa using l)]
    exact q 0
theorem t_digit {G : Gd} (ds : List D) (Q : D → List D → Prop) (E : Xn → List D → Prop) (h : T_digit ds Q E) : bodyT G 3 [true, false] false b__law_digit ds Q E := by
  obtain ⟨r, m, rfl, hr, hm, sm, q⟩ := h
  have od : okDiv m := okDiv_of (by omega) sm (by decide)
  have q' : ∀ x r', isRest r' → Q (.int (Int.fmod x m)) [.list r', .none] := fun x r' h => q _ _ (fmod_lo hm) (fmod_hi hm) h
  unfold b__law_digit
  rcases hr with ⟨a, rfl⟩ | ⟨a, b, rfl⟩
  · walk_at "mi"
    exact ⟨by omega, od, q' _ _ (.inl ⟨_, rfl⟩)⟩
  · walk_at "mi"
    by_cases ha : a < 2
    · rw [if_pos ha]
      exact ⟨by omega, od, q' _ _ (.inl ⟨_, rfl⟩)⟩
    · rw [if_neg ha]
      exact ⟨by omega, od, q' _ _ (.inr ⟨_, _, rfl⟩)⟩
theorem rest_len {r : List D} (h : isRest r) : (smpA r = true) := by
  rcases h with ⟨a, rfl⟩ | ⟨a, b, rfl⟩ <;> rfl
theorem rest_lent {r : List D} {d : D} (h : isRest r) : lentsOk [true, false] [.list r, d] = true := by
  rcases h with ⟨a, rfl⟩ | ⟨a, b, rfl⟩ <;> rfl
theorem rest_res {r : List D} (h : isRest r) : resOk true (.list r) = true := by
  rcases h with ⟨a, rfl⟩ | ⟨a, b, rfl⟩ <;> rfl
theorem t_number {G : Gd} (i : Nat) (h1 : G.fs[i]? = some f__law_digit) (ds : List D) (Q : D → List D → Prop) (E : Xn → List D → Prop) (h : T_number ds Q E) : bodyT G 3 [true, false] false (b__law_number i) ds Q E := by
  obtain ⟨r, m, rfl, hr, hm, sm, q⟩ := h
  unfold b__law_number
  have s3 : Sz 8000 3 := sz_le (a := 10) (sz_of (by decide)) (by decide)
  have s7 : Sz 8000 7 := sz_le (a := 10) (sz_of (by decide)) (by decide)
  have s41 : Sz 8000 41 := sz_le (a := 10) (sz_of (by decide)) (by decide)
  have s1 : Sz 10 1 := sz_of (by decide)
  have s2 : Sz 10 2 := sz_of (by decide)
  walk_at "mi"
  walk_at "call"
  refine ⟨r, 3, rfl, hr, by decide, s3, fun v r' v0 v1 hr' => ?_⟩
  refine ret_go rfl (rest_lent hr') rfl ?_
  walk_at "mi"
  split
  · walk_at "call"
    refine ⟨r', 7, rfl, hr', by decide, s7, fun v r2 v0 v1 hr2 => ?_⟩
    refine ret_go rfl (rest_lent hr2) rfl ?_
    walk_at "mi"
    exact q _ _ (by omega) hr2
  · split
    · walk_at "call"
      refine ⟨r', 41, rfl, hr', by decide, s41, fun v r2 v0 v1 hr2 => ?_⟩
      refine ret_go rfl (rest_lent hr2) rfl ?_
      walk_at "mi"
      exact q _ _ (by omega) hr2
    · refine ⟨okMul_of s2 sm (by decide), ?_⟩
      walk_at "call"
      refine ⟨r', 2 * m - 1, rfl, hr', by omega, sz_le (sz_sub (sz_mul s2 sm) s1) (by decide), fun v r2 v0 v1 hr2 => ?_⟩
      refine ret_go rfl (rest_lent hr2) rfl ?_
      walk_at "mi"
      exact q _ _ (by omega) hr2
theorem t_whole {G : Gd} (ds : List D) (Q : D → List D → Prop) (E : Xn → List D → Prop) (h : T_whole ds Q E) : bodyT G 1 [false] false b__law_whole ds Q E := by
  obtain ⟨d, rfl, hs, q⟩ := h
  unfold b__law_whole
  walk_at "mi"
  refine ⟨hs, ?_⟩
  cases d with
  | dict kv => cases hs
  | _ =>
    simp only [isT, Bool.false_eq_true, if_true, if_false]
    first | exact q | exact ⟨rfl, q⟩
theorem t_rest {G : Gd} (i : Nat) (h1 : G.fs[i]? = some f__law_cell_at) (ds : List D) (Q : D → List D → Prop) (E : Xn → List D → Prop) (h : T_rest ds Q E) : bodyT G 6 [false, false] true (b__law_rest i) ds Q E := by
  obtain ⟨ns, k, rfl, hk, hk2, q⟩ := h
  unfold b__law_rest
  unfold scrD
  have sk : Sz 60 k := by unfold Sz; omega
  walk_at "mi"
  walk_at "call"
  refine ⟨ns, k, rfl, hk, fun v => ?_⟩
  walk_at "ret"
  walk_at "mi"
  refine ⟨⟨by decide, by decide⟩, ⟨by decide, by decide, by decide⟩, by decide, ?_, ?_, ?_, by decide, okR60, ?_⟩
  · walk_at "sz"
  · walk_at "sz"
  · walk_at "sz"
  refine for_rng (fun i δ => ∃ (one big : Int) (s : Sl), δ = [some (.dict [(.none, .list (ns.map PyData.int))], .fro), some (.int k, .fro), some (.int v, .fro), some (.int one, .fro), some (.int big, .fro), s] ∧ isLent s = false ∧ Sz 256 one ∧ Sz (1000 * i.toNat + 1000) big) _ _ _ ?_ ?_ ?_
  · exact ⟨_, _, _, rfl, rfl, sz_mod (by decide) (sz_of (by decide)), sz_le (a := 1) (sz_of (by decide)) (by decide)⟩
  · rintro j δ nx j0 j1 ⟨one, big, s, rfl, hs, so, sb⟩ fin
    have j1 : j < 60 := by simpa using j1
    have sj : Sz 8 j := by unfold Sz; omega
    walk_at "mi"
    have m1 : Sz 256 ((one * 69621 + j * j + 1).fmod 999999000001) := sz_mod (by decide) (sz_of (by decide))
    have m2 : Sz 256 ((((one * 69621 + j * j + 1).fmod 999999000001) * (((one * 69621 + j * j + 1).fmod 999999000001) + 31 * j)).fmod 1000000000039) := sz_mod (by decide) (sz_of (by decide))
    refine ⟨hs, ?_, ?_, by decide, ⟨by decide, by decide, by decide⟩, ?_, ?_, ?_, by decide, fin _ ⟨_, _, _, rfl, rfl, m1, ?_⟩⟩
    · walk_at "sz"
    · walk_at "sz"
    · walk_at "sz"
    · walk_at "sz"
    · walk_at "sz"
    · exact sz_le (sz_add (sz_mul sb (sz_of (n := 256) (by decide))) m2) (by omega)
  · rintro δ ⟨one, big, s, rfl, hs, so, sb⟩
    walk_at "mi"
    refine ⟨by decide, ?_⟩
    by_cases e : (v.fmod 2 == 0) = true
    · rw [if_pos e]
      exact q _ (.inl ⟨_, rfl⟩)
    · rw [if_neg e]
      exact ⟨⟨by decide, by decide⟩, q _ (.inr ⟨_, _, rfl⟩)⟩
theorem whole_int (i : Int) : isWhole (.int i) = true := rfl
end Mi
set_option Elab.async false
set_option linter.all false
set_option maxRecDepth 100000
namespace Mi
open PySem L2 PyProof.Rows
def b_cross : Cms :=
  (.cons (.unp [2, 3, 4] (.var 0))
  (.cons (.unp [5, 6, 7] (.var 1))
  (.cons (.ret (.tup (.cons (.bin .sub (.bin .mul (.var 3) (.var 7)) (.bin .mul (.var 4) (.var 6))) (.cons (.bin .sub (.bin .mul (.var 4) (.var 5)) (.bin .mul (.var 2) (.var 7))) (.cons (.bin .sub (.bin .mul (.var 2) (.var 6)) (.bin .mul (.var 3) (.var 5))) .nil)))))
  .nil)))
def b_dot : Cms :=
  (.cons (.ret (.bin .add (.bin .add (.bin .mul (.sub (.var 0) (.int 0)) (.sub (.var 1) (.int 0))) (.bin .mul (.sub (.var 0) (.int 1)) (.sub (.var 1) (.int 1)))) (.bin .mul (.sub (.var 0) (.int 2)) (.sub (.var 1) (.int 2)))))
  .nil)
def b_turn (i_dot : Nat) (i_cross : Nat) : Cms :=
  (.cons (.ret (.call i_dot (.cons (.call i_cross (.cons (.var 0) (.cons (.var 1) .nil))) (.cons (.var 2) .nil))))
  .nil)
def T_cross (ds : List D) (Q : D → List D → Prop) (E : Xn → List D → Prop) : Prop := ∃ (n a b c d e f : _), ds = [.tuple [.int a, .int b, .int c], .tuple [.int d, .int e, .int f]] ∧ (n < 400000 ∧ Sz n a ∧ Sz n b ∧ Sz n c ∧ Sz n d ∧ Sz n e ∧ Sz n f) ∧
  Q (.tuple [.int (b * f - c * e), .int (c * d - a * f), .int (a * e - b * d)]) [.none, .none]
def T_dot (ds : List D) (Q : D → List D → Prop) (E : Xn → List D → Prop) : Prop := ∃ (n a b c d e f : _), ds = [.tuple [.int a, .int b, .int c], .tuple [.int d, .int e, .int f]] ∧ (n < 400000 ∧ Sz n a ∧ Sz n b ∧ Sz n c ∧ Sz n d ∧ Sz n e ∧ Sz n f) ∧
  Q (.int (a * d + b * e + c * f)) [.none, .none]
def T_turn (ds : List D) (Q : D → List D → Prop) (E : Xn → List D → Prop) : Prop := ∃ (n a b c d e f g u v : _), ds = [.tuple [.int a, .int b, .int c], .tuple [.int d, .int e, .int f], .tuple [.int g, .int u, .int v]] ∧ (n < 100000 ∧ Sz n a ∧ Sz n b ∧ Sz n c ∧ Sz n d ∧ Sz n e ∧ Sz n f ∧ Sz n g ∧ Sz n u ∧ Sz n v) ∧
  Q (.int ((b * f - c * e) * g + (c * d - a * f) * u + (a * e - b * d) * v)) [.none, .none, .none]
def f_cross : FI := ⟨"cross", ["one", "other"], [false, false], false, T_cross⟩
def f_dot : FI := ⟨"dot", ["one", "other"], [false, false], false, T_dot⟩
def f_turn : FI := ⟨"turn", ["one", "other", "third"], [false, false, false], false, T_turn⟩
local macro_rules | `(tactic| walk_at "mi") => `(tactic| try simp only [↓bodyT, entry, entryGo, nones, outsOf, outsFrom, ↓wpSs, ↓wpS, ↓wpE, ↓wpT, ↓wpAs, ↓wpVs, ↓wpO, ↓wpC, ↓wpI, ↓arg, asVar, look, dat, dats, bop_add, bop_sub, bop_mul, bop_div, bop_mod, bop_pow, bop_lists, bop_tups, cop_eq, cop_ne, cop_lt, cop_le, cop_gt, cop_ge, sbs_list, sbs_tup, sbs_scr, slcd_list, slcd_tup, blt_len, blt_abs, blt_max2, blt_min2, blt_sum, blt_tupl, blt_tupt, blt_listl, blt_listt, blt_all, blt_any, blt_int, items_list, items_tup, items_scr, isOwn_own, isOwn_lent, isOwn_fro, isOwn_no, isLent_own, isLent_lent, isLent_fro, isLent_no, reSl_two, reSl_no, reSl_none, frz_own, frz_lent, frz_fro, frz_no, tr_bool, tr_int, tr_none, tr_list, tr_tup, fl_own, fl_fro, bind_one, bind_tup, bind_list, aug_add, aug_sub, ↓setK, setsK, putAt, boolsOf, intsOf, onS_some, onS_none, at0, at1, at2, at3, ix0, back, backAt, newOf, f_cross, f_dot, f_turn, eq_self, Nat.reduceEqDiff, frzSrc, srcOf, srcOk, ↓lcL, wipeD, unwipe, ownL, isT_tup, isT_list, isT_int, isT_bool, isT_str, isT_none, scr_tup, scr_list, scr_int, scr_bool, scr_str, scr_none, cut_lo, cut_hi, List.drop_succ_cons, List.drop_zero, sz_int, Int.reduceBEq, beq_self_eq_true, id_eq, bne_self_eq_false, eqv_int, eqv_bool, eqv_tup, eqv_list, eqvA_nil, eqvA_cons, eqvA_nc, eqvA_cn, List.length_cons, List.length_nil, List.getElem?_cons_zero, List.getElem?_cons_succ, List.set_cons_zero, List.set_cons_succ, List.dropLast_cons₂, List.dropLast_singleton, Nat.reduceAdd, Nat.reduceSub, Nat.zero_add, Nat.add_zero, List.append_eq, List.cons_append, List.nil_append, List.map_cons, List.map_nil, List.all_cons, List.all_nil, List.any_cons, List.any_nil, List.contains_nil, decide_eq_true_eq, nc0, Int.natCast_one, nc2, nc3, nc4, Int.reduceLT, Int.reduceLE, Int.reduceNeg, decide_true, decide_false, Bool.false_eq_true, Bool.true_and, Bool.and_true, Bool.false_and, Bool.and_false, Bool.not_true, Bool.not_false, if_true, if_false, ite_self, true_and, and_true, Option.map_some, Option.map_none, Option.isSome_some, Option.isSome_none, reduceCtorEq, imp_self, false_and, and_false, false_imp_iff, true_imp_iff, ne_eq, not_true_eq_false, not_false_eq_true, Nat.reduceLeDiff, Nat.reduceLT, reduceIte, List.isEmpty_cons, List.isEmpty_nil, Int.reduceToNat, Nat.le_refl, Nat.zero_le, Bool.or_false, Bool.false_or, Bool.or_true, Bool.true_or, Nat.reduceEqDiff])
local macro_rules | `(tactic| walk_at "call") => `(tactic| refine call_at (by assumption) rfl (by first | exact List.nodup_nil | exact nodup_one _) rfl rfl ?_)
local macro_rules | `(tactic| walk_at "ret") => `(tactic| refine ret_go rfl rfl rfl ?_)
local macro_rules | `(tactic| walk_at "sz") => `(tactic| (apply okMul_of; (repeat first | assumption | exact sz_of (n := 256) (by decide) | exact sz_mod (by decide) (sz_of (n := 256) (by decide)) | apply sz_mul | apply sz_add | apply sz_sub | apply sz_neg); try omega))
theorem t_cross {G : Gd} (ds : List D) (Q : D → List D → Prop) (E : Xn → List D → Prop) (h : T_cross ds Q E) : bodyT G 8 [false, false] false b_cross ds Q E := by
  obtain ⟨n, a, b, c, d, e, f, rfl, ⟨hn, ha, hb, hc, hd, he, hf⟩, q⟩ := h
  unfold b_cross
  have m : ∀ {x y : Int}, Sz n x → Sz n y → okMul x y := fun h g => okMul_of h g (by omega)
  walk_at "mi"
  exact ⟨m hb hf, m hc he, m hc hd, m ha hf, m ha he, m hb hd, q⟩
theorem t_dot {G : Gd} (ds : List D) (Q : D → List D → Prop) (E : Xn → List D → Prop) (h : T_dot ds Q E) : bodyT G 2 [false, false] false b_dot ds Q E := by
  obtain ⟨n, a, b, c, d, e, f, rfl, ⟨hn, ha, hb, hc, hd, he, hf⟩, q⟩ := h
  unfold b_dot
  have m : ∀ {x y : Int}, Sz n x → Sz n y → okMul x y := fun h g => okMul_of h g (by omega)
  walk_at "mi"
  exact ⟨m ha hd, m hb he, m hc hf, q⟩
theorem t_turn {G : Gd} (i j : Nat) (h1 : G.fs[i]? = some f_dot) (h2 : G.fs[j]? = some f_cross) (ds : List D) (Q : D → List D → Prop) (E : Xn → List D → Prop) (h : T_turn ds Q E) : bodyT G 3 [false, false, false] false (b_turn i j) ds Q E := by
  obtain ⟨n, a, b, c, d, e, f, g, u, v, rfl, ⟨hn, ha, hb, hc, hd, he, hf, hg, hu, hv⟩, q⟩ := h
  unfold b_turn
  have m : ∀ {p q r s : Int}, Sz n p → Sz n q → Sz n r → Sz n s → Sz (2 * n + 1) (p * q - r * s) := fun h1 h2 h3 h4 => sz_le (sz_sub (sz_mul h1 h2) (sz_mul h3 h4)) (by omega)
  walk_at "mi"
  refine call_at (by assumption) rfl (by first | exact List.nodup_nil | exact nodup_one _) rfl rfl ?_
  refine ⟨n, _, _, _, _, _, _, rfl, ⟨by omega, ha, hb, hc, hd, he, hf⟩, ?_⟩
  refine ret_go rfl rfl rfl ?_
  walk_at "mi"
  refine call_at (by assumption) rfl (by first | exact List.nodup_nil | exact nodup_one _) rfl rfl ?_
  refine ⟨2 * n + 1, _, _, _, _, _, _, rfl, ⟨by omega, m hb hf hc he, m hc hd ha hf, m ha he hb hd, sz_le hg (by omega), sz_le hu (by omega), sz_le hv (by omega)⟩, ?_⟩
  refine ret_go rfl rfl rfl ?_
  walk_at "mi"
  exact q
end Mi
set_option Elab.async false
set_option linter.all false
set_option maxRecDepth 100000
namespace Mi
open PySem L2 PyProof.Rows
def b_divisor : Cms :=
  (.cons (.set 1 (.int 0))
  (.cons (.for (.one 2) (.seq (.var 0))
  (.cons (.set 3 (.blt .abs (.cons (.var 2) .nil)))
  (.cons (.whl (.cmp .gt (.var 3) (.int 0))
  (.cons (.set 4 (.bin .mod (.var 1) (.var 3)))
  (.cons (.set 1 (.var 3))
  (.cons (.set 3 (.var 4))
  .nil))))
  .nil)))
  (.cons (.ret (.var 1))
  .nil)))
def b__law_divisor : Cms :=
  (.cons (.set 1 (.int 0))
  (.cons (.for (.one 2) (.seq (.var 0))
  (.cons (.set 3 (.blt .max2 (.cons (.var 1) (.cons (.blt .abs (.cons (.var 2) .nil)) .nil))))
  (.cons (.set 4 (.blt .min2 (.cons (.var 1) (.cons (.blt .abs (.cons (.var 2) .nil)) .nil))))
  (.cons (.whl (.cmp .gt (.var 4) (.int 0))
  (.cons (.par 3 4 (.var 4) (.bin .mod (.var 3) (.var 4)))
  .nil))
  (.cons (.set 1 (.var 3))
  .nil)))))
  (.cons (.ret (.var 1))
  .nil)))
/-- the greatest that divides all -/
def gcdN : Nat → List Int → Nat
  | g, [] => g
  | g, n :: r => gcdN (Nat.gcd g n.natAbs) r
def T_divisor (ds : List D) (Q : D → List D → Prop) (E : Xn → List D → Prop) : Prop := ∃ (ns : List Int) (x : D), ds = [x] ∧ itemsOf x = some (ns.map PyData.int) ∧ isScr x = false ∧ Q (.int (gcdN 0 ns)) [.none]
def f_divisor : FI := ⟨"divisor", ["numbers"], [false], false, T_divisor⟩
def f__law_divisor : FI := ⟨"_law_divisor", ["numbers"], [false], false, T_divisor⟩
local macro_rules | `(tactic| walk_at "mi") => `(tactic| try simp only [↓bodyT, entry, entryGo, nones, outsOf, outsFrom, ↓wpSs, ↓wpS, ↓wpE, ↓wpT, ↓wpAs, ↓wpVs, ↓wpO, ↓wpC, ↓wpI, ↓arg, asVar, look, dat, dats, bop_add, bop_sub, bop_mul, bop_div, bop_mod, bop_pow, bop_lists, bop_tups, cop_eq, cop_ne, cop_lt, cop_le, cop_gt, cop_ge, sbs_list, sbs_tup, sbs_scr, slcd_list, slcd_tup, blt_len, blt_abs, blt_max2, blt_min2, blt_sum, blt_tupl, blt_tupt, blt_listl, blt_listt, blt_all, blt_any, blt_int, items_list, items_tup, items_scr, isOwn_own, isOwn_lent, isOwn_fro, isOwn_no, isLent_own, isLent_lent, isLent_fro, isLent_no, reSl_two, reSl_no, reSl_none, frz_own, frz_lent, frz_fro, frz_no, tr_bool, tr_int, tr_none, tr_list, tr_tup, fl_own, fl_fro, bind_one, bind_tup, bind_list, aug_add, aug_sub, ↓setK, setsK, putAt, boolsOf, intsOf, onS_some, onS_none, at0, at1, at2, at3, ix0, back, backAt, newOf, f_divisor, f__law_divisor, eq_self, Nat.reduceEqDiff, frzSrc, srcOf, srcOk, ↓lcL, wipeD, unwipe, ownL, isT_tup, isT_list, isT_int, isT_bool, isT_str, isT_none, scr_tup, scr_list, scr_int, scr_bool, scr_str, scr_none, cut_lo, cut_hi, List.drop_succ_cons, List.drop_zero, sz_int, Int.reduceBEq, beq_self_eq_true, id_eq, bne_self_eq_false, eqv_int, eqv_bool, eqv_tup, eqv_list, eqvA_nil, eqvA_cons, eqvA_nc, eqvA_cn, List.length_cons, List.length_nil, List.getElem?_cons_zero, List.getElem?_cons_succ, List.set_cons_zero, List.set_cons_succ, List.dropLast_cons₂, List.dropLast_singleton, Nat.reduceAdd, Nat.reduceSub, Nat.zero_add, Nat.add_zero, List.append_eq, List.cons_append, List.nil_append, List.map_cons, List.map_nil, List.all_cons, List.all_nil, List.any_cons, List.any_nil, List.contains_nil, decide_eq_true_eq, nc0, Int.natCast_one, nc2, nc3, nc4, Int.reduceLT, Int.reduceLE, Int.reduceNeg, decide_true, decide_false, Bool.false_eq_true, Bool.true_and, Bool.and_true, Bool.false_and, Bool.and_false, Bool.not_true, Bool.not_false, if_true, if_false, ite_self, true_and, and_true, Option.map_some, Option.map_none, Option.isSome_some, Option.isSome_none, reduceCtorEq, imp_self, false_and, and_false, false_imp_iff, true_imp_iff, ne_eq, not_true_eq_false, not_false_eq_true, Nat.reduceLeDiff, Nat.reduceLT, reduceIte, List.isEmpty_cons, List.isEmpty_nil, Int.reduceToNat, Nat.le_refl, Nat.zero_le, Bool.or_false, Bool.false_or, Bool.or_true, Bool.true_or, Nat.reduceEqDiff])
local macro_rules | `(tactic| walk_at "call") => `(tactic| refine call_at (by assumption) rfl (by first | exact List.nodup_nil | exact nodup_one _) rfl rfl ?_)
local macro_rules | `(tactic| walk_at "ret") => `(tactic| refine ret_go rfl rfl rfl ?_)
local macro_rules | `(tactic| walk_at "sz") => `(tactic| (apply okMul_of; (repeat first | assumption | exact sz_of (n := 256) (by decide) | exact sz_mod (by decide) (sz_of (n := 256) (by decide)) | apply sz_mul | apply sz_add | apply sz_sub | apply sz_neg); try omega))
theorem fmod_nat (a b : Nat) : (a : Int).fmod b = ((a % b : Nat) : Int) := by
  rw [Int.fmod_eq_emod_of_nonneg _ (Int.natCast_nonneg b)]
  rfl
theorem abs_nat (n : Int) : (if n < 0 then -n else n) = (n.natAbs : Int) := by
  split <;> omega
theorem t_divisor {G : Gd} (ds : List D) (Q : D → List D → Prop) (E : Xn → List D → Prop) (h : T_divisor ds Q E) : bodyT G 5 [false] false b_divisor ds Q E := by
  obtain ⟨ns, x, rfl, hx, hs, q⟩ := h
  unfold b_divisor
  walk_at "mi"
  rw [hx, onS_some]
  refine for_list (fun xs δ => ∃ (r : List Int) (g : Nat) (s1 s2 s3 : Sl), xs = r.map PyData.int ∧ gcdN g r = gcdN 0 ns ∧ δ = [some (x, .fro), some (.int g, .fro), s1, s2, s3] ∧ isLent s1 = false ∧ isLent s2 = false ∧ isLent s3 = false) _ _ ?_ ?_ ?_
  · exact ⟨ns, 0, none, none, none, rfl, rfl, rfl, rfl, rfl, rfl⟩
  · rintro y r δ nx _ ⟨rs, g, s1, s2, s3, e1, e2, rfl, l1, l2, l3⟩ fin
    cases rs with
    | nil => cases e1
    | cons n rs =>
      rw [List.map_cons] at e1
      obtain ⟨rfl, rfl⟩ := List.cons.inj e1
      walk_at "mi"
      refine ⟨l1, l2, ?_⟩
      rw [abs_nat]
      refine whl_of (fun m δ => ∃ (a b : Nat) (s : Sl), m = b ∧ Nat.gcd a b = Nat.gcd g n.natAbs ∧ δ = [some (x, .fro), some (.int a, .fro), some (.int n, .fro), some (.int b, .fro), s] ∧ isLent s = false) n.natAbs _ ⟨g, n.natAbs, s3, rfl, rfl, rfl, l3⟩ ?_
      rintro m δ X ⟨a, b, s, rfl, e3, rfl, l4⟩ fin2
      walk_at "mi"
      by_cases hm : 0 < (m : Int)
      · rw [if_pos hm]
        refine ⟨by omega, l4, ?_⟩
        rw [fmod_nat]
        refine fin2 (a % m) _ (Nat.mod_lt _ (by omega)) ⟨m, a % m, _, rfl, ?_, rfl, rfl⟩
        rw [← e3, Nat.gcd_comm a m, Nat.gcd_rec m a, Nat.gcd_comm]
      · rw [if_neg hm]
        refine fin _ ⟨rs, a, _, _, _, rfl, ?_, rfl, rfl, rfl, l4⟩
        have : m = 0 := by omega
        subst this
        rw [Nat.gcd_zero_right] at e3
        rw [e3]
        exact e2
  · rintro δ ⟨rs, g, s1, s2, s3, e1, e2, rfl, l1, l2, l3⟩
    cases rs with
    | cons n rs => cases e1
    | nil =>
      walk_at "mi"
      have e2 : g = gcdN 0 ns := e2
      rw [e2]
      exact q
theorem t__law_divisor {G : Gd} (ds : List D) (Q : D → List D → Prop) (E : Xn → List D → Prop) (h : T_divisor ds Q E) : bodyT G 5 [false] false b__law_divisor ds Q E := by
  obtain ⟨ns, x, rfl, hx, hs, q⟩ := h
  unfold b__law_divisor
  walk_at "mi"
  rw [hx, onS_some]
  refine for_list (fun xs δ => ∃ (r : List Int) (g : Nat) (s1 s2 s3 : Sl), xs = r.map PyData.int ∧ gcdN g r = gcdN 0 ns ∧ δ = [some (x, .fro), some (.int g, .fro), s1, s2, s3] ∧ isLent s1 = false ∧ isLent s2 = false ∧ isLent s3 = false) _ _ ?_ ?_ ?_
  · exact ⟨ns, 0, none, none, none, rfl, rfl, rfl, rfl, rfl, rfl⟩
  · rintro y r δ nx _ ⟨rs, g, s1, s2, s3, e1, e2, rfl, l1, l2, l3⟩ fin
    cases rs with
    | nil => cases e1
    | cons n rs =>
      rw [List.map_cons] at e1
      obtain ⟨rfl, rfl⟩ := List.cons.inj e1
      walk_at "mi"
      simp only [abs_nat]
      refine ⟨l1, l2, l3, ?_⟩
      have m1 : (if (n.natAbs : Int) > (g : Int) then (n.natAbs : Int) else (g : Int)) = ((max g n.natAbs : Nat) : Int) := by split <;> omega
      have m2 : (if (n.natAbs : Int) < (g : Int) then (n.natAbs : Int) else (g : Int)) = ((min g n.natAbs : Nat) : Int) := by split <;> omega
      rw [m1, m2]
      have m3 : Nat.gcd (max g n.natAbs) (min g n.natAbs) = Nat.gcd g n.natAbs := by
        rcases Nat.le_total g n.natAbs with l | l
        · rw [Nat.max_eq_right l, Nat.min_eq_left l, Nat.gcd_comm]
        · rw [Nat.max_eq_left l, Nat.min_eq_right l]
      refine whl_of (fun m δ => ∃ (a b : Nat), m = b ∧ Nat.gcd a b = Nat.gcd g n.natAbs ∧ δ = [some (x, .fro), some (.int g, .fro), some (.int n, .fro), some (.int a, .fro), some (.int b, .fro)]) (min g n.natAbs) _ ⟨_, _, rfl, m3, rfl⟩ ?_
      rintro m δ X ⟨a, b, rfl, e3, rfl⟩ fin2
      walk_at "mi"
      by_cases hm : 0 < (m : Int)
      · rw [if_pos hm]
        refine ⟨by omega, ?_⟩
        rw [fmod_nat]
        refine fin2 (a % m) _ (Nat.mod_lt _ (by omega)) ⟨m, a % m, rfl, ?_, rfl⟩
        rw [← e3, Nat.gcd_comm a m, Nat.gcd_rec m a, Nat.gcd_comm]
      · rw [if_neg hm]
        refine fin _ ⟨rs, a, _, _, _, rfl, ?_, rfl, rfl, rfl, rfl⟩
        have : m = 0 := by omega
        subst this
        rw [Nat.gcd_zero_right] at e3
        rw [e3]
        exact e2
  · rintro δ ⟨rs, g, s1, s2, s3, e1, e2, rfl, l1, l2, l3⟩
    cases rs with
    | cons n rs => cases e1
    | nil =>
      walk_at "mi"
      have e2 : g = gcdN 0 ns := e2
      rw [e2]
      exact q
theorem gcdN_mul (f : Nat) : ∀ (g : Nat) (ns ms : List Int), ms.map Int.natAbs = ns.map (fun n => n.natAbs * f) → gcdN (g * f) ms = gcdN g ns * f
  | g, [], [], _ => rfl
  | g, n :: ns, m :: ms, h => by
    simp only [List.map_cons, List.cons.injEq] at h
    show gcdN (Nat.gcd (g * f) m.natAbs) ms = gcdN (Nat.gcd g n.natAbs) ns * f
    rw [h.1, Nat.gcd_mul_right]
    exact gcdN_mul f _ ns ms h.2
  | g, [], m :: ms, h => by cases h
  | g, n :: ns, [], h => by cases h
theorem gcdN_le (k : Nat) : ∀ (g : Nat) (ns : List Int), g < 2 ^ k → (∀ n ∈ ns, Sz k n) → gcdN g ns < 2 ^ k
  | g, [], h, _ => h
  | g, n :: ns, h, a => by
    refine gcdN_le k _ ns ?_ fun m hm => a m (List.mem_cons_of_mem _ hm)
    have hn : n.natAbs < 2 ^ k := a n (List.mem_cons_self ..)
    rcases Nat.eq_zero_or_pos g with e | e
    · rw [e, Nat.gcd_zero_left]; exact hn
    · exact Nat.lt_of_le_of_lt (Nat.gcd_le_left _ e) h
end Mi
set_option Elab.async false
set_option linter.all false
set_option maxRecDepth 100000
namespace Mi
open PySem L2 PyProof.Rows
def b__law_plain (i__law_divisor : Nat) : Cms :=
  (.cons (.set 1 (.call i__law_divisor (.cons (.var 0) .nil)))
  (.cons (.iff (.cmp .lt (.sub (.lc (.var 2) (.one 2) (.seq (.var 0)) (.so (.cmp .ne (.var 2) (.int 0))) [2]) (.neg (.int 1))) (.int 0))
  (.cons (.set 1 (.bin .sub (.int 0) (.var 1)))
  .nil)
  .nil)
  (.cons (.ret (.blt .tuple (.cons (.lc (.bin .div (.var 2) (.var 1)) (.one 2) (.seq (.var 0)) .no [2]) .nil)))
  .nil)))
/-- the last that is no nought, else nought -/
def lastNZ : List Int → Int
  | [] => 0
  | n :: r => if lastNZ r = 0 then n else lastNZ r
def byOf (ns : List Int) : Int := if lastNZ ns < 0 then 0 - (gcdN 0 ns : Int) else (gcdN 0 ns : Int)
def plainOf (ns : List Int) : List Int := ns.map fun n => n.fdiv (byOf ns)
structure Plain (ns : List Int) : Prop where
  g : gcdN 0 ns = 1
  l : 0 < lastNZ ns
def T__law_plain (ds : List D) (Q : D → List D → Prop) (E : Xn → List D → Prop) : Prop := ∃ (ns : List Int) (x : D) (k : Nat), ds = [x] ∧ itemsOf x = some (ns.map PyData.int) ∧ isScr x = false ∧ (ns.length < 1000 ∧ k < 8000 ∧ ∀ n ∈ ns, Sz k n) ∧ lastNZ ns ≠ 0 ∧ Q (.tuple ((plainOf ns).map PyData.int)) [.none]
def f__law_plain : FI := ⟨"_law_plain", ["numbers"], [false], false, T__law_plain⟩
local macro_rules | `(tactic| walk_at "mi") => `(tactic| try simp only [↓bodyT, entry, entryGo, nones, outsOf, outsFrom, ↓wpSs, ↓wpS, ↓wpE, ↓wpT, ↓wpAs, ↓wpVs, ↓wpO, ↓wpC, ↓wpI, ↓arg, asVar, look, dat, dats, bop_add, bop_sub, bop_mul, bop_div, bop_mod, bop_pow, bop_lists, bop_tups, cop_eq, cop_ne, cop_lt, cop_le, cop_gt, cop_ge, sbs_list, sbs_tup, sbs_scr, slcd_list, slcd_tup, blt_len, blt_abs, blt_max2, blt_min2, blt_sum, blt_tupl, blt_tupt, blt_listl, blt_listt, blt_all, blt_any, blt_int, items_list, items_tup, items_scr, isOwn_own, isOwn_lent, isOwn_fro, isOwn_no, isLent_own, isLent_lent, isLent_fro, isLent_no, reSl_two, reSl_no, reSl_none, frz_own, frz_lent, frz_fro, frz_no, tr_bool, tr_int, tr_none, tr_list, tr_tup, fl_own, fl_fro, bind_one, bind_tup, bind_list, aug_add, aug_sub, ↓setK, setsK, putAt, boolsOf, intsOf, onS_some, onS_none, at0, at1, at2, at3, ix0, back, backAt, newOf, f_divisor, f__law_divisor, f__law_plain, eq_self, Nat.reduceEqDiff, frzSrc, srcOf, srcOk, ↓lcL, wipeD, unwipe, ownL, isT_tup, isT_list, isT_int, isT_bool, isT_str, isT_none, scr_tup, scr_list, scr_int, scr_bool, scr_str, scr_none, cut_lo, cut_hi, List.drop_succ_cons, List.drop_zero, sz_int, Int.reduceBEq, beq_self_eq_true, id_eq, bne_self_eq_false, eqv_int, eqv_bool, eqv_tup, eqv_list, eqvA_nil, eqvA_cons, eqvA_nc, eqvA_cn, List.length_cons, List.length_nil, List.getElem?_cons_zero, List.getElem?_cons_succ, List.set_cons_zero, List.set_cons_succ, List.dropLast_cons₂, List.dropLast_singleton, Nat.reduceAdd, Nat.reduceSub, Nat.zero_add, Nat.add_zero, List.append_eq, List.cons_append, List.nil_append, List.map_cons, List.map_nil, List.all_cons, List.all_nil, List.any_cons, List.any_nil, List.contains_nil, decide_eq_true_eq, nc0, Int.natCast_one, nc2, nc3, nc4, Int.reduceLT, Int.reduceLE, Int.reduceNeg, decide_true, decide_false, Bool.false_eq_true, Bool.true_and, Bool.and_true, Bool.false_and, Bool.and_false, Bool.not_true, Bool.not_false, if_true, if_false, ite_self, true_and, and_true, Option.map_some, Option.map_none, Option.isSome_some, Option.isSome_none, reduceCtorEq, imp_self, false_and, and_false, false_imp_iff, true_imp_iff, ne_eq, not_true_eq_false, not_false_eq_true, Nat.reduceLeDiff, Nat.reduceLT, reduceIte, List.isEmpty_cons, List.isEmpty_nil, Int.reduceToNat, Nat.le_refl, Nat.zero_le, Bool.or_false, Bool.false_or, Bool.or_true, Bool.true_or, Nat.reduceEqDiff])
local macro_rules | `(tactic| walk_at "call") => `(tactic| refine call_at (by assumption) rfl (by first | exact List.nodup_nil | exact nodup_one _) rfl rfl ?_)
local macro_rules | `(tactic| walk_at "ret") => `(tactic| refine ret_go rfl rfl rfl ?_)
local macro_rules | `(tactic| walk_at "sz") => `(tactic| (apply okMul_of; (repeat first | assumption | exact sz_of (n := 256) (by decide) | exact sz_mod (by decide) (sz_of (n := 256) (by decide)) | apply sz_mul | apply sz_add | apply sz_sub | apply sz_neg); try omega))
theorem lastNZ_mem : ∀ {ns : List Int}, lastNZ ns ≠ 0 → lastNZ ns ∈ ns
  | [], h => absurd rfl h
  | n :: r, h => by
    unfold lastNZ at h ⊢
    by_cases e : lastNZ r = 0
    · rw [if_pos e]; exact List.mem_cons_self ..
    · rw [if_neg e]; exact List.mem_cons_of_mem _ (lastNZ_mem e)
theorem lastNZ_no : ∀ {ns : List Int}, lastNZ ns = 0 → ∀ n ∈ ns, n = 0
  | [], _, n, h => absurd h (List.not_mem_nil)
  | m :: r, e, n, h => by
    unfold lastNZ at e
    by_cases e1 : lastNZ r = 0
    · rw [if_pos e1] at e
      rcases List.mem_cons.mp h with rfl | h
      · exact e
      · exact lastNZ_no e1 n h
    · rw [if_neg e1] at e; exact absurd e e1
theorem lastNZ_mul {b : Int} (hb : b ≠ 0) : ∀ ms : List Int, lastNZ (ms.map fun m => m * b) = lastNZ ms * b
  | [] => by simp [lastNZ]
  | m :: r => by
    rw [List.map_cons]
    unfold lastNZ
    rw [lastNZ_mul hb r]
    by_cases e : lastNZ r = 0
    · rw [if_pos e, if_pos (by rw [e, Int.zero_mul])]
    · rw [if_neg e, if_neg (Int.mul_ne_zero e hb)]
theorem gcdN_dvd : ∀ (g : Nat) (ns : List Int), gcdN g ns ∣ g ∧ ∀ n ∈ ns, gcdN g ns ∣ n.natAbs
  | g, [] => ⟨Nat.dvd_refl g, fun n h => absurd h (List.not_mem_nil)⟩
  | g, m :: r => by
    obtain ⟨a, b⟩ := gcdN_dvd (Nat.gcd g m.natAbs) r
    refine ⟨Nat.dvd_trans a (Nat.gcd_dvd_left ..), fun n h => ?_⟩
    rcases List.mem_cons.mp h with rfl | h
    · exact Nat.dvd_trans a (Nat.gcd_dvd_right ..)
    · exact b n h
theorem gcdN_pos {ns : List Int} (h : lastNZ ns ≠ 0) : 0 < gcdN 0 ns := by
  rcases Nat.eq_zero_or_pos (gcdN 0 ns) with e | e
  · have := (gcdN_dvd 0 ns).2 _ (lastNZ_mem h)
    rw [e] at this
    have := Nat.eq_zero_of_zero_dvd this
    omega
  · exact e
theorem byOf_abs (ns : List Int) : (byOf ns).natAbs = gcdN 0 ns := by
  unfold byOf
  split <;> omega
theorem byOf_ne {ns : List Int} (h : lastNZ ns ≠ 0) : byOf ns ≠ 0 := by
  have := gcdN_pos h
  have := byOf_abs ns
  omega
theorem plainOf_by {ns : List Int} (h : lastNZ ns ≠ 0) : ns = (plainOf ns).map fun m => m * byOf ns := by
  have hb := byOf_ne h
  unfold plainOf
  rw [List.map_map]
  refine (List.map_id ns).symm.trans (List.map_congr_left fun n hn => ?_)
  have d : byOf ns ∣ n := by
    rw [← Int.natAbs_dvd_natAbs, byOf_abs]
    exact (gcdN_dvd 0 ns).2 n hn
  obtain ⟨c, rfl⟩ := d
  show byOf ns * c = (byOf ns * c).fdiv (byOf ns) * byOf ns
  rw [Int.mul_fdiv_cancel_left _ hb, Int.mul_comm]
theorem plainOf_ok {ns : List Int} (h : lastNZ ns ≠ 0) : Plain (plainOf ns) := by
  have hb := byOf_ne h
  have e := plainOf_by h
  have g := gcdN_pos h
  constructor
  · have e2 := gcdN_mul (byOf ns).natAbs 0 (plainOf ns) ns (by
      conv => lhs; rw [e]
      rw [List.map_map]
      refine List.map_congr_left fun n _ => ?_
      exact Int.natAbs_mul _ _)
    rw [Nat.zero_mul, byOf_abs] at e2
    have : gcdN 0 (plainOf ns) * gcdN 0 ns = 1 * gcdN 0 ns := by omega
    exact Nat.eq_of_mul_eq_mul_right g this
  · have e2 : lastNZ ns = lastNZ (plainOf ns) * byOf ns := by
      conv => lhs; rw [e]
      exact lastNZ_mul hb _
    by_cases s : lastNZ ns < 0
    · have bn : byOf ns < 0 := by unfold byOf; rw [if_pos s]; omega
      rcases Int.lt_trichotomy (lastNZ (plainOf ns)) 0 with l | l | l
      · have := Int.mul_pos_of_neg_of_neg l bn
        omega
      · rw [l, Int.zero_mul] at e2; omega
      · exact l
    · have bn : 0 < byOf ns := by unfold byOf; rw [if_neg s]; omega
      rcases Int.lt_trichotomy (lastNZ (plainOf ns)) 0 with l | l | l
      · have := Int.mul_neg_of_neg_of_pos l bn
        omega
      · rw [l, Int.zero_mul] at e2; omega
      · exact l
theorem plainOf_sz {ns : List Int} {k : Nat} (h : lastNZ ns ≠ 0) (s : ∀ n ∈ ns, Sz k n) : ∀ m ∈ plainOf ns, Sz k m := by
  intro m hm
  have hb := byOf_ne h
  have : m * byOf ns ∈ ns := by
    have e := plainOf_by h
    have : m * byOf ns ∈ (plainOf ns).map fun m => m * byOf ns := List.mem_map.mpr ⟨m, hm, rfl⟩
    rwa [← e] at this
  have := s _ this
  unfold Sz at *
  rw [Int.natAbs_mul] at this
  have : m.natAbs ≤ m.natAbs * (byOf ns).natAbs := Nat.le_mul_of_pos_right _ (by omega)
  omega
theorem plainOf_len (ns : List Int) : (plainOf ns).length = ns.length := List.length_map ..
theorem filt_last : ∀ ns : List Int, (ns.filter fun n => n != 0).getLast? = if lastNZ ns = 0 then none else some (lastNZ ns)
  | [] => rfl
  | n :: r => by
    have ih := filt_last r
    by_cases e : n = 0
    · subst e
      rw [List.filter_cons_of_neg (by decide), ih]
      show _ = if (if lastNZ r = 0 then (0 : Int) else lastNZ r) = 0 then none else some (if lastNZ r = 0 then (0 : Int) else lastNZ r)
      by_cases e1 : lastNZ r = 0
      · simp [e1]
      · simp [e1]
    · rw [List.filter_cons_of_pos (by simpa using e), List.getLast?_cons, ih]
      show _ = if (if lastNZ r = 0 then n else lastNZ r) = 0 then none else some (if lastNZ r = 0 then n else lastNZ r)
      by_cases e1 : lastNZ r = 0
      · simp [e1, e]
      · simp [e1]
theorem at_last {α : Type} (xs : List α) : atI xs (-1) = xs.getLast? := by
  unfold atI ixN
  rw [if_neg (by decide)]
  cases xs with
  | nil => rfl
  | cons x r =>
    rw [if_pos (by simp only [List.length_cons]; omega), List.getLast?_eq_getElem?]
    simp only [Option.bind_some]
    congr 1
    simp only [List.length_cons]
    omega
theorem filt_at {ns : List Int} (h : lastNZ ns ≠ 0) : atI ((ns.filter fun n => n != 0).map PyData.int) (-1) = some (.int (lastNZ ns)) := by
  rw [at_last, List.getLast?_map, filt_last, if_neg h]
  rfl
theorem t__law_plain {G : Gd} (i : Nat) (h1 : G.fs[i]? = some f__law_divisor) (ds : List D) (Q : D → List D → Prop) (E : Xn → List D → Prop) (h : T__law_plain ds Q E) : bodyT G 3 [false] false (b__law_plain i) ds Q E := by
  obtain ⟨ns, x, k, rfl, hx, hs, ⟨hl, hk, sz⟩, hz, q⟩ := h
  unfold b__law_plain
  walk_at "mi"
  walk_at "call"
  refine ⟨ns, x, rfl, hx, hs, ?_⟩
  walk_at "ret"
  walk_at "mi"
  rw [hx, onS_some]
  refine lc_of (fun xs acc δ => ∃ (a b : List Int), ns = a ++ b ∧ xs = b.map PyData.int ∧ acc = (a.filter fun n => n != 0).map PyData.int ∧ δ = [some (x, .fro), some (.int (gcdN 0 ns), .fro), none]) _ _ _ ?_ ?_ ?_
  · exact ⟨[], ns, rfl, rfl, rfl, rfl⟩
  · rintro y xs acc δ K ⟨a, b, e1, e2, rfl, rfl⟩ fin
    cases b with
    | nil => cases e2
    | cons z b =>
      rw [List.map_cons] at e2
      obtain ⟨rfl, rfl⟩ := List.cons.inj e2
      walk_at "mi"
      have la : a.length < 1000 := by
        have := congrArg List.length e1
        simp at this
        omega
      by_cases e : z = 0
      · subst e
        walk_at "mi"
        exact fin _ _ ⟨a ++ [0], b, by rw [e1]; simp, rfl, by simp, rfl⟩
      · have ez : (z == 0) = false := by simpa using e
        simp only [ez]
        walk_at "mi"
        refine ⟨Nat.lt_of_le_of_lt (Nat.le_of_eq (List.length_map ..)) (Nat.lt_of_le_of_lt (List.length_filter_le ..) (by omega)), fin _ _ ⟨a ++ [z], b, by rw [e1]; simp, rfl, ?_, rfl⟩⟩
        rw [List.filter_append, List.filter_cons_of_pos (by simpa using e)]
        simp
  · rintro acc δ ⟨a, b, e1, e2, rfl, rfl⟩
    cases b with
    | cons z b => cases e2
    | nil =>
      rw [List.append_nil] at e1
      subst e1
      walk_at "mi"
      rw [filt_at hz]
      walk_at "mi"
      have key : ∀ by' : Int, by' = byOf ns → lcL none (ns.map PyData.int) [2] (bindT (Tg.one 2)) (fun δ2 k => k true δ2) (fun δ2 k => Option.isSome (look δ2 2) = true ∧ Option.isSome (look δ2 1) = true ∧
          (match Option.map (fun x => x.fst) (look δ2 2), Option.map (fun x => x.fst) (look δ2 1) with
          | some d, some e => bop BOp.div d e fun r f => k r δ2
          | _, _ => False)) (fun acc δ2 => Q (PyData.tuple acc) [PyData.none]) (ns.map PyData.int) [] [some (x, .fro), some (.int by', .fro), none] := by
        rintro by' rfl
        refine lc_of (fun xs acc δ => ∃ (a b : List Int), ns = a ++ b ∧ xs = b.map PyData.int ∧ acc = (a.map fun n => n.fdiv (byOf ns)).map PyData.int ∧ δ = [some (x, .fro), some (.int (byOf ns), .fro), none]) _ _ _ ?_ ?_ ?_
        · exact ⟨[], ns, rfl, rfl, rfl, rfl⟩
        · rintro y xs acc δ K ⟨a, b, e1, e2, rfl, rfl⟩ fin
          cases b with
          | nil => cases e2
          | cons z b =>
            rw [List.map_cons] at e2
            obtain ⟨rfl, rfl⟩ := List.cons.inj e2
            walk_at "mi"
            have la : a.length < 1000 := by
              have := congrArg List.length e1
              simp at this
              omega
            have sb : Sz k (byOf ns) := by
              have := sz _ (lastNZ_mem hz)
              unfold Sz at *
              rw [byOf_abs]
              have d := Nat.le_of_dvd (by omega) ((gcdN_dvd 0 ns).2 _ (lastNZ_mem hz))
              omega
            exact ⟨okDiv_of (byOf_ne hz) sb (by omega), by simp only [List.length_map]; omega, fin _ _ ⟨a ++ [z], b, by rw [e1]; simp, rfl, by simp, rfl⟩⟩
        · rintro acc δ ⟨a, b, e1, e2, rfl, rfl⟩
          cases b with
          | cons z b => cases e2
          | nil =>
            rw [List.append_nil] at e1
            rw [← e1]
            exact q
      rw [hx]
      simp only [onS_some]
      split
      · exact key _ (by unfold byOf; rw [if_pos (by assumption)])
      · exact key _ (by unfold byOf; rw [if_neg (by assumption)])
end Mi
set_option Elab.async false
set_option linter.all false
set_option maxRecDepth 100000
namespace Mi
open PySem L2 PyProof.Rows
def b__law_spot (i__law_plain : Nat) (i__law_number : Nat) : Cms :=
  (.cons (.set 2 (.lc (.call i__law_number (.cons (.var 0) (.cons (.var 1) .nil))) (.one 3) (.rng1 (.int 3)) .no [3]))
  (.cons (.iff (.cmp .eq (.var 2) (.lst (.cons (.int 0) (.cons (.int 0) (.cons (.int 0) .nil)))))
  (.cons (.set 2 (.lst (.cons (.int 0) (.cons (.int 0) (.cons (.int 1) .nil)))))
  .nil)
  .nil)
  (.cons (.ret (.call i__law_plain (.cons (.var 2) .nil)))
  .nil)))
def b__law_cross : Cms :=
  (.cons (.set 2 (.lst .nil))
  (.cons (.for (.one 3) (.rng1 (.int 3))
  (.cons (.app 2 (.bin .sub (.bin .mul (.sub (.var 0) (.bin .sub (.var 3) (.int 2))) (.sub (.var 1) (.bin .sub (.var 3) (.int 1)))) (.bin .mul (.sub (.var 0) (.bin .sub (.var 3) (.int 1))) (.sub (.var 1) (.bin .sub (.var 3) (.int 2))))))
  .nil))
  (.cons (.ret (.blt .tuple (.cons (.var 2) .nil)))
  .nil)))
def b__law_dot : Cms :=
  (.cons (.ret (.blt .sum (.cons (.lc (.bin .mul (.var 2) (.var 3)) (.many [2, 3]) (.zip (.var 0) (.var 1)) .no [2, 3]) .nil)))
  .nil)
def b__law_mixed (i__law_plain : Nat) (i__law_number : Nat) : Cms :=
  (.cons (.set 3 (.call i__law_number (.cons (.var 2) (.cons (.bin .pow (.int 10) (.int 20)) .nil))))
  (.cons (.set 4 (.call i__law_number (.cons (.var 2) (.cons (.bin .pow (.int 10) (.int 20)) .nil))))
  (.cons (.set 5 (.lc (.bin .add (.bin .mul (.var 3) (.var 6)) (.bin .mul (.var 4) (.var 7))) (.many [6, 7]) (.zip (.var 0) (.var 1)) .no [6, 7]))
  (.cons (.iff (.cmp .eq (.var 5) (.lst (.cons (.int 0) (.cons (.int 0) (.cons (.int 0) .nil)))))
  (.cons (.ret (.var 0))
  .nil)
  .nil)
  (.cons (.ret (.call i__law_plain (.cons (.var 5) .nil)))
  .nil)))))
def b_lies_on (i_dot : Nat) : Cms :=
  (.cons (.ret (.cmp .eq (.call i_dot (.cons (.var 0) (.cons (.var 1) .nil))) (.int 0)))
  .nil)
structure V3 where
  x : Int
  y : Int
  z : Int
  deriving DecidableEq
def V3.l (v : V3) : List Int := [v.x, v.y, v.z]
def V3.d (v : V3) : D := .tuple [.int v.x, .int v.y, .int v.z]
def V3.sz (n : Nat) (v : V3) : Prop := Sz n v.x ∧ Sz n v.y ∧ Sz n v.z
def cro (a b : V3) : V3 := ⟨a.y * b.z - a.z * b.y, a.z * b.x - a.x * b.z, a.x * b.y - a.y * b.x⟩
def dt (a b : V3) : Int := a.x * b.x + a.y * b.y + a.z * b.z
def T__law_spot (ds : List D) (Q : D → List D → Prop) (E : Xn → List D → Prop) : Prop := ∃ (r : List D) (m : Int) (k : Nat), ds = [.list r, .int m] ∧ isRest r ∧ 0 < m ∧ (m + 21 < 2 ^ k ∧ k < 7000) ∧ ∀ (v : V3) r', Plain v.l → v.sz k → isRest r' → Q v.d [.list r', .none]
def T__law_cross (ds : List D) (Q : D → List D → Prop) (E : Xn → List D → Prop) : Prop := ∃ (a b : V3) (n : Nat), ds = [a.d, b.d] ∧ (a.sz n ∧ b.sz n ∧ n < 100000) ∧ Q (cro a b).d [.none, .none]
def T__law_dot (ds : List D) (Q : D → List D → Prop) (E : Xn → List D → Prop) : Prop := ∃ (a b : V3) (n : Nat), ds = [a.d, b.d] ∧ (a.sz n ∧ b.sz n ∧ n < 100000) ∧ Q (.int (dt a b)) [.none, .none]
def T__law_mixed (ds : List D) (Q : D → List D → Prop) (E : Xn → List D → Prop) : Prop := ∃ (a b : V3) (r : List D) (n : Nat), ds = [a.d, b.d, .list r] ∧ (a.sz n ∧ b.sz n ∧ n < 5000) ∧ isRest r ∧ ∀ (v : V3) r', (v = a ∨ Plain v.l) → v.sz (n + 68) → isRest r' → Q v.d [.none, .none, .list r']
def T_lies_on (ds : List D) (Q : D → List D → Prop) (E : Xn → List D → Prop) : Prop := ∃ (a b : V3) (n : Nat), ds = [a.d, b.d] ∧ (a.sz n ∧ b.sz n ∧ n < 100000) ∧ Q (.bool (dt a b == 0)) [.none, .none]
def f__law_spot : FI := ⟨"_law_spot", ["rest", "far"], [true, false], false, T__law_spot⟩
def f__law_cross : FI := ⟨"_law_cross", ["one", "other"], [false, false], false, T__law_cross⟩
def f__law_dot : FI := ⟨"_law_dot", ["one", "other"], [false, false], false, T__law_dot⟩
def f__law_mixed : FI := ⟨"_law_mixed", ["one", "other", "rest"], [false, false, true], false, T__law_mixed⟩
def f_lies_on : FI := ⟨"lies_on", ["spot", "line"], [false, false], false, T_lies_on⟩
local macro_rules | `(tactic| walk_at "mi") => `(tactic| try simp only [↓bodyT, entry, entryGo, nones, outsOf, outsFrom, ↓wpSs, ↓wpS, ↓wpE, ↓wpT, ↓wpAs, ↓wpVs, ↓wpO, ↓wpC, ↓wpI, ↓arg, asVar, look, dat, dats, bop_add, bop_sub, bop_mul, bop_div, bop_mod, bop_pow, bop_lists, bop_tups, cop_eq, cop_ne, cop_lt, cop_le, cop_gt, cop_ge, sbs_list, sbs_tup, sbs_scr, slcd_list, slcd_tup, blt_len, blt_abs, blt_max2, blt_min2, blt_sum, blt_tupl, blt_tupt, blt_listl, blt_listt, blt_all, blt_any, blt_int, items_list, items_tup, items_scr, isOwn_own, isOwn_lent, isOwn_fro, isOwn_no, isLent_own, isLent_lent, isLent_fro, isLent_no, reSl_two, reSl_no, reSl_none, frz_own, frz_lent, frz_fro, frz_no, tr_bool, tr_int, tr_none, tr_list, tr_tup, fl_own, fl_fro, bind_one, bind_tup, bind_list, aug_add, aug_sub, ↓setK, setsK, putAt, boolsOf, intsOf, onS_some, onS_none, at0, at1, at2, at3, ix0, back, backAt, newOf, f_divisor, f__law_divisor, f__law_plain, f_dot, f_cross, f__law_number, f__law_spot, f__law_cross, f__law_dot, f__law_mixed, f_lies_on, eq_self, Nat.reduceEqDiff, frzSrc, srcOf, srcOk, ↓lcL, wipeD, unwipe, ownL, isT_tup, isT_list, isT_int, isT_bool, isT_str, isT_none, scr_tup, scr_list, scr_int, scr_bool, scr_str, scr_none, cut_lo, cut_hi, List.drop_succ_cons, List.drop_zero, sz_int, Int.reduceBEq, beq_self_eq_true, id_eq, bne_self_eq_false, eqv_int, eqv_bool, eqv_tup, eqv_list, eqvA_nil, eqvA_cons, eqvA_nc, eqvA_cn, List.length_cons, List.length_nil, List.getElem?_cons_zero, List.getElem?_cons_succ, List.set_cons_zero, List.set_cons_succ, List.dropLast_cons₂, List.dropLast_singleton, Nat.reduceAdd, Nat.reduceSub, Nat.zero_add, Nat.add_zero, List.append_eq, List.cons_append, List.nil_append, List.map_cons, List.map_nil, List.all_cons, List.all_nil, List.any_cons, List.any_nil, List.contains_nil, decide_eq_true_eq, nc0, Int.natCast_one, nc2, nc3, nc4, Int.reduceLT, Int.reduceLE, Int.reduceNeg, decide_true, decide_false, Bool.false_eq_true, Bool.true_and, Bool.and_true, Bool.false_and, Bool.and_false, Bool.not_true, Bool.not_false, if_true, if_false, ite_self, true_and, and_true, Option.map_some, Option.map_none, Option.isSome_some, Option.isSome_none, reduceCtorEq, imp_self, false_and, and_false, false_imp_iff, true_imp_iff, ne_eq, not_true_eq_false, not_false_eq_true, Nat.reduceLeDiff, Nat.reduceLT, reduceIte, List.isEmpty_cons, List.isEmpty_nil, Int.reduceToNat, Int.reduceSub, Int.reduceAdd, zipD, List.sum_cons, List.sum_nil, am1, am2, Nat.le_refl, Nat.zero_le, Bool.or_false, Bool.false_or, Bool.or_true, Bool.true_or, Nat.reduceEqDiff])
local macro_rules | `(tactic| walk_at "call") => `(tactic| refine call_at (by assumption) rfl (by first | exact List.nodup_nil | exact nodup_one _) rfl rfl ?_)
local macro_rules | `(tactic| walk_at "ret") => `(tactic| refine ret_go rfl rfl rfl ?_)
local macro_rules | `(tactic| walk_at "sz") => `(tactic| (apply okMul_of; (repeat first | assumption | exact sz_of (n := 256) (by decide) | exact sz_mod (by decide) (sz_of (n := 256) (by decide)) | apply sz_mul | apply sz_add | apply sz_sub | apply sz_neg); try omega))
theorem nz3 {a b c : Int} (h : (a == 0 && (b == 0 && c == 0)) = false) : lastNZ [a, b, c] ≠ 0 := by
  intro e
  have z := lastNZ_no e
  have e1 := z a (by simp)
  have e2 := z b (by simp)
  have e3 := z c (by simp)
  subst e1 e2 e3
  cases h
theorem plain3 {a b c : Int} {k : Nat} (h : (a == 0 && (b == 0 && c == 0)) = false) (s : Sz k a ∧ Sz k b ∧ Sz k c) : ∃ v : V3, PyData.tuple ((plainOf [a, b, c]).map PyData.int) = v.d ∧ Plain v.l ∧ v.sz k := by
  have nz := nz3 h
  have p := plainOf_sz (k := k) nz (by
    intro n hn
    rcases List.mem_cons.mp hn with rfl | hn
    · exact s.1
    · rcases List.mem_cons.mp hn with rfl | hn
      · exact s.2.1
      · rw [List.mem_singleton.mp hn]; exact s.2.2)
  exact ⟨⟨a.fdiv (byOf [a, b, c]), b.fdiv (byOf [a, b, c]), c.fdiv (byOf [a, b, c])⟩, rfl, plainOf_ok nz, p _ (by simp [plainOf]), p _ (by simp [plainOf]), p _ (by simp [plainOf])⟩
theorem t__law_cross {G : Gd} (ds : List D) (Q : D → List D → Prop) (E : Xn → List D → Prop) (h : T__law_cross ds Q E) : bodyT G 4 [false, false] false b__law_cross ds Q E := by
  obtain ⟨a, b, n, rfl, ⟨⟨a1, a2, a3⟩, ⟨b1, b2, b3⟩, hn⟩, q⟩ := h
  have m : ∀ {x y : Int}, Sz n x → Sz n y → okMul x y := fun h g => okMul_of h g (by omega)
  unfold b__law_cross
  unfold V3.d
  walk_at "mi"
  refine ⟨okR3, ?_⟩
  rw [rng3]
  simp only [forL]
  walk_at "mi"
  exact ⟨m a2 b3, m a3 b2, m a3 b1, m a1 b3, m a1 b2, m a2 b1, q⟩
theorem t__law_dot {G : Gd} (ds : List D) (Q : D → List D → Prop) (E : Xn → List D → Prop) (h : T__law_dot ds Q E) : bodyT G 4 [false, false] false b__law_dot ds Q E := by
  obtain ⟨a, b, n, rfl, ⟨⟨a1, a2, a3⟩, ⟨b1, b2, b3⟩, hn⟩, q⟩ := h
  have m : ∀ {x y : Int}, Sz n x → Sz n y → okMul x y := fun h g => okMul_of h g (by omega)
  unfold b__law_dot
  unfold V3.d
  walk_at "mi"
  have e : a.x * b.x + (a.y * b.y + (a.z * b.z + 0)) = dt a b := by unfold dt; omega
  rw [e]
  exact ⟨m a1 b1, m a2 b2, m a3 b3, q⟩
theorem t_lies_on {G : Gd} (i : Nat) (h1 : G.fs[i]? = some f_dot) (ds : List D) (Q : D → List D → Prop) (E : Xn → List D → Prop) (h : T_lies_on ds Q E) : bodyT G 2 [false, false] false (b_lies_on i) ds Q E := by
  obtain ⟨a, b, n, rfl, ⟨⟨a1, a2, a3⟩, ⟨b1, b2, b3⟩, hn⟩, q⟩ := h
  unfold b_lies_on
  walk_at "mi"
  walk_at "call"
  refine ⟨n, _, _, _, _, _, _, rfl, ⟨by omega, a1, a2, a3, b1, b2, b3⟩, ?_⟩
  walk_at "ret"
  walk_at "mi"
  exact q
theorem t__law_spot {G : Gd} (i j : Nat) (h1 : G.fs[i]? = some f__law_plain) (h2 : G.fs[j]? = some f__law_number) (ds : List D) (Q : D → List D → Prop) (E : Xn → List D → Prop) (h : T__law_spot ds Q E) : bodyT G 4 [true, false] false (b__law_spot i j) ds Q E := by
  obtain ⟨r, m, k, rfl, hr, hm, ⟨hk, hk2⟩, q⟩ := h
  have sm : Sz 7000 m := by
    have : Sz k m := by
      unfold Sz
      have : ((2 ^ k : Nat) : Int) = (2 : Int) ^ k := by norm_cast
      omega
    exact sz_le this (by omega)
  have sv : ∀ v : Int, v < m + 21 ∧ -v < m + 21 → Sz k v := fun v h => by
    unfold Sz
    have : ((2 ^ k : Nat) : Int) = (2 : Int) ^ k := by norm_cast
    omega
  unfold b__law_spot
  walk_at "mi"
  refine ⟨okR3, ?_⟩
  rw [rng3]
  walk_at "mi"
  walk_at "call"
  refine ⟨r, m, rfl, hr, hm, sm, fun a r1 ha hr1 => ?_⟩
  refine ret_go rfl (rest_lent hr1) rfl ?_
  walk_at "mi"
  walk_at "call"
  refine ⟨r1, m, rfl, hr1, hm, sm, fun b r2 hb hr2 => ?_⟩
  refine ret_go rfl (rest_lent hr2) rfl ?_
  walk_at "mi"
  walk_at "call"
  refine ⟨r2, m, rfl, hr2, hm, sm, fun c r3 hc hr3 => ?_⟩
  refine ret_go rfl (rest_lent hr3) rfl ?_
  walk_at "mi"
  refine ⟨cmp_lists [a, b, c] [0, 0, 0], ?_⟩
  by_cases e : (a == 0 && (b == 0 && c == 0)) = true
  · rw [if_pos e]
    obtain ⟨v, v1, v2, v3⟩ := plain3 (a := 0) (b := 0) (c := 1) (k := k) rfl ⟨sv 0 (by omega), sv 0 (by omega), sv 1 (by omega)⟩
    walk_at "call"
    refine ⟨[0, 0, 1], _, k, rfl, rfl, rfl, ⟨by decide, by omega, ?_⟩, nz3 rfl, ?_⟩
    · intro n hn
      rcases List.mem_cons.mp hn with rfl | hn
      · exact sv 0 (by omega)
      · rcases List.mem_cons.mp hn with rfl | hn
        · exact sv 0 (by omega)
        · rw [List.mem_singleton.mp hn]; exact sv 1 (by omega)
    · rw [v1]
      walk_at "ret"
      walk_at "mi"
      exact q v r3 v2 v3 hr3
  · rw [if_neg e]
    have e : (a == 0 && (b == 0 && c == 0)) = false := by simpa using e
    obtain ⟨v, v1, v2, v3⟩ := plain3 (k := k) e ⟨sv a ha, sv b hb, sv c hc⟩
    walk_at "call"
    refine ⟨[a, b, c], _, k, rfl, rfl, rfl, ⟨by show 3 < 1000; decide, by omega, ?_⟩, nz3 e, ?_⟩
    · intro n hn
      rcases List.mem_cons.mp hn with rfl | hn
      · exact sv n ha
      · rcases List.mem_cons.mp hn with rfl | hn
        · exact sv n hb
        · rw [List.mem_singleton.mp hn]; exact sv c hc
    · rw [v1]
      walk_at "ret"
      walk_at "mi"
      exact q v r3 v2 v3 hr3
theorem rest_lent3 {r : List D} {d e : D} (h : isRest r) : lentsOk [false, false, true] [d, e, .list r] = true := by
  rcases h with ⟨a, rfl⟩ | ⟨a, b, rfl⟩ <;> rfl
theorem t__law_mixed {G : Gd} (i j : Nat) (h1 : G.fs[i]? = some f__law_plain) (h2 : G.fs[j]? = some f__law_number) (ds : List D) (Q : D → List D → Prop) (E : Xn → List D → Prop) (h : T__law_mixed ds Q E) : bodyT G 8 [false, false, true] false (b__law_mixed i j) ds Q E := by
  obtain ⟨a, b, r, n, rfl, ⟨⟨a1, a2, a3⟩, ⟨b1, b2, b3⟩, hn⟩, hr, q⟩ := h
  have big : Sz 7000 ((10 : Int) ^ 20) := sz_le (a := 250) (sz_of (by decide)) (by decide)
  have sv : ∀ v : Int, v < 10 ^ 20 + 21 ∧ -v < 10 ^ 20 + 21 → Sz 67 v := fun v h => by
    unfold Sz
    have : (10 : Nat) ^ 20 + 21 < 2 ^ 67 := by decide
    omega
  unfold b__law_mixed
  unfold V3.d
  walk_at "mi"
  refine ⟨⟨by decide, by decide, by decide⟩, ?_⟩
  walk_at "call"
  refine ⟨r, _, rfl, hr, by decide, big, fun s r1 hs hr1 => ?_⟩
  refine ret_go rfl (rest_lent hr1) rfl ?_
  walk_at "mi"
  refine ⟨⟨by decide, by decide, by decide⟩, ?_⟩
  walk_at "call"
  refine ⟨r1, _, rfl, hr1, by decide, big, fun t r2 ht hr2 => ?_⟩
  refine ret_go rfl (rest_lent hr2) rfl ?_
  walk_at "mi"
  have m : ∀ {x y : Int}, Sz 67 x → Sz n y → okMul x y := fun h g => okMul_of h g (by omega)
  have hs := sv s hs
  have ht := sv t ht
  have w : ∀ {x y : Int}, Sz n x → Sz n y → Sz (n + 68) (s * x + t * y) := fun h g => sz_le (sz_add (sz_mul hs h) (sz_mul ht g)) (by omega)
  refine ⟨m hs a1, m ht b1, m hs a2, m ht b2, m hs a3, m ht b3, cmp_lists [_, _, _] [0, 0, 0], ?_⟩
  by_cases e : (s * a.x + t * b.x == 0 && (s * a.y + t * b.y == 0 && s * a.z + t * b.z == 0)) = true
  · rw [if_pos e]
    exact q a r2 (.inl rfl) ⟨sz_le a1 (by omega), sz_le a2 (by omega), sz_le a3 (by omega)⟩ hr2
  · rw [if_neg e]
    have e : (s * a.x + t * b.x == 0 && (s * a.y + t * b.y == 0 && s * a.z + t * b.z == 0)) = false := by simpa using e
    obtain ⟨v, v1, v2, v3⟩ := plain3 (k := n + 68) e ⟨w a1 b1, w a2 b2, w a3 b3⟩
    walk_at "call"
    refine ⟨[_, _, _], _, n + 68, rfl, rfl, rfl, ⟨by show 3 < 1000; decide, by omega, ?_⟩, nz3 e, ?_⟩
    · intro y hn
      rcases List.mem_cons.mp hn with rfl | hn
      · exact w a1 b1
      · rcases List.mem_cons.mp hn with rfl | hn
        · exact w a2 b2
        · rw [List.mem_singleton.mp hn]; exact w a3 b3
    · rw [v1]
      walk_at "ret"
      walk_at "mi"
      exact q v r2 (.inr v2) v3 hr2
end Mi
set_option Elab.async false
set_option linter.all false
set_option maxRecDepth 100000
namespace Mi
open PySem L2 PyProof.Rows
def b_on_line (i_lies_on : Nat) (i_cross : Nat) : Cms :=
  (.cons (.for (.one 1) (.seq (.var 0))
  (.cons (.iff (.cmp .ne (.var 1) (.sub (.var 0) (.int 0)))
  (.cons (.set 2 (.call i_cross (.cons (.sub (.var 0) (.int 0)) (.cons (.var 1) .nil))))
  (.cons (.ret (.blt .all (.cons (.lc (.call i_lies_on (.cons (.var 3) (.cons (.var 2) .nil))) (.one 3) (.seq (.var 0)) .no [3]) .nil)))
  .nil))
  .nil)
  .nil))
  (.cons (.ret (.bl true))
  .nil))
def b_through_spot (i_on_line : Nat) : Cms :=
  (.cons (.ret (.call i_on_line (.cons (.var 0) .nil)))
  .nil)
def b__law_lie (i__law_dot : Nat) (i__law_cross : Nat) : Cms :=
  (.cons (.for (.one 1) (.rng1 (.blt .len (.cons (.var 0) .nil)))
  (.cons (.for (.one 2) (.rng1 (.var 1))
  (.cons (.set 3 (.call i__law_cross (.cons (.sub (.var 0) (.var 2)) (.cons (.sub (.var 0) (.var 1)) .nil))))
  (.cons (.for (.one 4) (.rng1 (.var 2))
  (.cons (.iff (.cmp .ne (.call i__law_dot (.cons (.var 3) (.cons (.sub (.var 0) (.var 4)) .nil))) (.int 0))
  (.cons (.ret (.bl false))
  .nil)
  .nil)
  .nil))
  .nil)))
  .nil))
  (.cons (.ret (.bl true))
  .nil))
def onlFrom (a : V3) (all : List V3) : List V3 → Bool
  | [] => true
  | s :: r => if s = a then onlFrom a all r else all.all fun o => dt o (cro a s) == 0
def onl (rows : List V3) : Bool := onlFrom (rows.headD ⟨0, 0, 0⟩) rows rows
def Lie (rows : List V3) : Prop := ∀ a ∈ rows, ∀ b ∈ rows, ∀ c ∈ rows, dt (cro a b) c = 0
def T_on_line (ds : List D) (Q : D → List D → Prop) (E : Xn → List D → Prop) : Prop := ∃ (rows : List V3) (n : Nat), ds = [.list (rows.map V3.d)] ∧ (rows.length < 1000 ∧ n < 20000 ∧ ∀ v ∈ rows, v.sz n) ∧ Q (.bool (onl rows)) [.none]
def T__law_lie (ds : List D) (Q : D → List D → Prop) (E : Xn → List D → Prop) : Prop := ∃ (rows : List V3) (n : Nat), ds = [.list (rows.map V3.d)] ∧ (rows.length < 1000 ∧ n < 20000 ∧ ∀ v ∈ rows, v.sz n) ∧ ∀ b, (b = true ↔ Lie rows) → Q (.bool b) [.none]
def f_on_line : FI := ⟨"on_line", ["spots"], [false], false, T_on_line⟩
def f_through_spot : FI := ⟨"through_spot", ["lines"], [false], false, T_on_line⟩
def f__law_lie : FI := ⟨"_law_lie", ["spots"], [false], false, T__law_lie⟩
local macro_rules | `(tactic| walk_at "mi") => `(tactic| try simp only [↓bodyT, entry, entryGo, nones, outsOf, outsFrom, ↓wpSs, ↓wpS, ↓wpE, ↓wpT, ↓wpAs, ↓wpVs, ↓wpO, ↓wpC, ↓wpI, ↓arg, asVar, look, dat, dats, bop_add, bop_sub, bop_mul, bop_div, bop_mod, bop_pow, bop_lists, bop_tups, cop_eq, cop_ne, cop_lt, cop_le, cop_gt, cop_ge, sbs_list, sbs_tup, sbs_scr, slcd_list, slcd_tup, blt_len, blt_abs, blt_max2, blt_min2, blt_sum, blt_tupl, blt_tupt, blt_listl, blt_listt, blt_all, blt_any, blt_int, items_list, items_tup, items_scr, isOwn_own, isOwn_lent, isOwn_fro, isOwn_no, isLent_own, isLent_lent, isLent_fro, isLent_no, reSl_two, reSl_no, reSl_none, frz_own, frz_lent, frz_fro, frz_no, tr_bool, tr_int, tr_none, tr_list, tr_tup, fl_own, fl_fro, bind_one, bind_tup, bind_list, aug_add, aug_sub, ↓setK, setsK, putAt, boolsOf, intsOf, onS_some, onS_none, at0, at1, at2, at3, ix0, back, backAt, newOf, f_dot, f_cross, f__law_cross, f__law_dot, f_lies_on, f_on_line, f_through_spot, f__law_lie, eq_self, Nat.reduceEqDiff, frzSrc, srcOf, srcOk, ↓lcL, wipeD, unwipe, ownL, isT_tup, isT_list, isT_int, isT_bool, isT_str, isT_none, scr_tup, scr_list, scr_int, scr_bool, scr_str, scr_none, cut_lo, cut_hi, List.drop_succ_cons, List.drop_zero, sz_int, Int.reduceBEq, beq_self_eq_true, id_eq, bne_self_eq_false, eqv_int, eqv_bool, eqv_tup, eqv_list, eqvA_nil, eqvA_cons, eqvA_nc, eqvA_cn, List.length_cons, List.length_nil, List.getElem?_cons_zero, List.getElem?_cons_succ, List.set_cons_zero, List.set_cons_succ, List.dropLast_cons₂, List.dropLast_singleton, Nat.reduceAdd, Nat.reduceSub, Nat.zero_add, Nat.add_zero, List.append_eq, List.cons_append, List.nil_append, List.map_cons, List.map_nil, List.all_cons, List.all_nil, List.any_cons, List.any_nil, List.contains_nil, decide_eq_true_eq, nc0, Int.natCast_one, nc2, nc3, nc4, Int.reduceLT, Int.reduceLE, Int.reduceNeg, decide_true, decide_false, Bool.false_eq_true, Bool.true_and, Bool.and_true, Bool.false_and, Bool.and_false, Bool.not_true, Bool.not_false, if_true, if_false, ite_self, true_and, and_true, Option.map_some, Option.map_none, Option.isSome_some, Option.isSome_none, reduceCtorEq, imp_self, false_and, and_false, false_imp_iff, true_imp_iff, ne_eq, not_true_eq_false, not_false_eq_true, Nat.reduceLeDiff, Nat.reduceLT, reduceIte, List.isEmpty_cons, List.isEmpty_nil, Int.reduceToNat, Int.reduceSub, Int.reduceAdd, zipD, List.sum_cons, List.sum_nil, am1, am2, Nat.le_refl, Nat.zero_le, Bool.or_false, Bool.false_or, Bool.or_true, Bool.true_or, Nat.reduceEqDiff])
local macro_rules | `(tactic| walk_at "call") => `(tactic| refine call_at (by assumption) rfl (by first | exact List.nodup_nil | exact nodup_one _) rfl rfl ?_)
local macro_rules | `(tactic| walk_at "ret") => `(tactic| refine ret_go rfl rfl rfl ?_)
local macro_rules | `(tactic| walk_at "sz") => `(tactic| (apply okMul_of; (repeat first | assumption | exact sz_of (n := 256) (by decide) | exact sz_mod (by decide) (sz_of (n := 256) (by decide)) | apply sz_mul | apply sz_add | apply sz_sub | apply sz_neg); try omega))
theorem v3_eqv (a b : V3) : PyData.eqv a.d b.d = decide (a = b) := by
  obtain ⟨x, y, z⟩ := a
  obtain ⟨u, v, w⟩ := b
  show (x == u && (y == v && (z == w && true))) = _
  rw [Bool.and_true]
  by_cases e : x = u ∧ y = v ∧ z = w
  · obtain ⟨rfl, rfl, rfl⟩ := e
    simp
  · rw [decide_eq_false (by intro h; injection h with h1 h2 h3; exact e ⟨h1, h2, h3⟩)]
    rw [Bool.eq_false_iff]
    intro h
    simp at h
    exact e h
theorem v3_cmp (a b : V3) : cmpOk a.d b.d := ⟨rfl, rfl, Nat.le_trans (Nat.min_le_left _ _) (Nat.le_of_ble_eq_true rfl)⟩
theorem cro_sz {a b : V3} {n : Nat} (h : a.sz n) (g : b.sz n) : (cro a b).sz (2 * n + 1) := by
  have m : ∀ {p q r s : Int}, Sz n p → Sz n q → Sz n r → Sz n s → Sz (2 * n + 1) (p * q - r * s) := fun h1 h2 h3 h4 => sz_le (sz_sub (sz_mul h1 h2) (sz_mul h3 h4)) (by omega)
  exact ⟨m h.2.1 g.2.2 h.2.2 g.2.1, m h.2.2 g.1 h.1 g.2.2, m h.1 g.2.1 h.2.1 g.1⟩
theorem v3_sz_le {a : V3} {n m : Nat} (h : a.sz n) (l : n ≤ m) : a.sz m := ⟨sz_le h.1 l, sz_le h.2.1 l, sz_le h.2.2 l⟩
theorem bools_get (bs : List Bool) : boolsOf (bs.map PyData.bool) = some bs := by
  induction bs with
  | nil => rfl
  | cons n r ih => show (boolsOf (r.map PyData.bool)).map (n :: ·) = _; rw [ih]; rfl
theorem at_map {α : Type} (f : α → D) {xs : List α} {n : Int} (d : α) (h0 : 0 ≤ n) (h : n < xs.length) : atI (xs.map f) n = some (f (xs.getD n.toNat d)) := by
  obtain ⟨a, h1, h2⟩ := at_get (xs := xs.map f) h0 (by simpa using h)
  rw [h2, ← h1, List.getElem?_map, List.getD_eq_getElem?_getD, List.getElem?_eq_getElem (by omega : n.toNat < xs.length)]
  rfl
theorem t_on_line {G : Gd} (i j : Nat) (h1 : G.fs[i]? = some f_lies_on) (h2 : G.fs[j]? = some f_cross) (ds : List D) (Q : D → List D → Prop) (E : Xn → List D → Prop) (h : T_on_line ds Q E) : bodyT G 4 [false] false (b_on_line i j) ds Q E := by
  obtain ⟨rows, n, rfl, ⟨hl, hn, sz⟩, q⟩ := h
  unfold b_on_line
  walk_at "mi"
  refine for_list (fun xs δ => ∃ (suf : List V3) (s : Sl), (∃ pre, rows = pre ++ suf) ∧ xs = suf.map V3.d ∧ onlFrom (rows.headD ⟨0, 0, 0⟩) rows suf = onl rows ∧ δ = [some (.list (rows.map V3.d), .fro), s, none, none] ∧ isLent s = false) _ _ ?_ ?_ ?_
  · exact ⟨rows, none, ⟨[], rfl⟩, rfl, rfl, rfl, rfl⟩
  · rintro y xs δ nx _ ⟨suf, s, ⟨pre, e0⟩, e1, e2, rfl, l1⟩ fin
    cases suf with
    | nil => cases e1
    | cons v suf =>
      rw [List.map_cons] at e1
      obtain ⟨rfl, rfl⟩ := List.cons.inj e1
      have hv : v ∈ rows := by rw [e0]; simp
      obtain ⟨a, rest, hr⟩ : ∃ a rest, rows = a :: rest := by
        cases rows with
        | nil => cases hv
        | cons a r => exact ⟨a, r, rfl⟩
      have ha : a ∈ rows := by rw [hr]; simp
      have h0 : atI (rows.map V3.d) 0 = some a.d := by rw [hr]; exact at0 _ _
      walk_at "mi"
      rw [h0]
      walk_at "mi"
      refine ⟨l1, v3_cmp _ _, ?_⟩
      rw [v3_eqv]
      have e3 : rows.headD ⟨0, 0, 0⟩ = a := by rw [hr]; rfl
      rw [e3] at e2
      by_cases e : v = a
      · subst e
        walk_at "mi"
        refine fin _ ⟨suf, _, ⟨pre ++ [v], by rw [e0]; simp⟩, rfl, ?_, rfl, rfl⟩
        rw [e3, ← e2]
        show _ = if v = v then _ else _
        rw [if_pos rfl]
      · rw [decide_eq_false e]
        walk_at "mi"
        walk_at "call"
        refine ⟨n, _, _, _, _, _, _, rfl, ⟨by omega, (sz a ha).1, (sz a ha).2.1, (sz a ha).2.2, (sz v hv).1, (sz v hv).2.1, (sz v hv).2.2⟩, ?_⟩
        change Ret _ _ _ _ _ (cro a v).d _
        walk_at "ret"
        walk_at "mi"
        refine lc_of (fun xs acc δ => ∃ (p b : List V3), rows = p ++ b ∧ xs = b.map V3.d ∧ acc = (p.map fun o => dt o (cro a v) == 0).map PyData.bool ∧ δ = [some (.list (rows.map V3.d), .fro), some (v.d, .fro), some ((cro a v).d, .fro), none]) _ _ _ ?_ ?_ ?_
        · exact ⟨[], rows, rfl, rfl, rfl, rfl⟩
        · rintro y xs acc δ K ⟨p, b, f1, f2, rfl, rfl⟩ fin
          cases b with
          | nil => cases f2
          | cons z b =>
            rw [List.map_cons] at f2
            obtain ⟨rfl, rfl⟩ := List.cons.inj f2
            walk_at "mi"
            walk_at "call"
            have la : p.length < 1000 := by
              have := congrArg List.length f1
              simp at this
              omega
            refine ⟨z, cro a v, 2 * n + 1, rfl, ⟨v3_sz_le (sz z (by rw [f1]; simp)) (by omega), cro_sz (sz a ha) (sz v hv), by omega⟩, ?_⟩
            walk_at "ret"
            walk_at "mi"
            exact ⟨by simp only [List.length_map]; omega, fin _ _ ⟨p ++ [z], b, by rw [f1]; simp, rfl, by simp, rfl⟩⟩
        · rintro acc δ ⟨p, b, f1, f2, rfl, rfl⟩
          cases b with
          | cons z b => cases f2
          | nil =>
            rw [List.append_nil] at f1
            rw [← f1, bools_get]
            walk_at "mi"
            have e4 : onl rows = (rows.map fun o => dt o (cro a v) == 0).all id := by
              rw [← e2]
              show (if v = a then _ else _) = _
              rw [if_neg e, List.all_map]
              rfl
            rw [← e4]
            exact q
  · rintro δ ⟨suf, s, _, e1, e2, rfl, l1⟩
    cases suf with
    | cons z b => cases e1
    | nil =>
      walk_at "mi"
      have e2 : true = onl rows := e2
      rw [e2]
      exact q
theorem t_through_spot {G : Gd} (i : Nat) (h1 : G.fs[i]? = some f_on_line) (ds : List D) (Q : D → List D → Prop) (E : Xn → List D → Prop) (h : T_on_line ds Q E) : bodyT G 1 [false] false (b_through_spot i) ds Q E := by
  obtain ⟨rows, n, rfl, h, q⟩ := h
  unfold b_through_spot
  walk_at "mi"
  walk_at "call"
  refine ⟨rows, n, rfl, h, ?_⟩
  walk_at "ret"
  walk_at "mi"
  exact q
theorem map_lenD (rows : List V3) : (rows.map V3.d).length = rows.length := List.length_map ..
theorem lie_of {rows : List V3} (H : ∀ x y z : Nat, z < y → y < x → x < rows.length → dt (cro (rows.getD y ⟨0, 0, 0⟩) (rows.getD x ⟨0, 0, 0⟩)) (rows.getD z ⟨0, 0, 0⟩) = 0) : Lie rows := by
  intro a ha b hb c hc
  obtain ⟨i, hi, rfl⟩ := List.getElem_of_mem ha
  obtain ⟨j, hj, rfl⟩ := List.getElem_of_mem hb
  obtain ⟨k, hk, rfl⟩ := List.getElem_of_mem hc
  have g : ∀ (m : Nat) (h : m < rows.length), rows.getD m ⟨0, 0, 0⟩ = rows[m] := fun m h => by
    rw [List.getD_eq_getElem?_getD, List.getElem?_eq_getElem h]; rfl
  have H' : ∀ x y z (hx : x < rows.length) (hy : y < rows.length) (hz : z < rows.length), z < y → y < x → dt (cro rows[y] rows[x]) rows[z] = 0 := fun x y z hx hy hz h1 h2 => by
    have := H x y z h1 h2 hx
    rwa [g, g, g] at this
  rcases Nat.lt_trichotomy i j with l1 | l1 | l1
  · rcases Nat.lt_trichotomy i k with l2 | l2 | l2
    · rcases Nat.lt_trichotomy j k with l3 | l3 | l3
      · have := H' k j i hk hj hi l1 l3
        unfold dt cro at *
        grind
      · subst l3
        unfold dt cro
        grind
      · have := H' j k i hj hk hi l2 l3
        unfold dt cro at *
        grind
    · subst l2
      unfold dt cro
      grind
    · have := H' j i k hj hi hk l2 l1
      exact this
  · subst l1
    unfold dt cro
    grind
  · rcases Nat.lt_trichotomy i k with l2 | l2 | l2
    · have := H' k i j hk hi hj l1 l2
      unfold dt cro at *
      grind
    · subst l2
      unfold dt cro
      grind
    · rcases Nat.lt_trichotomy j k with l3 | l3 | l3
      · have := H' i k j hi hk hj l3 l2
        unfold dt cro at *
        grind
      · subst l3
        unfold dt cro
        grind
      · have := H' i j k hi hj hk l3 l1
        unfold dt cro at *
        grind
theorem t__law_lie {G : Gd} (i j : Nat) (h1 : G.fs[i]? = some f__law_dot) (h2 : G.fs[j]? = some f__law_cross) (ds : List D) (Q : D → List D → Prop) (E : Xn → List D → Prop) (h : T__law_lie ds Q E) : bodyT G 5 [false] false (b__law_lie i j) ds Q E := by
  obtain ⟨rows, n, rfl, ⟨hl, hn, sz⟩, q⟩ := h
  have gsz : ∀ k : Nat, k < rows.length → (rows.getD k ⟨0, 0, 0⟩) ∈ rows := fun k hk => by
    rw [List.getD_eq_getElem?_getD, List.getElem?_eq_getElem hk]
    exact List.getElem_mem hk
  unfold b__law_lie
  walk_at "mi"
  rw [map_lenD]
  refine ⟨by unfold okRng; omega, ?_⟩
  refine for_rng (fun i δ => ∃ (s1 s2 s3 s4 : Sl), δ = [some (.list (rows.map V3.d), .fro), s1, s2, s3, s4] ∧ (isLent s1 = false ∧ isLent s2 = false ∧ isLent s3 = false ∧ isLent s4 = false) ∧
    ∀ x y z : Nat, z < y → y < x → (x : Int) < i → dt (cro (rows.getD y ⟨0, 0, 0⟩) (rows.getD x ⟨0, 0, 0⟩)) (rows.getD z ⟨0, 0, 0⟩) = 0) _ _ _ ?_ ?_ ?_
  · exact ⟨none, none, none, none, rfl, ⟨rfl, rfl, rfl, rfl⟩, fun x y z _ _ h => by omega⟩
  · rintro x δ nx x0 x1 ⟨s1, s2, s3, s4, rfl, ⟨l1, l2, l3, l4⟩, H⟩ fin
    have x1 : x < rows.length := by simpa using x1
    walk_at "mi"
    refine ⟨l1, by unfold okRng; omega, ?_⟩
    refine for_rng (fun y δ => ∃ (s2 s3 s4 : Sl), δ = [some (.list (rows.map V3.d), .fro), some (.int x, .fro), s2, s3, s4] ∧ (isLent s2 = false ∧ isLent s3 = false ∧ isLent s4 = false) ∧
      ∀ y' z : Nat, z < y' → (y' : Int) < y → dt (cro (rows.getD y' ⟨0, 0, 0⟩) (rows.getD x.toNat ⟨0, 0, 0⟩)) (rows.getD z ⟨0, 0, 0⟩) = 0) _ _ _ ?_ ?_ ?_
    · exact ⟨s2, s3, s4, rfl, ⟨l2, l3, l4⟩, fun y z _ h => by omega⟩
    · rintro y δ nx2 y0 y1 ⟨s2, s3, s4, rfl, ⟨l2, l3, l4⟩, H2⟩ fin2
      have y1 : y < x := by omega
      walk_at "mi"
      rw [at_map V3.d ⟨0, 0, 0⟩ y0 (by omega), at_map V3.d ⟨0, 0, 0⟩ x0 x1]
      walk_at "mi"
      refine ⟨l2, ?_⟩
      walk_at "call"
      have my := gsz y.toNat (by omega)
      have mx := gsz x.toNat (by omega)
      refine ⟨_, _, n, rfl, ⟨sz _ my, sz _ mx, by omega⟩, ?_⟩
      walk_at "ret"
      walk_at "mi"
      refine ⟨l3, by unfold okRng; omega, ?_⟩
      refine for_rng (fun z δ => ∃ (s4 : Sl), δ = [some (.list (rows.map V3.d), .fro), some (.int x, .fro), some (.int y, .fro), some ((cro (rows.getD y.toNat ⟨0, 0, 0⟩) (rows.getD x.toNat ⟨0, 0, 0⟩)).d, .fro), s4] ∧ isLent s4 = false ∧
        ∀ z' : Nat, (z' : Int) < z → dt (cro (rows.getD y.toNat ⟨0, 0, 0⟩) (rows.getD x.toNat ⟨0, 0, 0⟩)) (rows.getD z' ⟨0, 0, 0⟩) = 0) _ _ _ ?_ ?_ ?_
      · exact ⟨s4, rfl, l4, fun z h => by omega⟩
      · rintro z δ nx3 z0 z1 ⟨s4, rfl, l4, H3⟩ fin3
        have z1 : z < y := by omega
        walk_at "mi"
        rw [at_map V3.d ⟨0, 0, 0⟩ z0 (by omega)]
        walk_at "mi"
        refine ⟨l4, ?_⟩
        walk_at "call"
        have mz := gsz z.toNat (by omega)
        refine ⟨_, _, 2 * n + 1, rfl, ⟨cro_sz (sz _ my) (sz _ mx), v3_sz_le (sz _ mz) (by omega), by omega⟩, ?_⟩
        walk_at "ret"
        walk_at "mi"
        by_cases e : dt (cro (rows.getD y.toNat ⟨0, 0, 0⟩) (rows.getD x.toNat ⟨0, 0, 0⟩)) (rows.getD z.toNat ⟨0, 0, 0⟩) = 0
        · rw [e]
          walk_at "mi"
          refine fin3 _ ⟨_, rfl, rfl, fun z' h => ?_⟩
          rcases Nat.lt_or_ge z' z.toNat with l | l
          · exact H3 z' (by omega)
          · have : z' = z.toNat := by omega
            rw [this]; exact e
        · rw [beq_eq_false_iff_ne.mpr e]
          walk_at "mi"
          exact q false ⟨fun h => (by cases h), fun h => absurd (h _ my _ mx _ mz) e⟩
      · rintro δ ⟨s4, rfl, l4, H3⟩
        refine fin2 _ ⟨_, _, _, rfl, ⟨rfl, rfl, l4⟩, fun y' z' h1 h2 => ?_⟩
        rcases Nat.lt_or_ge y' y.toNat with l | l
        · exact H2 y' z' h1 (by omega)
        · have : y' = y.toNat := by omega
          rw [this]
          exact H3 z' (by omega)
    · rintro δ ⟨s2, s3, s4, rfl, ⟨l2, l3, l4⟩, H2⟩
      refine fin _ ⟨_, _, _, _, rfl, ⟨rfl, l2, l3, l4⟩, fun x' y' z' h1 h2 h3 => ?_⟩
      rcases Nat.lt_or_ge x' x.toNat with l | l
      · exact H x' y' z' h1 h2 (by omega)
      · have : x' = x.toNat := by omega
        rw [this]
        exact H2 y' z' h1 (by omega)
  · rintro δ ⟨s1, s2, s3, s4, rfl, _, H⟩
    walk_at "mi"
    refine q true ⟨fun _ => ?_, fun _ => rfl⟩
    exact lie_of fun x y z h1 h2 h3 => H x y z h1 h2 (by omega)
end Mi
set_option Elab.async false
set_option linter.all false
set_option maxRecDepth 100000
namespace Mi
open PySem L2 PyProof.Rows
local macro_rules | `(tactic| walk_at "mi") => `(tactic| try simp only [↓bodyT, entry, entryGo, nones, outsOf, outsFrom, ↓wpSs, ↓wpS, ↓wpE, ↓wpT, ↓wpAs, ↓wpVs, ↓wpO, ↓wpC, ↓wpI, ↓arg, asVar, look, dat, dats, bop_add, bop_sub, bop_mul, bop_div, bop_mod, bop_pow, bop_lists, bop_tups, cop_eq, cop_ne, cop_lt, cop_le, cop_gt, cop_ge, cop_isb, cop_nob, cop_isnn, flB, flS, List.dropLast_nil, sbs_list, sbs_tup, sbs_scr, slcd_list, slcd_tup, blt_len, blt_abs, blt_max2, blt_min2, blt_sum, blt_tupl, blt_tupt, blt_listl, blt_listt, blt_all, blt_any, blt_int, items_list, items_tup, items_scr, isOwn_own, isOwn_lent, isOwn_fro, isOwn_no, isLent_own, isLent_lent, isLent_fro, isLent_no, reSl_two, reSl_no, reSl_none, frz_own, frz_lent, frz_fro, frz_no, tr_bool, tr_int, tr_none, tr_list, tr_tup, fl_own, fl_fro, bind_one, bind_tup, bind_list, aug_add, aug_sub, ↓setK, setsK, putAt, boolsOf, intsOf, onS_some, onS_none, at0, at1, at2, at3, ix0, back, backAt, newOf, eq_self, Nat.reduceEqDiff, frzSrc, srcOf, srcOk, ↓lcL, wipeD, unwipe, ownL, isT_tup, isT_list, isT_int, isT_bool, isT_str, isT_none, scr_tup, scr_list, scr_int, scr_bool, scr_str, scr_none, cut_lo, cut_hi, List.drop_succ_cons, List.drop_zero, sz_int, Int.reduceBEq, beq_self_eq_true, id_eq, bne_self_eq_false, eqv_int, eqv_bool, eqv_tup, eqv_list, eqvA_nil, eqvA_cons, eqvA_nc, eqvA_cn, List.length_cons, List.length_nil, List.getElem?_cons_zero, List.getElem?_cons_succ, List.set_cons_zero, List.set_cons_succ, List.dropLast_cons₂, List.dropLast_singleton, Nat.reduceAdd, Nat.reduceSub, Nat.zero_add, Nat.add_zero, List.append_eq, List.cons_append, List.nil_append, List.map_cons, List.map_nil, List.all_cons, List.all_nil, List.any_cons, List.any_nil, List.contains_nil, decide_eq_true_eq, nc0, Int.natCast_one, nc2, nc3, nc4, Int.reduceLT, Int.reduceLE, Int.reduceNeg, decide_true, decide_false, Bool.false_eq_true, Bool.true_and, Bool.and_true, Bool.false_and, Bool.and_false, Bool.not_true, Bool.not_false, if_true, if_false, ite_self, true_and, and_true, Option.map_some, Option.map_none, Option.isSome_some, Option.isSome_none, reduceCtorEq, imp_self, false_and, and_false, false_imp_iff, true_imp_iff, ne_eq, not_true_eq_false, not_false_eq_true, Nat.reduceLeDiff, Nat.reduceLT, reduceIte, List.isEmpty_cons, List.isEmpty_nil, Int.reduceToNat, Int.reduceSub, Int.reduceAdd, zipD, List.sum_cons, List.sum_nil, am1, am2, Nat.le_refl, Nat.zero_le, Bool.or_false, Bool.false_or, Bool.or_true, Bool.true_or, Nat.reduceEqDiff])
local macro_rules | `(tactic| walk_at "call") => `(tactic| refine call_at (by assumption) rfl (by first | exact List.nodup_nil | exact nodup_one _) rfl rfl ?_)
local macro_rules | `(tactic| walk_at "ret") => `(tactic| refine ret_go rfl rfl rfl ?_)
local macro_rules | `(tactic| walk_at "sz") => `(tactic| (apply okMul_of; (repeat first | assumption | exact sz_of (n := 256) (by decide) | exact sz_mod (by decide) (sz_of (n := 256) (by decide)) | apply sz_mul | apply sz_add | apply sz_sub | apply sz_neg); try omega))
theorem lastNZ3 (x y z : Int) : lastNZ [x, y, z] = if z = 0 then (if y = 0 then x else y) else z := by
  unfold lastNZ
  by_cases e : z = 0
  · subst e
    simp only [lastNZ]
    by_cases e2 : y = 0
    · subst e2; simp
    · simp [e2]
  · simp only [lastNZ]
    simp [e]
theorem abs_same {a b : V3} (ga : gcdN 0 a.l = 1) (gb : gcdN 0 b.l = 1) {p q : Int} (h1 : (b.x * p).natAbs = (a.x * q).natAbs) (h2 : (b.y * p).natAbs = (a.y * q).natAbs) (h3 : (b.z * p).natAbs = (a.z * q).natAbs) : p.natAbs = q.natAbs := by
  have e1 := gcdN_mul p.natAbs 0 b.l [b.x * p, b.y * p, b.z * p] (by simp [V3.l, Int.natAbs_mul])
  have e2 := gcdN_mul q.natAbs 0 a.l [b.x * p, b.y * p, b.z * p] (by
    simp only [V3.l, List.map_cons, List.map_nil, h1, h2, h3, Int.natAbs_mul])
  rw [Nat.zero_mul, gb, Nat.one_mul] at e1
  rw [Nat.zero_mul, ga, Nat.one_mul] at e2
  omega
theorem plain_cross {a b : V3} (ha : Plain a.l) (hb : Plain b.l) (h : cro a b = ⟨0, 0, 0⟩) : a = b := by
  have h1 : a.y * b.z - a.z * b.y = 0 := congrArg V3.x h
  have h2 : a.z * b.x - a.x * b.z = 0 := congrArg V3.y h
  have h3 : a.x * b.y - a.y * b.x = 0 := congrArg V3.z h
  have n : ∀ {u v : Int}, u = v → u.natAbs = v.natAbs := fun e => by rw [e]
  have ex := abs_same ha.g hb.g (p := a.x) (q := b.x) (n (Int.mul_comm _ _)) (n (by grind)) (n (by grind))
  have ey := abs_same ha.g hb.g (p := a.y) (q := b.y) (n (by grind)) (n (Int.mul_comm _ _)) (n (by grind))
  have ez := abs_same ha.g hb.g (p := a.z) (q := b.z) (n (by grind)) (n (by grind)) (n (Int.mul_comm _ _))
  have la := ha.l
  have lb := hb.l
  unfold V3.l at la lb
  rw [lastNZ3] at la lb
  obtain ⟨x, y, z⟩ := a
  obtain ⟨u, v, w⟩ := b
  simp only at *
  by_cases e : z = 0
  · have e' : w = 0 := by omega
    subst e e'
    simp only [if_true] at la lb
    by_cases e2 : y = 0
    · have e2' : v = 0 := by omega
      subst e2 e2'
      simp only [if_true] at la lb
      have : x = u := by omega
      rw [this]
    · have e2' : v ≠ 0 := by omega
      rw [if_neg e2] at la
      rw [if_neg e2'] at lb
      have e3 : y = v := by omega
      subst e3
      have : x = u := Int.eq_of_mul_eq_mul_right e2 (by grind)
      rw [this]
  · have e' : w ≠ 0 := by omega
    rw [if_neg e] at la
    rw [if_neg e'] at lb
    have e3 : z = w := by omega
    subst e3
    have f1 : x = u := Int.eq_of_mul_eq_mul_right e (by grind)
    have f2 : y = v := Int.eq_of_mul_eq_mul_right e (by grind)
    rw [f1, f2]
theorem onl_cases (a : V3) (all : List V3) : ∀ suf : List V3, onlFrom a all suf = true → (∀ s ∈ suf, s = a) ∨ ∃ s ∈ suf, s ≠ a ∧ ∀ o ∈ all, dt o (cro a s) = 0
  | [], _ => .inl fun s h => absurd h (List.not_mem_nil)
  | s :: r, h => by
    unfold onlFrom at h
    by_cases e : s = a
    · rw [if_pos e] at h
      rcases onl_cases a all r h with g | ⟨t, g1, g2⟩
      · refine .inl fun t ht => ?_
        rcases List.mem_cons.mp ht with rfl | ht
        · exact e
        · exact g t ht
      · exact .inr ⟨t, List.mem_cons_of_mem _ g1, g2⟩
    · rw [if_neg e] at h
      refine .inr ⟨s, List.mem_cons_self .., e, fun o ho => ?_⟩
      exact beq_iff_eq.mp (List.all_eq_true.mp h o ho)
theorem onl_true (a : V3) (all : List V3) (H : ∀ s ∈ all, ∀ o ∈ all, dt o (cro a s) = 0) : ∀ suf : List V3, (∀ s ∈ suf, s ∈ all) → onlFrom a all suf = true
  | [], _ => rfl
  | s :: r, h => by
    unfold onlFrom
    split
    · exact onl_true a all H r fun t ht => h t (List.mem_cons_of_mem _ ht)
    · refine List.all_eq_true.mpr fun o ho => beq_iff_eq.mpr (H s (h s (List.mem_cons_self ..)) o ho)
theorem det_mul (a b c l : V3) (h1 : dt a l = 0) (h2 : dt b l = 0) (h3 : dt c l = 0) : dt (cro a b) c * l.x = 0 ∧ dt (cro a b) c * l.y = 0 ∧ dt (cro a b) c * l.z = 0 := by
  have k1 : dt (cro a b) c * l.x = dt a l * (cro b c).x + dt b l * (cro c a).x + dt c l * (cro a b).x := by unfold dt cro; grind
  have k2 : dt (cro a b) c * l.y = dt a l * (cro b c).y + dt b l * (cro c a).y + dt c l * (cro a b).y := by unfold dt cro; grind
  have k3 : dt (cro a b) c * l.z = dt a l * (cro b c).z + dt b l * (cro c a).z + dt c l * (cro a b).z := by unfold dt cro; grind
  rw [h1, h2, h3] at k1 k2 k3
  simp only [Int.zero_mul, Int.add_zero] at k1 k2 k3
  exact ⟨k1, k2, k3⟩
theorem onl_lie {rows : List V3} (hp : ∀ v ∈ rows, Plain v.l) : onl rows = true ↔ Lie rows := by
  cases rows with
  | nil => exact ⟨fun _ a h => absurd h (List.not_mem_nil), fun _ => rfl⟩
  | cons a r =>
    unfold onl
    show onlFrom a (a :: r) (a :: r) = true ↔ _
    constructor
    · intro h x hx y hy z hz
      rcases onl_cases a _ _ h with g | ⟨s, g1, g2, g3⟩
      · rw [g x hx, g y hy, g z hz]
        unfold dt cro
        grind
      · obtain ⟨k1, k2, k3⟩ := det_mul x y z (cro a s) (g3 x hx) (g3 y hy) (g3 z hz)
        have nz : cro a s ≠ ⟨0, 0, 0⟩ := fun e => g2 (plain_cross (hp a (List.mem_cons_self ..)) (hp s g1) e).symm
        by_cases e1 : (cro a s).x = 0
        · by_cases e2 : (cro a s).y = 0
          · by_cases e3 : (cro a s).z = 0
            · refine absurd ?_ nz
              cases hc : cro a s with
              | mk p q t =>
                rw [hc] at e1 e2 e3
                simp only at e1 e2 e3
                rw [e1, e2, e3]
            · rcases Int.mul_eq_zero.mp k3 with h | h
              · exact h
              · exact absurd h e3
          · rcases Int.mul_eq_zero.mp k2 with h | h
            · exact h
            · exact absurd h e2
        · rcases Int.mul_eq_zero.mp k1 with h | h
          · exact h
          · exact absurd h e1
    · intro h
      refine onl_true a _ (fun s hs o ho => ?_) _ fun s hs => hs
      have := h a (List.mem_cons_self ..) s hs o ho
      unfold dt at this ⊢
      grind
theorem v3s_plain (rows : List V3) : PyData.plainAll (rows.map V3.d) = true := by
  induction rows with
  | nil => rfl
  | cons n r ih => show (true && PyData.plainAll (r.map V3.d)) = true; rw [ih]; rfl
theorem v3s_depth (rows : List V3) : PyData.depthAll (rows.map V3.d) ≤ 1 := by
  induction rows with
  | nil => exact Nat.zero_le _
  | cons n r ih => show max 1 (PyData.depthAll (r.map V3.d)) ≤ 1; omega
theorem v3s_cmp (xs ys : List V3) : cmpOk (.list (xs.map V3.d)) (.list (ys.map V3.d)) := by
  refine ⟨v3s_plain xs, v3s_plain ys, Nat.le_trans (Nat.min_le_left _ _) ?_⟩
  show PyData.depthAll (xs.map V3.d) + 1 ≤ 60
  have := v3s_depth xs
  omega
theorem v3s_eqv (xs : List V3) : PyData.eqvAll (xs.map V3.d) (xs.map V3.d) = true := by
  induction xs with
  | nil => rfl
  | cons n r ih =>
    show (PyData.eqv n.d n.d && PyData.eqvAll (r.map V3.d) (r.map V3.d)) = true
    rw [ih, v3_eqv, decide_eq_true rfl]; rfl
theorem v3s_smp (rows : List V3) : smpA (rows.map V3.d) = true := by
  induction rows with
  | nil => rfl
  | cons n r ih => show (true && smpA (r.map V3.d)) = true; rw [ih]; rfl
theorem lie_two (rows : List V3) : Lie (rows.take 2) := by
  match rows with
  | [] => exact fun a h => absurd h (List.not_mem_nil)
  | [a] =>
    intro x hx y hy z hz
    simp at hx hy hz
    subst hx hy hz
    unfold dt cro; grind
  | a :: b :: r =>
    intro x hx y hy z hz
    simp at hx hy hz
    rcases hx with rfl | rfl <;> rcases hy with rfl | rfl <;> rcases hz with rfl | rfl <;> (unfold dt cro; grind)
end Mi
set_option Elab.async false
set_option linter.all false
set_option maxRecDepth 100000
namespace Mi
open PySem L2 PyProof.Rows
def b__law_spots (i__law_spot : Nat) (i__law_digit : Nat) (i__law_mixed : Nat) (i__law_rest : Nat) : Cms :=
  (.cons (.set 1 (.call i__law_rest (.cons (.var 0) (.cons (.int 0) .nil))))
  (.cons (.set 2 (.call i__law_digit (.cons (.var 1) (.cons (.int 10) .nil))))
  (.cons (.set 3 (.call i__law_digit (.cons (.var 1) (.cons (.int 2) .nil))))
  (.cons (.set 4 (.call i__law_digit (.cons (.var 1) (.cons (.int 10) .nil))))
  (.cons (.set 5 (.lst .nil))
  (.cons (.for (.one 6) (.rng1 (.var 2))
  (.cons (.set 1 (.call i__law_rest (.cons (.var 0) (.cons (.bin .add (.int 1) (.var 6)) .nil))))
  (.cons (.set 7 (.call i__law_digit (.cons (.var 1) (.cons (.int 4) .nil))))
  (.cons (.iff (.or (.cmp .lt (.var 6) (.int 2)) (.or (.and (.cmp .eq (.var 7) (.int 3)) (.one (.cmp .eq (.var 3) (.int 0)))) (.one (.cmp .eq (.var 6) (.var 4)))))
  (.cons (.app 5 (.call i__law_spot (.cons (.var 1) (.cons (.bin .pow (.int 10) (.int 20)) .nil))))
  .nil)
  (.cons (.iff (.cmp .eq (.var 7) (.int 2))
  (.cons (.app 5 (.sub (.var 5) (.call i__law_digit (.cons (.var 1) (.cons (.var 6) .nil)))))
  .nil)
  (.cons (.app 5 (.call i__law_mixed (.cons (.sub (.var 5) (.int 0)) (.cons (.sub (.var 5) (.int 1)) (.cons (.var 1) .nil)))))
  .nil))
  .nil))
  .nil))))
  (.cons (.ret (.var 5))
  .nil)))))))
def b__law_truth : Cms :=
  (.cons (.ret (.and (.isi (.var 0) .bool) (.one (.cmp .eq (.var 0) (.var 1)))))
  .nil)
def b_law3 (i_on_line : Nat) (i__law_truth : Nat) (i__law_lie : Nat) (i__law_spot : Nat) (i__law_rest : Nat) (i_through_spot : Nat) (i__law_spots : Nat) : Cms :=
  (.cons (.iff (.or (.not (.call i__law_truth (.cons (.call i_on_line (.cons (.var 2) .nil)) (.cons (.var 3) .nil)))) (.or (.not (.call i__law_truth (.cons (.call i_through_spot (.cons (.var 2) .nil)) (.cons (.var 3) .nil)))) (.one (.cmp .ne (.var 2) (.var 1)))))
  (.cons (.ret (.bl false))
  .nil)
  .nil)
  (.cons (.set 4 (.ct i__law_spot i__law_rest (.cons (.var 0) (.cons (.int 11) .nil)) (.cons (.bin .pow (.int 10) (.int 20)) .nil)))
  (.cons (.app 2 (.var 4))
  (.cons (.iff (.not (.call i__law_truth (.cons (.call i_on_line (.cons (.var 2) .nil)) (.cons (.call i__law_lie (.cons (.bin .add (.var 1) (.lst (.cons (.var 4) .nil))) .nil)) .nil))))
  (.cons (.ret (.bl false))
  .nil)
  .nil)
  (.cons (.exp (.pop 2))
  (.cons (.ret (.and (.call i__law_truth (.cons (.call i_on_line (.cons (.var 2) .nil)) (.cons (.var 3) .nil))) (.one (.cmp .isn (.call i_on_line (.cons (.slc (.var 2) .no (.so (.int 2))) .nil)) (.bl true)))))
  .nil))))))
def b_law (i_on_line : Nat) (i__law_truth : Nat) (i__law_lie : Nat) (i__law_spot : Nat) (i__law_rest : Nat) (i_through_spot : Nat) (i__law_spots : Nat) : Cms :=
  (.cons (.set 1 (.call i__law_spots (.cons (.var 0) .nil)))
  (.cons (.set 2 (.blt .list (.cons (.var 1) .nil)))
  (.cons (.set 3 (.call i__law_lie (.cons (.var 1) .nil)))
  (b_law3 i_on_line i__law_truth i__law_lie i__law_spot i__law_rest i_through_spot i__law_spots))))
def T__law_truth (ds : List D) (Q : D → List D → Prop) (E : Xn → List D → Prop) : Prop := ∃ a b : Bool, ds = [.bool a, .bool b] ∧ Q (.bool (a == b)) [.none, .none]
def T__law_spots (ds : List D) (Q : D → List D → Prop) (E : Xn → List D → Prop) : Prop := ∃ sc : List Int, ds = [scrD sc] ∧ ∀ rows : List V3, rows.length < 20 → (∀ v ∈ rows, Plain v.l ∧ v.sz 200) → Q (.list (rows.map V3.d)) [.none]
def f__law_truth : FI := ⟨"_law_truth", ["found", "due"], [false, false], false, T__law_truth⟩
def f__law_spots : FI := ⟨"_law_spots", ["script"], [false], true, T__law_spots⟩
local macro_rules | `(tactic| walk_at "mi") => `(tactic| try simp only [↓bodyT, entry, entryGo, nones, outsOf, outsFrom, ↓wpSs, ↓wpS, ↓wpE, ↓wpT, ↓wpAs, ↓wpVs, ↓wpO, ↓wpC, ↓wpI, ↓arg, asVar, look, dat, dats, bop_add, bop_sub, bop_mul, bop_div, bop_mod, bop_pow, bop_lists, bop_tups, cop_eq, cop_ne, cop_lt, cop_le, cop_gt, cop_ge, cop_isb, cop_nob, cop_isnn, flB, flS, List.dropLast_nil, sbs_list, sbs_tup, sbs_scr, slcd_list, slcd_tup, blt_len, blt_abs, blt_max2, blt_min2, blt_sum, blt_tupl, blt_tupt, blt_listl, blt_listt, blt_all, blt_any, blt_int, items_list, items_tup, items_scr, isOwn_own, isOwn_lent, isOwn_fro, isOwn_no, isLent_own, isLent_lent, isLent_fro, isLent_no, reSl_two, reSl_no, reSl_none, frz_own, frz_lent, frz_fro, frz_no, tr_bool, tr_int, tr_none, tr_list, tr_tup, fl_own, fl_fro, bind_one, bind_tup, bind_list, aug_add, aug_sub, ↓setK, setsK, putAt, boolsOf, intsOf, onS_some, onS_none, at0, at1, at2, at3, ix0, back, backAt, newOf, f__law_rest, f__law_digit, f__law_number, f__law_spot, f__law_mixed, f_on_line, f_through_spot, f__law_lie, f__law_truth, f__law_spots, eq_self, Nat.reduceEqDiff, frzSrc, srcOf, srcOk, ↓lcL, wipeD, unwipe, ownL, isT_tup, isT_list, isT_int, isT_bool, isT_str, isT_none, scr_tup, scr_list, scr_int, scr_bool, scr_str, scr_none, cut_lo, cut_hi, List.drop_succ_cons, List.drop_zero, sz_int, Int.reduceBEq, beq_self_eq_true, id_eq, bne_self_eq_false, eqv_int, eqv_bool, eqv_tup, eqv_list, eqvA_nil, eqvA_cons, eqvA_nc, eqvA_cn, List.length_cons, List.length_nil, List.getElem?_cons_zero, List.getElem?_cons_succ, List.set_cons_zero, List.set_cons_succ, List.dropLast_cons₂, List.dropLast_singleton, Nat.reduceAdd, Nat.reduceSub, Nat.zero_add, Nat.add_zero, List.append_eq, List.cons_append, List.nil_append, List.map_cons, List.map_nil, List.all_cons, List.all_nil, List.any_cons, List.any_nil, List.contains_nil, decide_eq_true_eq, nc0, Int.natCast_one, nc2, nc3, nc4, Int.reduceLT, Int.reduceLE, Int.reduceNeg, decide_true, decide_false, Bool.false_eq_true, Bool.true_and, Bool.and_true, Bool.false_and, Bool.and_false, Bool.not_true, Bool.not_false, if_true, if_false, ite_self, true_and, and_true, Option.map_some, Option.map_none, Option.isSome_some, Option.isSome_none, reduceCtorEq, imp_self, false_and, and_false, false_imp_iff, true_imp_iff, ne_eq, not_true_eq_false, not_false_eq_true, Nat.reduceLeDiff, Nat.reduceLT, reduceIte, List.isEmpty_cons, List.isEmpty_nil, Int.reduceToNat, Int.reduceSub, Int.reduceAdd, zipD, List.sum_cons, List.sum_nil, am1, am2, Nat.le_refl, Nat.zero_le, Bool.or_false, Bool.false_or, Bool.or_true, Bool.true_or, Nat.reduceEqDiff])
local macro_rules | `(tactic| walk_at "call") => `(tactic| refine call_at (by assumption) rfl (by first | exact List.nodup_nil | exact nodup_one _) rfl rfl ?_)
local macro_rules | `(tactic| walk_at "ret") => `(tactic| refine ret_go rfl rfl rfl ?_)
local macro_rules | `(tactic| walk_at "sz") => `(tactic| (apply okMul_of; (repeat first | assumption | exact sz_of (n := 256) (by decide) | exact sz_mod (by decide) (sz_of (n := 256) (by decide)) | apply sz_mul | apply sz_add | apply sz_sub | apply sz_neg); try omega))
theorem t__law_truth {G : Gd} (ds : List D) (Q : D → List D → Prop) (E : Xn → List D → Prop) (h : T__law_truth ds Q E) : bodyT G 2 [false, false] false b__law_truth ds Q E := by
  obtain ⟨a, b, rfl, q⟩ := h
  unfold b__law_truth
  walk_at "mi"
  exact ⟨⟨rfl, rfl, Nat.zero_le _⟩, q⟩
theorem getD_mem {rows : List V3} {k : Nat} (hk : k < rows.length) : rows.getD k ⟨0, 0, 0⟩ ∈ rows := by
  rw [List.getD_eq_getElem?_getD, List.getElem?_eq_getElem hk]
  exact List.getElem_mem hk
theorem getD_app {rows : List V3} {k : Nat} {v : V3} (hk : k < rows.length) : (rows ++ [v]).getD k ⟨0, 0, 0⟩ = rows.getD k ⟨0, 0, 0⟩ := by
  rw [List.getD_eq_getElem?_getD, List.getD_eq_getElem?_getD, List.getElem?_append_left hk]
theorem getD_last {rows : List V3} {v : V3} : (rows ++ [v]).getD rows.length ⟨0, 0, 0⟩ = v := by
  rw [List.getD_eq_getElem?_getD, List.getElem?_append_right (Nat.le_refl _)]; simp
theorem t__law_spots {G : Gd} (i0 i1 i2 i3 : Nat) (h0 : G.fs[i0]? = some f__law_spot) (h1 : G.fs[i1]? = some f__law_digit) (h2 : G.fs[i2]? = some f__law_mixed) (h3 : G.fs[i3]? = some f__law_rest) (ds : List D) (Q : D → List D → Prop) (E : Xn → List D → Prop) (h : T__law_spots ds Q E) : bodyT G 8 [false] true (b__law_spots i0 i1 i2 i3) ds Q E := by
  obtain ⟨sc, rfl, q⟩ := h
  have lit : ∀ n : Int, n.natAbs < 2 ^ 10 → Sz 8000 n := fun n h => sz_le (a := 10) h (by decide)
  unfold b__law_spots
  unfold scrD
  walk_at "mi"
  walk_at "call"
  refine ⟨sc, 0, rfl, by decide, by decide, fun r hr => ?_⟩
  refine ret_go rfl rfl (rest_res hr) ?_
  walk_at "mi"
  walk_at "call"
  refine ⟨r, 10, rfl, hr, by decide, lit _ (by decide), fun m r hm0 hm1 hr => ?_⟩
  refine ret_go rfl (rest_lent hr) rfl ?_
  walk_at "mi"
  walk_at "call"
  refine ⟨r, 2, rfl, hr, by decide, lit _ (by decide), fun ev r _ _ hr => ?_⟩
  refine ret_go rfl (rest_lent hr) rfl ?_
  walk_at "mi"
  walk_at "call"
  refine ⟨r, 10, rfl, hr, by decide, lit _ (by decide), fun od r _ _ hr => ?_⟩
  refine ret_go rfl (rest_lent hr) rfl ?_
  walk_at "mi"
  refine ⟨by unfold okRng; omega, ?_⟩
  refine for_rng (fun k δ => ∃ (rows : List V3) (r : List D) (s1 s2 : Sl), δ = [some (.dict [(.none, .list (sc.map PyData.int))], .fro), some (.list r, .own), some (.int m, .fro), some (.int ev, .fro), some (.int od, .fro), some (.list (rows.map V3.d), .own), s1, s2] ∧
    (isRest r ∧ isLent s1 = false ∧ isLent s2 = false) ∧ (rows.length : Int) = k ∧ (∀ v ∈ rows, Plain v.l ∧ v.sz 140) ∧ ∀ j : Nat, j < 2 → j < rows.length → (rows.getD j ⟨0, 0, 0⟩).sz 70) _ _ _ ?_ ?_ ?_
  · exact ⟨[], r, _, _, rfl, ⟨hr, rfl, rfl⟩, rfl, fun v h => absurd h (List.not_mem_nil), fun j _ h => absurd h (Nat.not_lt_zero _)⟩
  · rintro k δ nx k0 k1 ⟨rows, r, s1, s2, rfl, ⟨hr, l1, l2⟩, hk, hv, hs⟩ fin
    have k1 : k < 10 := by omega
    walk_at "mi"
    refine ⟨l1, ?_⟩
    walk_at "call"
    refine ⟨sc, 1 + k, rfl, by omega, by omega, fun r hr => ?_⟩
    refine ret_go rfl rfl (rest_res hr) ?_
    walk_at "mi"
    walk_at "call"
    refine ⟨r, 4, rfl, hr, by decide, lit _ (by decide), fun w r _ _ hr => ?_⟩
    refine ret_go rfl (rest_lent hr) rfl ?_
    walk_at "mi"
    refine ⟨l2, ?_⟩
    have fin2 : ∀ (v : V3) (r' : List D), Plain v.l → v.sz 140 → (k < 2 → v.sz 70) → isRest r' → nx [some (.dict [(.none, .list (sc.map PyData.int))], .fro), some (.list r', .own), some (.int m, .fro), some (.int ev, .fro), some (.int od, .fro), some (.list (rows.map V3.d ++ [v.d]), .own), some (.int k, .fro), some (.int w, .fro)] := fun v r' pv sv s2 hr' => by
      refine fin _ ⟨rows ++ [v], r', some (.int k, .fro), some (.int w, .fro), by simp, ⟨hr', rfl, rfl⟩, by simp; omega, fun u hu => ?_, fun j j2 jl => ?_⟩
      · rcases List.mem_append.mp hu with h | h
        · exact hv u h
        · rw [List.mem_singleton.mp h]; exact ⟨pv, sv⟩
      · rw [List.length_append, List.length_singleton] at jl
        rcases Nat.lt_or_ge j rows.length with l | l
        · rw [getD_app l]; exact hs j j2 l
        · have : j = rows.length := by omega
          rw [this, getD_last]
          exact s2 (by omega)
    have ln : (rows.map V3.d).length < 1000000 := by rw [List.length_map]; omega
    have spot : ∀ (K : KD) (E' : XD), (∀ (v : V3) (r' : List D), Plain v.l → v.sz 67 → isRest r' → K v.d false [some (.dict [(.none, .list (sc.map PyData.int))], .fro), some (.list r', .own), some (.int m, .fro), some (.int ev, .fro), some (.int od, .fro), some (.list (rows.map V3.d), .own), some (.int k, .fro), some (.int w, .fro)]) →
        onS G.fs[i0]? fun fi => callK false fi [Ar.ref 1, Ar.val (.int (10 ^ 20))] [some (.dict [(.none, .list (sc.map PyData.int))], .fro), some (.list r, .own), some (.int m, .fro), some (.int ev, .fro), some (.int od, .fro), some (.list (rows.map V3.d), .own), some (.int k, .fro), some (.int w, .fro)] K E' := fun K E' hK => by
      walk_at "call"
      refine ⟨r, 10 ^ 20, 67, rfl, hr, by decide, ⟨by decide, by decide⟩, fun v r' pv sv hr' => ?_⟩
      refine ret_go rfl (rest_lent hr') rfl ?_
      exact hK v r' pv sv hr'
    have spot2 : ∀ (v : V3) (r' : List D), Plain v.l → v.sz 67 → isRest r' → _ := fun v r' pv sv hr' => fin2 v r' pv (v3_sz_le sv (by decide)) (fun _ => v3_sz_le sv (by decide)) hr'
    split
    · refine ⟨⟨by decide, by decide, by decide⟩, spot _ _ fun v r' pv sv hr' => ?_⟩
      walk_at "mi"
      exact ⟨ln, spot2 v r' pv sv hr'⟩
    · have k2 : 2 ≤ k := by omega
      have rest : ∀ (P : Prop), (P → True) → True := fun _ _ => trivial
      split
      · split
        · refine ⟨⟨by decide, by decide, by decide⟩, spot _ _ fun v r' pv sv hr' => ?_⟩
          walk_at "mi"
          exact ⟨ln, spot2 v r' pv sv hr'⟩
        · split
          · refine ⟨⟨by decide, by decide, by decide⟩, spot _ _ fun v r' pv sv hr' => ?_⟩
            walk_at "mi"
            exact ⟨ln, spot2 v r' pv sv hr'⟩
          · split
            · walk_at "call"
              refine ⟨r, k, rfl, hr, by omega, sz_le (a := 10) (by unfold Sz; omega) (by decide), fun at' r' a0 a1 hr' => ?_⟩
              refine ret_go rfl (rest_lent hr') rfl ?_
              walk_at "mi"
              rw [at_map V3.d ⟨0, 0, 0⟩ a0 (by omega)]
              walk_at "mi"
              have mem := hv _ (getD_mem (rows := rows) (k := at'.toNat) (by omega))
              exact ⟨ln, fin2 _ r' mem.1 mem.2 (fun h => by omega) hr'⟩
            · rw [at_map V3.d ⟨0, 0, 0⟩ (by decide) (by omega)]
              walk_at "mi"
              rw [at_map V3.d ⟨0, 0, 0⟩ (by decide) (by omega)]
              walk_at "mi"
              walk_at "call"
              refine ⟨_, _, r, 70, rfl, ⟨hs 0 (by decide) (by omega), hs 1 (by decide) (by omega), by decide⟩, hr, fun v r' pv sv hr' => ?_⟩
              refine ret_go rfl (rest_lent3 hr') rfl ?_
              walk_at "mi"
              refine ⟨ln, fin2 v r' ?_ (v3_sz_le sv (by decide)) (fun h => by omega) hr'⟩
              rcases pv with rfl | pv
              · exact (hv _ (getD_mem (rows := rows) (k := 0) (by omega))).1
              · exact pv
      · split
        · refine ⟨⟨by decide, by decide, by decide⟩, spot _ _ fun v r' pv sv hr' => ?_⟩
          walk_at "mi"
          exact ⟨ln, spot2 v r' pv sv hr'⟩
        · split
          · walk_at "call"
            refine ⟨r, k, rfl, hr, by omega, sz_le (a := 10) (by unfold Sz; omega) (by decide), fun at' r' a0 a1 hr' => ?_⟩
            refine ret_go rfl (rest_lent hr') rfl ?_
            walk_at "mi"
            rw [at_map V3.d ⟨0, 0, 0⟩ a0 (by omega)]
            walk_at "mi"
            have mem := hv _ (getD_mem (rows := rows) (k := at'.toNat) (by omega))
            exact ⟨ln, fin2 _ r' mem.1 mem.2 (fun h => by omega) hr'⟩
          · rw [at_map V3.d ⟨0, 0, 0⟩ (by decide) (by omega)]
            walk_at "mi"
            rw [at_map V3.d ⟨0, 0, 0⟩ (by decide) (by omega)]
            walk_at "mi"
            walk_at "call"
            refine ⟨_, _, r, 70, rfl, ⟨hs 0 (by decide) (by omega), hs 1 (by decide) (by omega), by decide⟩, hr, fun v r' pv sv hr' => ?_⟩
            refine ret_go rfl (rest_lent3 hr') rfl ?_
            walk_at "mi"
            refine ⟨ln, fin2 v r' ?_ (v3_sz_le sv (by decide)) (fun h => by omega) hr'⟩
            rcases pv with rfl | pv
            · exact (hv _ (getD_mem (rows := rows) (k := 0) (by omega))).1
            · exact pv
  · rintro δ ⟨rows, r, s1, s2, rfl, ⟨hr, l1, l2⟩, hk, hv, hs⟩
    walk_at "mi"
    refine q rows (by omega) fun v h => ⟨(hv v h).1, v3_sz_le (hv v h).2 (by decide)⟩
theorem pop_last (xs : List D) (x : D) : (xs ++ [x])[(xs ++ [x]).length - 1]? = some x := by
  rw [List.length_append, List.length_singleton, Nat.add_sub_cancel, List.getElem?_append_right (Nat.le_refl _)]; simp
theorem map_snoc (rows : List V3) (v : V3) : rows.map V3.d ++ [v.d] = (rows ++ [v]).map V3.d := by simp
theorem b_same {a b : Bool} {P : Prop} (h : a = true ↔ P) (g : b = true ↔ P) : a = b := by
  cases a <;> cases b <;> simp_all
theorem t_law {G : Gd} (i0 i1 i2 i3 i4 i5 i6 : Nat) (h0 : G.fs[i0]? = some f_on_line) (h1 : G.fs[i1]? = some f__law_truth) (h2 : G.fs[i2]? = some f__law_lie) (h3 : G.fs[i3]? = some f__law_spot) (h4 : G.fs[i4]? = some f__law_rest) (h5 : G.fs[i5]? = some f_through_spot) (h6 : G.fs[i6]? = some f__law_spots) (ds : List D) (Q : D → List D → Prop) (E : Xn → List D → Prop) (h : lawT ds Q E) : bodyT G 5 [false] false (b_law i0 i1 i2 i3 i4 i5 i6) ds Q E := by
  obtain ⟨sc, hl, rfl, q⟩ := h
  unfold b_law b_law3
  unfold scrD
  walk_at "mi"
  walk_at "call"
  refine ⟨sc, rfl, fun rows hlen hv => ?_⟩
  refine ret_go rfl rfl (v3s_smp rows) ?_
  walk_at "mi"
  have P := fun v h => (hv v h).1
  have S := fun v h => (hv v h).2
  have ok : rows.length < 1000 ∧ 200 < 20000 ∧ ∀ v ∈ rows, v.sz 200 := ⟨by omega, by decide, S⟩
  walk_at "call"
  refine ⟨rows, 200, rfl, ok, fun b hb => ?_⟩
  walk_at "ret"
  walk_at "mi"
  have e1 : onl rows = b := b_same (onl_lie P) hb
  walk_at "call"
  refine ⟨rows, 200, rfl, ok, ?_⟩
  rw [e1]
  walk_at "ret"
  walk_at "mi"
  walk_at "call"
  refine ⟨b, b, rfl, ?_⟩
  walk_at "ret"
  walk_at "mi"
  walk_at "call"
  refine ⟨rows, 200, rfl, ok, ?_⟩
  rw [e1]
  walk_at "ret"
  walk_at "mi"
  walk_at "call"
  refine ⟨b, b, rfl, ?_⟩
  walk_at "ret"
  walk_at "mi"
  refine ⟨v3s_cmp _ _, ?_⟩
  simp only [v3s_eqv]
  walk_at "mi"
  walk_at "call"
  refine ⟨sc, 11, rfl, by decide, by decide, fun r hr => ?_⟩
  refine ret_go rfl rfl (rest_res hr) ?_
  walk_at "mi"
  refine ⟨⟨by decide, by decide, by decide⟩, ?_⟩
  walk_at "call"
  refine ⟨r, 10 ^ 20, 67, rfl, hr, by decide, ⟨by decide, by decide⟩, fun v r' pv sv hr' => ?_⟩
  refine ret_go rfl (rest_lent hr') rfl ?_
  walk_at "mi"
  refine ⟨by rw [List.length_map]; omega, ?_⟩
  have P2 : ∀ u ∈ rows ++ [v], Plain u.l := fun u h => by
    rcases List.mem_append.mp h with h | h
    · exact P u h
    · rw [List.mem_singleton.mp h]; exact pv
  have ok2 : (rows ++ [v]).length < 1000 ∧ 200 < 20000 ∧ ∀ u ∈ rows ++ [v], u.sz 200 := ⟨by simp; omega, by decide, fun u h => by
    rcases List.mem_append.mp h with h | h
    · exact S u h
    · rw [List.mem_singleton.mp h]; exact v3_sz_le sv (by decide)⟩
  simp only [map_snoc]
  walk_at "call"
  refine ⟨rows ++ [v], 200, rfl, ok2, ?_⟩
  walk_at "ret"
  walk_at "mi"
  simp only [map_snoc]
  refine ⟨by simp only [List.length_map]; omega, ?_⟩
  walk_at "call"
  refine ⟨rows ++ [v], 200, rfl, ok2, fun b2 hb2 => ?_⟩
  walk_at "ret"
  walk_at "mi"
  have e2 : onl (rows ++ [v]) = b2 := b_same (onl_lie P2) hb2
  rw [e2]
  walk_at "call"
  refine ⟨b2, b2, rfl, ?_⟩
  walk_at "ret"
  walk_at "mi"
  have l1 : (List.map V3.d (rows ++ [v]))[(List.map V3.d (rows ++ [v])).length - 1]? = some v.d := by rw [← map_snoc]; exact pop_last _ _
  have l2 : (List.map V3.d (rows ++ [v])).dropLast = rows.map V3.d := by rw [← map_snoc, List.dropLast_concat]
  rw [l1, l2]
  walk_at "mi"
  walk_at "call"
  refine ⟨rows, 200, rfl, ok, ?_⟩
  rw [e1]
  walk_at "ret"
  walk_at "mi"
  walk_at "call"
  refine ⟨b, b, rfl, ?_⟩
  walk_at "ret"
  walk_at "mi"
  rw [← List.map_take]
  have P3 : ∀ u ∈ rows.take 2, Plain u.l := fun u h => P u (List.mem_of_mem_take h)
  walk_at "call"
  refine ⟨rows.take 2, 200, rfl, ⟨by have := List.length_take_le 2 rows; omega, by decide, fun u h => S u (List.mem_of_mem_take h)⟩, ?_⟩
  rw [(onl_lie P3).mpr (lie_two rows)]
  walk_at "ret"
  walk_at "mi"
  exact q _
end Mi
set_option Elab.async false
set_option linter.all false
set_option maxRecDepth 100000
namespace Mi
open PySem L2 PyProof.Rows
/-! the rows -/
def sAt (i : Nat) : Stmt := PySem.Challenge.pw_easelroom_k07_on_one_line.main.body.getD i (.Pass ⟨0, 0, 0, 0⟩)
abbrev s_dot : Stmt := sAt 2
abbrev s_lies_on : Stmt := sAt 3
abbrev s_cross : Stmt := sAt 1
abbrev s_on_line : Stmt := sAt 4
abbrev s__law_truth : Stmt := sAt 20
abbrev s__law_dot : Stmt := sAt 16
abbrev s__law_cross : Stmt := sAt 15
abbrev s__law_lie : Stmt := sAt 19
abbrev s__law_divisor : Stmt := sAt 12
abbrev s__law_plain : Stmt := sAt 13
abbrev s__law_digit : Stmt := sAt 9
abbrev s__law_number : Stmt := sAt 10
abbrev s__law_spot : Stmt := sAt 14
abbrev s__law_cell_at : Stmt := sAt 7
abbrev s__law_rest : Stmt := sAt 8
abbrev s_through_spot : Stmt := sAt 5
abbrev s__law_mixed : Stmt := sAt 17
abbrev s__law_spots : Stmt := sAt 18
abbrev s_law : Stmt := sAt 21
def n_dot : List Str := ["one", "other"]
def r_dot : Row := ⟨f_dot, n_dot, b_dot, s_dot⟩
def n_lies_on : List Str := ["spot", "line"]
def r_lies_on : Row := ⟨f_lies_on, n_lies_on, b_lies_on 0, s_lies_on⟩
def n_cross : List Str := ["one", "other", "a", "b", "c", "d", "e", "f"]
def r_cross : Row := ⟨f_cross, n_cross, b_cross, s_cross⟩
def n_on_line : List Str := ["spots", "spot", "line", "other"]
def r_on_line : Row := ⟨f_on_line, n_on_line, b_on_line 1 2, s_on_line⟩
def n__law_truth : List Str := ["found", "due"]
def r__law_truth : Row := ⟨f__law_truth, n__law_truth, b__law_truth, s__law_truth⟩
def n__law_dot : List Str := ["one", "other", "a", "b"]
def r__law_dot : Row := ⟨f__law_dot, n__law_dot, b__law_dot, s__law_dot⟩
def n__law_cross : List Str := ["one", "other", "found", "k"]
def r__law_cross : Row := ⟨f__law_cross, n__law_cross, b__law_cross, s__law_cross⟩
def n__law_lie : List Str := ["spots", "i", "j", "across", "k"]
def r__law_lie : Row := ⟨f__law_lie, n__law_lie, b__law_lie 5 6, s__law_lie⟩
def n__law_divisor : List Str := ["numbers", "found", "number", "one", "other"]
def r__law_divisor : Row := ⟨f__law_divisor, n__law_divisor, b__law_divisor, s__law_divisor⟩
def n__law_plain : List Str := ["numbers", "by", "number"]
def r__law_plain : Row := ⟨f__law_plain, n__law_plain, b__law_plain 8, s__law_plain⟩
def n__law_digit : List Str := ["rest", "many", "digit"]
def r__law_digit : Row := ⟨f__law_digit, n__law_digit, b__law_digit, s__law_digit⟩
def n__law_number : List Str := ["rest", "far", "way"]
def r__law_number : Row := ⟨f__law_number, n__law_number, b__law_number 10, s__law_number⟩
def n__law_spot : List Str := ["rest", "far", "numbers", "k"]
def r__law_spot : Row := ⟨f__law_spot, n__law_spot, b__law_spot 9 11, s__law_spot⟩
def n__law_cell_at : List Str := ["script", "k"]
def r__law_cell_at : Row := ⟨f__law_cell_at, n__law_cell_at, b__law_cell_at, s__law_cell_at⟩
def n__law_rest : List Str := ["script", "k", "cell", "one", "big", "j"]
def r__law_rest : Row := ⟨f__law_rest, n__law_rest, b__law_rest 13, s__law_rest⟩
def n_through_spot : List Str := ["lines"]
def r_through_spot : Row := ⟨f_through_spot, n_through_spot, b_through_spot 3, s_through_spot⟩
def n__law_mixed : List Str := ["one", "other", "rest", "left", "right", "numbers", "a", "b"]
def r__law_mixed : Row := ⟨f__law_mixed, n__law_mixed, b__law_mixed 9 11, s__law_mixed⟩
def n__law_spots : List Str := ["script", "rest", "many", "even", "odd", "spots", "k", "way"]
def r__law_spots : Row := ⟨f__law_spots, n__law_spots, b__law_spots 12 10 16 14, s__law_spots⟩
def n_law : List Str := ["script", "spots", "handed", "due", "more"]
def rowsL : List Row := [r_dot, r_lies_on, r_cross, r_on_line, r__law_truth, r__law_dot, r__law_cross, r__law_lie, r__law_divisor, r__law_plain, r__law_digit, r__law_number, r__law_spot, r__law_cell_at, r__law_rest, r_through_spot, r__law_mixed, r__law_spots]
def csL : List (Str × D) := []
def xsL : List Str := []
theorem k_dot : RowOk ⟨[], csL, xsL⟩ r_dot := by
  refine ⟨by decide +kernel, fun ds Q E h => ?_⟩
  exact t_dot ds Q E h
theorem k_lies_on : RowOk ⟨[r_dot.fi], csL, xsL⟩ r_lies_on := by
  refine ⟨by decide +kernel, fun ds Q E h => ?_⟩
  exact t_lies_on 0 rfl ds Q E h
theorem k_cross : RowOk ⟨[r_dot.fi, r_lies_on.fi], csL, xsL⟩ r_cross := by
  refine ⟨by decide +kernel, fun ds Q E h => ?_⟩
  exact t_cross ds Q E h
theorem k_on_line : RowOk ⟨[r_dot.fi, r_lies_on.fi, r_cross.fi], csL, xsL⟩ r_on_line := by
  refine ⟨by decide +kernel, fun ds Q E h => ?_⟩
  exact t_on_line 1 2 rfl rfl ds Q E h
theorem k__law_truth : RowOk ⟨[r_dot.fi, r_lies_on.fi, r_cross.fi, r_on_line.fi], csL, xsL⟩ r__law_truth := by
  refine ⟨by decide +kernel, fun ds Q E h => ?_⟩
  exact t__law_truth ds Q E h
theorem k__law_dot : RowOk ⟨[r_dot.fi, r_lies_on.fi, r_cross.fi, r_on_line.fi, r__law_truth.fi], csL, xsL⟩ r__law_dot := by
  refine ⟨by decide +kernel, fun ds Q E h => ?_⟩
  exact t__law_dot ds Q E h
theorem k__law_cross : RowOk ⟨[r_dot.fi, r_lies_on.fi, r_cross.fi, r_on_line.fi, r__law_truth.fi, r__law_dot.fi], csL, xsL⟩ r__law_cross := by
  refine ⟨by decide +kernel, fun ds Q E h => ?_⟩
  exact t__law_cross ds Q E h
theorem k__law_lie : RowOk ⟨[r_dot.fi, r_lies_on.fi, r_cross.fi, r_on_line.fi, r__law_truth.fi, r__law_dot.fi, r__law_cross.fi], csL, xsL⟩ r__law_lie := by
  refine ⟨by decide +kernel, fun ds Q E h => ?_⟩
  exact t__law_lie 5 6 rfl rfl ds Q E h
theorem k__law_divisor : RowOk ⟨[r_dot.fi, r_lies_on.fi, r_cross.fi, r_on_line.fi, r__law_truth.fi, r__law_dot.fi, r__law_cross.fi, r__law_lie.fi], csL, xsL⟩ r__law_divisor := by
  refine ⟨by decide +kernel, fun ds Q E h => ?_⟩
  exact t__law_divisor ds Q E h
theorem k__law_plain : RowOk ⟨[r_dot.fi, r_lies_on.fi, r_cross.fi, r_on_line.fi, r__law_truth.fi, r__law_dot.fi, r__law_cross.fi, r__law_lie.fi, r__law_divisor.fi], csL, xsL⟩ r__law_plain := by
  refine ⟨by decide +kernel, fun ds Q E h => ?_⟩
  exact t__law_plain 8 rfl ds Q E h
theorem k__law_digit : RowOk ⟨[r_dot.fi, r_lies_on.fi, r_cross.fi, r_on_line.fi, r__law_truth.fi, r__law_dot.fi, r__law_cross.fi, r__law_lie.fi, r__law_divisor.fi, r__law_plain.fi], csL, xsL⟩ r__law_digit := by
  refine ⟨by decide +kernel, fun ds Q E h => ?_⟩
  exact t_digit ds Q E h
theorem k__law_number : RowOk ⟨[r_dot.fi, r_lies_on.fi, r_cross.fi, r_on_line.fi, r__law_truth.fi, r__law_dot.fi, r__law_cross.fi, r__law_lie.fi, r__law_divisor.fi, r__law_plain.fi, r__law_digit.fi], csL, xsL⟩ r__law_number := by
  refine ⟨by decide +kernel, fun ds Q E h => ?_⟩
  exact t_number 10 rfl ds Q E h
theorem k__law_spot : RowOk ⟨[r_dot.fi, r_lies_on.fi, r_cross.fi, r_on_line.fi, r__law_truth.fi, r__law_dot.fi, r__law_cross.fi, r__law_lie.fi, r__law_divisor.fi, r__law_plain.fi, r__law_digit.fi, r__law_number.fi], csL, xsL⟩ r__law_spot := by
  refine ⟨by decide +kernel, fun ds Q E h => ?_⟩
  exact t__law_spot 9 11 rfl rfl ds Q E h
theorem k__law_cell_at : RowOk ⟨[r_dot.fi, r_lies_on.fi, r_cross.fi, r_on_line.fi, r__law_truth.fi, r__law_dot.fi, r__law_cross.fi, r__law_lie.fi, r__law_divisor.fi, r__law_plain.fi, r__law_digit.fi, r__law_number.fi, r__law_spot.fi], csL, xsL⟩ r__law_cell_at := by
  refine ⟨by decide +kernel, fun ds Q E h => ?_⟩
  exact t_cell ds Q E h
theorem k__law_rest : RowOk ⟨[r_dot.fi, r_lies_on.fi, r_cross.fi, r_on_line.fi, r__law_truth.fi, r__law_dot.fi, r__law_cross.fi, r__law_lie.fi, r__law_divisor.fi, r__law_plain.fi, r__law_digit.fi, r__law_number.fi, r__law_spot.fi, r__law_cell_at.fi], csL, xsL⟩ r__law_rest := by
  refine ⟨by decide +kernel, fun ds Q E h => ?_⟩
  exact t_rest 13 rfl ds Q E h
theorem k_through_spot : RowOk ⟨[r_dot.fi, r_lies_on.fi, r_cross.fi, r_on_line.fi, r__law_truth.fi, r__law_dot.fi, r__law_cross.fi, r__law_lie.fi, r__law_divisor.fi, r__law_plain.fi, r__law_digit.fi, r__law_number.fi, r__law_spot.fi, r__law_cell_at.fi, r__law_rest.fi], csL, xsL⟩ r_through_spot := by
  refine ⟨by decide +kernel, fun ds Q E h => ?_⟩
  exact t_through_spot 3 rfl ds Q E h
theorem k__law_mixed : RowOk ⟨[r_dot.fi, r_lies_on.fi, r_cross.fi, r_on_line.fi, r__law_truth.fi, r__law_dot.fi, r__law_cross.fi, r__law_lie.fi, r__law_divisor.fi, r__law_plain.fi, r__law_digit.fi, r__law_number.fi, r__law_spot.fi, r__law_cell_at.fi, r__law_rest.fi, r_through_spot.fi], csL, xsL⟩ r__law_mixed := by
  refine ⟨by decide +kernel, fun ds Q E h => ?_⟩
  exact t__law_mixed 9 11 rfl rfl ds Q E h
theorem k__law_spots : RowOk ⟨[r_dot.fi, r_lies_on.fi, r_cross.fi, r_on_line.fi, r__law_truth.fi, r__law_dot.fi, r__law_cross.fi, r__law_lie.fi, r__law_divisor.fi, r__law_plain.fi, r__law_digit.fi, r__law_number.fi, r__law_spot.fi, r__law_cell_at.fi, r__law_rest.fi, r_through_spot.fi, r__law_mixed.fi], csL, xsL⟩ r__law_spots := by
  refine ⟨by decide +kernel, fun ds Q E h => ?_⟩
  exact t__law_spots 12 10 16 14 rfl rfl rfl rfl ds Q E h
theorem ckL : ChkAll csL xsL [] rowsL := ⟨k_dot, k_lies_on, k_cross, k_on_line, k__law_truth, k__law_dot, k__law_cross, k__law_lie, k__law_divisor, k__law_plain, k__law_digit, k__law_number, k__law_spot, k__law_cell_at, k__law_rest, k_through_spot, k__law_mixed, k__law_spots, trivial⟩
theorem kl : scopeB n_law ["script"] (defScope s_law) = true ∧ okSs ⟨rowsL.map (·.fi), csL, xsL⟩ n_law (defScope s_law) (b_law 3 4 7 12 14 15 17) (defBody s_law) = true := by decide +kernel
theorem tl (ds : List D) (Q : D → List D → Prop) (E : Xn → List D → Prop) (h : lawT ds Q E) : bodyT ⟨rowsL.map (·.fi), csL, xsL⟩ n_law.length [false] false (b_law 3 4 7 12 14 15 17) ds Q E := t_law 3 4 7 12 14 15 17 rfl rfl rfl rfl rfl rfl rfl ds Q E h
theorem lensL : Lens ⟨rowsL.map (·.fi), csL, xsL⟩ := ⟨fun i fi h => by
  have h : fi ∈ rowsL.map (·.fi) := List.mem_of_getElem? h
  have a : (rowsL.map (·.fi)).all (fun g => g.lent.length == g.ps.length) = true := by decide +kernel
  exact beq_iff_eq.mp (List.all_eq_true.mp a fi h)⟩
theorem all_mk {l : PySem.W.OpenLaw} {w : World} {K : PySem.W.Frag} {h : Heap} {mg : Str → Option Value} {fa f0 f1 f2 f3 f4 f5 f6 f7 f8 f9 f10 f11 f12 f13 f14 f15 f16 f17 f18 : Addr} (X : K.In h) (Y : h.Ns mainGlobals mg) (hfa : mg "law" = some (.ref fa))
    {od0 an0 od1 an1 od2 an2 od3 an3 od4 an4 od5 an5 od6 an6 od7 an7 od8 an8 od9 an9 od10 an10 od11 an11 od12 an12 od13 an13 od14 an14 od15 an15 od16 an16 od17 an17 od18 an18 : Option Addr} {sl0 sl1 sl2 sl3 sl4 sl5 sl6 sl7 sl8 sl9 sl10 sl11 sl12 sl13 sl14 sl15 sl16 sl17 sl18 : Array (Option Value)} {oc0 kV0 dc0 pm0 cd0 ct0 oc1 kV1 dc1 pm1 cd1 ct1 oc2 kV2 dc2 pm2 cd2 ct2 oc3 kV3 dc3 pm3 cd3 ct3 oc4 kV4 dc4 pm4 cd4 ct4 oc5 kV5 dc5 pm5 cd5 ct5 oc6 kV6 dc6 pm6 cd6 ct6 oc7 kV7 dc7 pm7 cd7 ct7 oc8 kV8 dc8 pm8 cd8 ct8 oc9 kV9 dc9 pm9 cd9 ct9 oc10 kV10 dc10 pm10 cd10 ct10 oc11 kV11 dc11 pm11 cd11 ct11 oc12 kV12 dc12 pm12 cd12 ct12 oc13 kV13 dc13 pm13 cd13 ct13 oc14 kV14 dc14 pm14 cd14 ct14 oc15 kV15 dc15 pm15 cd15 ct15 oc16 kV16 dc16 pm16 cd16 ct16 oc17 kV17 dc17 pm17 cd17 ct17 oc18 kV18 dc18 pm18 cd18 ct18 : Value}
    (a0 : PySem.W.nsIn K mainGlobals "dot" = some (some (.ref f0))) (l0 : K.lookup f0 = some ⟨oc0, od0, .func (PySem.W.fnOf "dot" "dot" (defArgs s_dot) (defBody s_dot) (defScope s_dot) .none kV0 dc0 pm0 an0 cd0 ct0), sl0⟩) (c0 : PySem.W.codeIn K cd0 "dot" = true) (k0 : PySem.W.keepIn K (.ref f0) = true)
    (a1 : PySem.W.nsIn K mainGlobals "lies_on" = some (some (.ref f1))) (l1 : K.lookup f1 = some ⟨oc1, od1, .func (PySem.W.fnOf "lies_on" "lies_on" (defArgs s_lies_on) (defBody s_lies_on) (defScope s_lies_on) .none kV1 dc1 pm1 an1 cd1 ct1), sl1⟩) (c1 : PySem.W.codeIn K cd1 "lies_on" = true) (k1 : PySem.W.keepIn K (.ref f1) = true)
    (a2 : PySem.W.nsIn K mainGlobals "cross" = some (some (.ref f2))) (l2 : K.lookup f2 = some ⟨oc2, od2, .func (PySem.W.fnOf "cross" "cross" (defArgs s_cross) (defBody s_cross) (defScope s_cross) .none kV2 dc2 pm2 an2 cd2 ct2), sl2⟩) (c2 : PySem.W.codeIn K cd2 "cross" = true) (k2 : PySem.W.keepIn K (.ref f2) = true)
    (a3 : PySem.W.nsIn K mainGlobals "on_line" = some (some (.ref f3))) (l3 : K.lookup f3 = some ⟨oc3, od3, .func (PySem.W.fnOf "on_line" "on_line" (defArgs s_on_line) (defBody s_on_line) (defScope s_on_line) .none kV3 dc3 pm3 an3 cd3 ct3), sl3⟩) (c3 : PySem.W.codeIn K cd3 "on_line" = true) (k3 : PySem.W.keepIn K (.ref f3) = true)
    (a4 : PySem.W.nsIn K mainGlobals "_law_truth" = some (some (.ref f4))) (l4 : K.lookup f4 = some ⟨oc4, od4, .func (PySem.W.fnOf "_law_truth" "_law_truth" (defArgs s__law_truth) (defBody s__law_truth) (defScope s__law_truth) .none kV4 dc4 pm4 an4 cd4 ct4), sl4⟩) (c4 : PySem.W.codeIn K cd4 "_law_truth" = true) (k4 : PySem.W.keepIn K (.ref f4) = true)
    (a5 : PySem.W.nsIn K mainGlobals "_law_dot" = some (some (.ref f5))) (l5 : K.lookup f5 = some ⟨oc5, od5, .func (PySem.W.fnOf "_law_dot" "_law_dot" (defArgs s__law_dot) (defBody s__law_dot) (defScope s__law_dot) .none kV5 dc5 pm5 an5 cd5 ct5), sl5⟩) (c5 : PySem.W.codeIn K cd5 "_law_dot" = true) (k5 : PySem.W.keepIn K (.ref f5) = true)
    (a6 : PySem.W.nsIn K mainGlobals "_law_cross" = some (some (.ref f6))) (l6 : K.lookup f6 = some ⟨oc6, od6, .func (PySem.W.fnOf "_law_cross" "_law_cross" (defArgs s__law_cross) (defBody s__law_cross) (defScope s__law_cross) .none kV6 dc6 pm6 an6 cd6 ct6), sl6⟩) (c6 : PySem.W.codeIn K cd6 "_law_cross" = true) (k6 : PySem.W.keepIn K (.ref f6) = true)
    (a7 : PySem.W.nsIn K mainGlobals "_law_lie" = some (some (.ref f7))) (l7 : K.lookup f7 = some ⟨oc7, od7, .func (PySem.W.fnOf "_law_lie" "_law_lie" (defArgs s__law_lie) (defBody s__law_lie) (defScope s__law_lie) .none kV7 dc7 pm7 an7 cd7 ct7), sl7⟩) (c7 : PySem.W.codeIn K cd7 "_law_lie" = true) (k7 : PySem.W.keepIn K (.ref f7) = true)
    (a8 : PySem.W.nsIn K mainGlobals "_law_divisor" = some (some (.ref f8))) (l8 : K.lookup f8 = some ⟨oc8, od8, .func (PySem.W.fnOf "_law_divisor" "_law_divisor" (defArgs s__law_divisor) (defBody s__law_divisor) (defScope s__law_divisor) .none kV8 dc8 pm8 an8 cd8 ct8), sl8⟩) (c8 : PySem.W.codeIn K cd8 "_law_divisor" = true) (k8 : PySem.W.keepIn K (.ref f8) = true)
    (a9 : PySem.W.nsIn K mainGlobals "_law_plain" = some (some (.ref f9))) (l9 : K.lookup f9 = some ⟨oc9, od9, .func (PySem.W.fnOf "_law_plain" "_law_plain" (defArgs s__law_plain) (defBody s__law_plain) (defScope s__law_plain) .none kV9 dc9 pm9 an9 cd9 ct9), sl9⟩) (c9 : PySem.W.codeIn K cd9 "_law_plain" = true) (k9 : PySem.W.keepIn K (.ref f9) = true)
    (a10 : PySem.W.nsIn K mainGlobals "_law_digit" = some (some (.ref f10))) (l10 : K.lookup f10 = some ⟨oc10, od10, .func (PySem.W.fnOf "_law_digit" "_law_digit" (defArgs s__law_digit) (defBody s__law_digit) (defScope s__law_digit) .none kV10 dc10 pm10 an10 cd10 ct10), sl10⟩) (c10 : PySem.W.codeIn K cd10 "_law_digit" = true) (k10 : PySem.W.keepIn K (.ref f10) = true)
    (a11 : PySem.W.nsIn K mainGlobals "_law_number" = some (some (.ref f11))) (l11 : K.lookup f11 = some ⟨oc11, od11, .func (PySem.W.fnOf "_law_number" "_law_number" (defArgs s__law_number) (defBody s__law_number) (defScope s__law_number) .none kV11 dc11 pm11 an11 cd11 ct11), sl11⟩) (c11 : PySem.W.codeIn K cd11 "_law_number" = true) (k11 : PySem.W.keepIn K (.ref f11) = true)
    (a12 : PySem.W.nsIn K mainGlobals "_law_spot" = some (some (.ref f12))) (l12 : K.lookup f12 = some ⟨oc12, od12, .func (PySem.W.fnOf "_law_spot" "_law_spot" (defArgs s__law_spot) (defBody s__law_spot) (defScope s__law_spot) .none kV12 dc12 pm12 an12 cd12 ct12), sl12⟩) (c12 : PySem.W.codeIn K cd12 "_law_spot" = true) (k12 : PySem.W.keepIn K (.ref f12) = true)
    (a13 : PySem.W.nsIn K mainGlobals "_law_cell_at" = some (some (.ref f13))) (l13 : K.lookup f13 = some ⟨oc13, od13, .func (PySem.W.fnOf "_law_cell_at" "_law_cell_at" (defArgs s__law_cell_at) (defBody s__law_cell_at) (defScope s__law_cell_at) .none kV13 dc13 pm13 an13 cd13 ct13), sl13⟩) (c13 : PySem.W.codeIn K cd13 "_law_cell_at" = true) (k13 : PySem.W.keepIn K (.ref f13) = true)
    (a14 : PySem.W.nsIn K mainGlobals "_law_rest" = some (some (.ref f14))) (l14 : K.lookup f14 = some ⟨oc14, od14, .func (PySem.W.fnOf "_law_rest" "_law_rest" (defArgs s__law_rest) (defBody s__law_rest) (defScope s__law_rest) .none kV14 dc14 pm14 an14 cd14 ct14), sl14⟩) (c14 : PySem.W.codeIn K cd14 "_law_rest" = true) (k14 : PySem.W.keepIn K (.ref f14) = true)
    (a15 : PySem.W.nsIn K mainGlobals "through_spot" = some (some (.ref f15))) (l15 : K.lookup f15 = some ⟨oc15, od15, .func (PySem.W.fnOf "through_spot" "through_spot" (defArgs s_through_spot) (defBody s_through_spot) (defScope s_through_spot) .none kV15 dc15 pm15 an15 cd15 ct15), sl15⟩) (c15 : PySem.W.codeIn K cd15 "through_spot" = true) (k15 : PySem.W.keepIn K (.ref f15) = true)
    (a16 : PySem.W.nsIn K mainGlobals "_law_mixed" = some (some (.ref f16))) (l16 : K.lookup f16 = some ⟨oc16, od16, .func (PySem.W.fnOf "_law_mixed" "_law_mixed" (defArgs s__law_mixed) (defBody s__law_mixed) (defScope s__law_mixed) .none kV16 dc16 pm16 an16 cd16 ct16), sl16⟩) (c16 : PySem.W.codeIn K cd16 "_law_mixed" = true) (k16 : PySem.W.keepIn K (.ref f16) = true)
    (a17 : PySem.W.nsIn K mainGlobals "_law_spots" = some (some (.ref f17))) (l17 : K.lookup f17 = some ⟨oc17, od17, .func (PySem.W.fnOf "_law_spots" "_law_spots" (defArgs s__law_spots) (defBody s__law_spots) (defScope s__law_spots) .none kV17 dc17 pm17 an17 cd17 ct17), sl17⟩) (c17 : PySem.W.codeIn K cd17 "_law_spots" = true) (k17 : PySem.W.keepIn K (.ref f17) = true)
    (a18 : PySem.W.nsIn K mainGlobals "law" = some (some (.ref f18))) (l18 : K.lookup f18 = some ⟨oc18, od18, .func (PySem.W.fnOf "law" "law" (defArgs s_law) (defBody s_law) (defScope s_law) .none kV18 dc18 pm18 an18 cd18 ct18), sl18⟩) (c18 : PySem.W.codeIn K cd18 "law" = true) (k18 : PySem.W.keepIn K (.ref f18) = true)
    (z0 : PySem.W.nsIn K mainGlobals "len" = some none) (z1 : PySem.W.nsIn K mainGlobals "abs" = some none) (z2 : PySem.W.nsIn K mainGlobals "max" = some none) (z3 : PySem.W.nsIn K mainGlobals "min" = some none) (z4 : PySem.W.nsIn K mainGlobals "sum" = some none) (z5 : PySem.W.nsIn K mainGlobals "tuple" = some none) (z6 : PySem.W.nsIn K mainGlobals "list" = some none) (z7 : PySem.W.nsIn K mainGlobals "all" = some none) (z8 : PySem.W.nsIn K mainGlobals "any" = some none) (z9 : PySem.W.nsIn K mainGlobals "int" = some none) (z10 : PySem.W.nsIn K mainGlobals "bool" = some none) (z11 : PySem.W.nsIn K mainGlobals "str" = some none) (z12 : PySem.W.nsIn K mainGlobals "isinstance" = some none) (z13 : PySem.W.nsIn K mainGlobals "range" = some none) (z14 : PySem.W.nsIn K mainGlobals "zip" = some none) (z15 : PySem.W.nsIn K mainGlobals "reversed" = some none)
    : ∃ fd : FuncData, (∀ (s : Shared) (v : Value), BindsTo s fd ⟨[v], []⟩ [("script", v)]) ∧ ∀ base : Heap, K.In base → base.Ns mainGlobals mg → FnOk l.prog w K mg base (L2.CX l.prog w) 19 fa fd ["script"] (spLaw K) := by
  have e := hfa.symm.trans (PySem.W.mg_of X Y a18)
  cases e
  have bl : ∀ n ∈ bltNames, mg n = none := by
    refine List.forall_mem_cons.mpr ⟨PySem.W.mg_none_of X Y z0, List.forall_mem_cons.mpr ⟨PySem.W.mg_none_of X Y z1, List.forall_mem_cons.mpr ⟨PySem.W.mg_none_of X Y z2, List.forall_mem_cons.mpr ⟨PySem.W.mg_none_of X Y z3, List.forall_mem_cons.mpr ⟨PySem.W.mg_none_of X Y z4, List.forall_mem_cons.mpr ⟨PySem.W.mg_none_of X Y z5, List.forall_mem_cons.mpr ⟨PySem.W.mg_none_of X Y z6, List.forall_mem_cons.mpr ⟨PySem.W.mg_none_of X Y z7, List.forall_mem_cons.mpr ⟨PySem.W.mg_none_of X Y z8, List.forall_mem_cons.mpr ⟨PySem.W.mg_none_of X Y z9, List.forall_mem_cons.mpr ⟨PySem.W.mg_none_of X Y z10, List.forall_mem_cons.mpr ⟨PySem.W.mg_none_of X Y z11, List.forall_mem_cons.mpr ⟨PySem.W.mg_none_of X Y z12, List.forall_mem_cons.mpr ⟨PySem.W.mg_none_of X Y z13, List.forall_mem_cons.mpr ⟨PySem.W.mg_none_of X Y z14, List.forall_mem_cons.mpr ⟨PySem.W.mg_none_of X Y z15, fun _ h => absurd h (List.not_mem_nil)⟩⟩⟩⟩⟩⟩⟩⟩⟩⟩⟩⟩⟩⟩⟩⟩
  have fn : FunAll K mg rowsL := ⟨fun_at (r := r_dot) X Y a0 l0 c0 k0 (fun us hu => match us, hu with | [_, _], _ => rfl), fun_at (r := r_lies_on) X Y a1 l1 c1 k1 (fun us hu => match us, hu with | [_, _], _ => rfl), fun_at (r := r_cross) X Y a2 l2 c2 k2 (fun us hu => match us, hu with | [_, _], _ => rfl), fun_at (r := r_on_line) X Y a3 l3 c3 k3 (fun us hu => match us, hu with | [_], _ => rfl), fun_at (r := r__law_truth) X Y a4 l4 c4 k4 (fun us hu => match us, hu with | [_, _], _ => rfl), fun_at (r := r__law_dot) X Y a5 l5 c5 k5 (fun us hu => match us, hu with | [_, _], _ => rfl), fun_at (r := r__law_cross) X Y a6 l6 c6 k6 (fun us hu => match us, hu with | [_, _], _ => rfl), fun_at (r := r__law_lie) X Y a7 l7 c7 k7 (fun us hu => match us, hu with | [_], _ => rfl), fun_at (r := r__law_divisor) X Y a8 l8 c8 k8 (fun us hu => match us, hu with | [_], _ => rfl), fun_at (r := r__law_plain) X Y a9 l9 c9 k9 (fun us hu => match us, hu with | [_], _ => rfl), fun_at (r := r__law_digit) X Y a10 l10 c10 k10 (fun us hu => match us, hu with | [_, _], _ => rfl), fun_at (r := r__law_number) X Y a11 l11 c11 k11 (fun us hu => match us, hu with | [_, _], _ => rfl), fun_at (r := r__law_spot) X Y a12 l12 c12 k12 (fun us hu => match us, hu with | [_, _], _ => rfl), fun_at (r := r__law_cell_at) X Y a13 l13 c13 k13 (fun us hu => match us, hu with | [_, _], _ => rfl), fun_at (r := r__law_rest) X Y a14 l14 c14 k14 (fun us hu => match us, hu with | [_, _], _ => rfl), fun_at (r := r_through_spot) X Y a15 l15 c15 k15 (fun us hu => match us, hu with | [_], _ => rfl), fun_at (r := r__law_mixed) X Y a16 l16 c16 k16 (fun us hu => match us, hu with | [_, _, _], _ => rfl), fun_at (r := r__law_spots) X Y a17 l17 c17 k17 (fun us hu => match us, hu with | [_], _ => rfl), trivial⟩
  refine ⟨PySem.W.fnOf "law" "law" (defArgs s_law) (defBody s_law) (defScope s_law) .none kV18 dc18 pm18 an18 cd18 ct18, fun s v => .of_eq rfl, fun base _ _ => ?_⟩
  have A := all_ok (P := l.prog) (w := w) (K := K) (mg := mg) (base := base) (rows := rowsL) (cs := csL) (xs := xsL) bl trivial trivial ckL fn
  exact law_of (def_ok (fi := lawFi) (fun_mk (st := s_law) l18 c18 k18) (scope_of kl.1) A lensL rfl kl.2 tl)
end Mi
open PySem PySem.W PyProof.Rows
set_option maxRecDepth 100000 in
set_option maxHeartbeats 0 in
theorem PySem.Challenge.cw_easelroom_k07_on_one_line_holds : PySem.Challenge.rw_easelroom_k07_on_one_line.Holds := by
  w_on; o_law; k_head; (case hw => w_witness2)
  k_fill
  refine Mi.walk_law (l := PySem.Challenge.rw_easelroom_k07_on_one_line) (k := 19) rfl rfl ⟨rfl, by decide, by decide⟩ (fun w h Y => PySem.W.kIn_of Y) ?F
  case F =>
    intro w mg fa h KX Y hmg
    refine' Mi.all_mk (l := PySem.Challenge.rw_easelroom_k07_on_one_line) KX Y hmg ?a0 ?l0 ?c0 ?k0 ?a1 ?l1 ?c1 ?k1 ?a2 ?l2 ?c2 ?k2 ?a3 ?l3 ?c3 ?k3 ?a4 ?l4 ?c4 ?k4 ?a5 ?l5 ?c5 ?k5 ?a6 ?l6 ?c6 ?k6 ?a7 ?l7 ?c7 ?k7 ?a8 ?l8 ?c8 ?k8 ?a9 ?l9 ?c9 ?k9 ?a10 ?l10 ?c10 ?k10 ?a11 ?l11 ?c11 ?k11 ?a12 ?l12 ?c12 ?k12 ?a13 ?l13 ?c13 ?k13 ?a14 ?l14 ?c14 ?k14 ?a15 ?l15 ?c15 ?k15 ?a16 ?l16 ?c16 ?k16 ?a17 ?l17 ?c17 ?k17 ?a18 ?l18 ?c18 ?k18 ?z0 ?z1 ?z2 ?z3 ?z4 ?z5 ?z6 ?z7 ?z8 ?z9 ?z10 ?z11 ?z12 ?z13 ?z14 ?z15
    (case a0 => k_is); (case l0 => k_is); (case c0 => k_is); (case k0 => k_is); (case a1 => k_is); (case l1 => k_is); (case c1 => k_is); (case k1 => k_is)
    (case a2 => k_is); (case l2 => k_is); (case c2 => k_is); (case k2 => k_is); (case a3 => k_is); (case l3 => k_is); (case c3 => k_is); (case k3 => k_is)
    (case a4 => k_is); (case l4 => k_is); (case c4 => k_is); (case k4 => k_is); (case a5 => k_is); (case l5 => k_is); (case c5 => k_is); (case k5 => k_is)
    (case a6 => k_is); (case l6 => k_is); (case c6 => k_is); (case k6 => k_is); (case a7 => k_is); (case l7 => k_is); (case c7 => k_is); (case k7 => k_is)
    (case a8 => k_is); (case l8 => k_is); (case c8 => k_is); (case k8 => k_is); (case a9 => k_is); (case l9 => k_is); (case c9 => k_is); (case k9 => k_is)
    (case a10 => k_is); (case l10 => k_is); (case c10 => k_is); (case k10 => k_is); (case a11 => k_is); (case l11 => k_is); (case c11 => k_is); (case k11 => k_is)
    (case a12 => k_is); (case l12 => k_is); (case c12 => k_is); (case k12 => k_is); (case a13 => k_is); (case l13 => k_is); (case c13 => k_is); (case k13 => k_is)
    (case a14 => k_is); (case l14 => k_is); (case c14 => k_is); (case k14 => k_is); (case a15 => k_is); (case l15 => k_is); (case c15 => k_is); (case k15 => k_is)
    (case a16 => k_is); (case l16 => k_is); (case c16 => k_is); (case k16 => k_is); (case a17 => k_is); (case l17 => k_is); (case c17 => k_is); (case k17 => k_is)
    (case a18 => k_is); (case l18 => k_is); (case c18 => k_is); (case k18 => k_is); (case z0 => k_is); (case z1 => k_is); (case z2 => k_is); (case z3 => k_is)
    (case z4 => k_is); (case z5 => k_is); (case z6 => k_is); (case z7 => k_is); (case z8 => k_is); (case z9 => k_is); (case z10 => k_is); (case z11 => k_is)
    (case z12 => k_is); (case z13 => k_is); (case z14 => k_is); (case z15 => k_is)
