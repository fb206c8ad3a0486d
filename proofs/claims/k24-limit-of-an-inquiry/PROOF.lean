import PyProof.Rows.All
import HandS.HeadWalk
import Wide.All
import OpenK.AllK
import Wide.FinOn
import HandS.ForMost
import HandS.Exc
import HandS.TryOnly
import HandS.TryMany
import HandS.ExcOwn
import HandS.CallSlots
import HandS.Defaults
import HandS.MakeKw
import HandS.MakeKwOnly
import HandS.WordsExc
import HandS.Wide
import HandS.IsInst
import HandS.Style
import HandS.TupLe
import HandS.TupLen
import HandS.Iter
import HandS.Zip
import HandS.ClsMeth
import HandS.Nested
import HandS.ExcInit
import HandS.ExcIs
import HandS.ExcField
import KE.KExcLine
import HandS.Head2
import HandS.HeadEnd
import HandS.HeadHook2
import HandS.EndBits
import HandS.More
import HandS.Property
import HandS.Star
import HandS.Deep
import OpenK.KMeth
import OpenK.KMore
import PySem.Builtin.Int.Common
import PySem.Challenge.RW_coulter_k24_limit_of_an_inquiry
/-! Dl: data without addresses. What a def of the program computes, as a plain Lean function over data, a frame of slots and a short list of cells (the objects that the def changes). No machine in sight. -/
namespace Dl

/-- a text: its signs -/
abbrev Txt := List Nat
inductive D where
  | non | bl (b : Bool) | int (i : Int) | str (s : Txt)
  | lst (xs : List D) | tup (xs : List D)
  /-- a list that is read alone -/
  | slst (xs : List D)
  | stup (xs : List D)
  /-- an instance that is never changed any more: its class, its fields in their order -/
  | obj (c : Nat) (xs : List D)
  /-- a class of the program -/
  | cls (c : Nat)
inductive Rv where
  | d (x : D)
  | loc (n : Nat)
abbrev Key := Sum Int Txt
inductive Cell where
  | lst (xs : List D)
  | dK (kvs : List (Key × D))
  | dT (kvs : List (List Key × D))
  /-- a dict whose keys are written in the text -/
  | rcd (ks : List Txt) (xs : List Rv)
  | obj (c : Nat) (xs : List Rv)
  /-- a list whose items may be cells -/
  | seq (xs : List Rv)
  /-- a dict that a loop walks: it is read alone -/
  | fz (c : Cell)
  | dead
/-- no cell that is locked or gone -/
def Cell.live : Cell → Bool
  | .fz _ => false
  | .dead => false
  | _ => true
abbrev Led := List Cell
abbrev Env := List (Option Rv)
inductive Res (α : Type) where
  | ok (a : α) (L : Led)
  | exc (c : Nat) (xs : List D) (L : Led)
  | bad
abbrev Fn := List Rv → Led → Res Rv
abbrev DE := Env → Led → Res Rv
abbrev DT := Env → Led → Res Bool
abbrev DA := Env → Led → Res (List Rv)

def Res.bind {α β : Type} (r : Res α) (k : α → Led → Res β) : Res β := match r with
  | .ok a L => k a L
  | .exc c xs L => .exc c xs L
  | .bad => .bad
@[simp] theorem Res.bind_ok {α β : Type} (a : α) (L : Led) (k : α → Led → Res β) : (Res.ok a L).bind k = k a L := rfl
@[simp] theorem Res.bind_exc {α β : Type} (c : Nat) (xs : List D) (L : Led) (k : α → Led → Res β) : (Res.exc c xs L : Res α).bind k = .exc c xs L := rfl
@[simp] theorem Res.bind_bad {α β : Type} (k : α → Led → Res β) : (Res.bad : Res α).bind k = .bad := rfl

/-- the largest length -/
abbrev SZ : Nat := 16777216

/-! ### expressions -/
def cE (x : D) : DE := fun _ L => .ok (.d x) L
def varE (i : Nat) : DE := fun ρ L => match ρ[i]? with
  | some (some v) => .ok v L
  | _ => .bad
abbrev V1 := Rv → Led → Res Rv
abbrev V2 := Rv → Rv → Led → Res Rv
abbrev VN := List Rv → Led → Res Rv
def e1 (f : V1) (a : DE) : DE := fun ρ L => (a ρ L).bind f
def e2 (f : V2) (a b : DE) : DE := fun ρ L => (a ρ L).bind fun x L1 => (b ρ L1).bind fun y L2 => f x y L2
def aN : DA := fun _ L => .ok [] L
def aC (a : DE) (r : DA) : DA := fun ρ L => (a ρ L).bind fun x L1 => (r ρ L1).bind fun xs L2 => .ok (x :: xs) L2
def eN (f : VN) (a : DA) : DE := fun ρ L => (a ρ L).bind f

def ii (g : Int → Int → D) : V2 := fun x y L => match x, y with
  | .d (.int i), .d (.int j) => .ok (.d (g i j)) L
  | _, _ => .bad
/-- a list's items, a tuple's -/
def itemsL (L : Led) : Rv → Option (List D)
  | .d (.lst xs) => some xs
  | .loc n => (match L[n]? with
    | some (.lst xs) => some xs
    | _ => none)
  | _ => none
def itemsT : Rv → Option (List D)
  | .d (.tup xs) => some xs
  | _ => none
def items (L : Led) (v : Rv) : Option (List D) := match v with
  | .d (.tup xs) => some xs
  | .d (.slst xs) => some xs
  | v => itemsL L v
/-- a new list: a cell of its own (box), or data -/
def mkL (box : Bool) (xs : List D) (L : Led) : Res Rv := match box with
  | true => .ok (.loc L.length) (L ++ [.lst xs])
  | false => .ok (.d (.lst xs)) L
def pureD : Rv → Option D
  | .d x => some x
  | .loc _ => none
def pures : List Rv → Option (List D)
  | [] => some []
  | .d x :: r => (pures r).map (x :: ·)
  | .loc _ :: _ => none
def isB (i : Int) : Bool := decide (-(2 ^ 64) < i) && decide (i < 2 ^ 64)

def addV (box : Bool) : V2 := fun x y L => match x, y with
  | .d (.int i), .d (.int j) => .ok (.d (.int (i + j))) L
  | .d (.str s), .d (.str t) => if s.length + t.length ≤ SZ then .ok (.d (.str (s ++ t))) L else .bad
  | x, y => match itemsL L x, itemsL L y with
    | some xs, some ys => if xs.length + ys.length ≤ SZ then mkL box (xs ++ ys) L else .bad
    | _, _ => .bad
def subV : V2 := ii fun i j => .int (i - j)
def mulV (box : Bool) : V2 := fun x y L => match x, y with
  | .d (.int i), .d (.int j) => if isB i || isB j then .ok (.d (.int (i * j))) L else .bad
  | x, .d (.int k) => (match itemsL L x with
    | some xs => if decide (k < 2 ^ 62) && (decide (-(2 ^ 62) < k) && decide (xs.length * k.toNat ≤ SZ)) then mkL box (List.replicate k.toNat xs).flatten L else .bad
    | _ => .bad)
  | _, _ => .bad
def isDiv (j : Int) : Bool := decide (0 < j) && decide (j < 2 ^ 62)
def divV : V2 := fun x y L => match x, y with
  | .d (.int i), .d (.int j) => if isDiv j then .ok (.d (.int (i / j))) L else .bad
  | _, _ => .bad
def modV : V2 := fun x y L => match x, y with
  | .d (.int i), .d (.int j) => if decide (0 < j) then .ok (.d (.int (i % j))) L else .bad
  | _, _ => .bad
def powV : V2 := fun x y L => match x, y with
  | .d (.int i), .d (.int j) => if (decide (0 ≤ j) && decide (j ≤ 1000)) && (decide (-(2 ^ 63) < i) && decide (i < 2 ^ 63)) then .ok (.d (.int (i ^ j.toNat))) L else .bad
  | _, _ => .bad
def negV : V1 := fun x L => match x with
  | .d (.int i) => .ok (.d (.int (-i))) L
  | _ => .bad
def ltV : V2 := ii fun i j => .bl (decide (i < j))
def leV : V2 := ii fun i j => .bl (decide (i ≤ j))
def gtV : V2 := ii fun i j => .bl (decide (j < i))
def geV : V2 := ii fun i j => .bl (decide (j ≤ i))

mutual
/-- == of data -/
def deq : D → D → Bool
  | .non, .non => true
  | .bl a, .bl b => a == b
  | .int a, .int b => a == b
  | .str a, .str b => a == b
  | .lst a, .lst b => deqs a b
  | .tup a, .tup b => deqs a b
  | .bl a, .int b => (if a then 1 else 0) == b
  | .int a, .bl b => a == (if b then 1 else 0)
  | _, _ => false
def deqs : List D → List D → Bool
  | [], [] => true
  | a :: r, b :: s => deq a b && deqs r s
  | _, _ => false
end
mutual
/-- data that == may be asked of as data: no instance, no class within; its depth at most n -/
def plain : Nat → D → Bool
  | 0, _ => false
  | _ + 1, .non => true
  | _ + 1, .bl _ => true
  | _ + 1, .int _ => true
  | _ + 1, .str s => s.all fun c => decide (c < 1114112)
  | n + 1, .lst xs => plains n xs
  | n + 1, .tup xs => plains n xs
  | _ + 1, .slst _ => false
  | _ + 1, .stup _ => false
  | _ + 1, .obj _ _ => false
  | _ + 1, .cls _ => false
def plains : Nat → List D → Bool
  | _, [] => true
  | n, x :: r => plain n x && plains n r
end
/-- a value as data -/
def asD (L : Led) : Rv → Option D
  | .d x => some x
  | .loc n => (match L[n]? with
    | some (.lst xs) => some (.lst xs)
    | _ => none)
def scal : D → D → Bool
  | .non, .non => true | .non, .int _ => true | .int _, .non => true | .non, .bl _ => true | .bl _, .non => true | .non, .str _ => true | .str _, .non => true
  | .int _, .int _ => true | .bl _, .bl _ => true | .str _, .str _ => true
  | .int _, .str _ => true | .str _, .int _ => true | .bl _, .str _ => true | .str _, .bl _ => true
  | _, _ => false
def eqV (neg : Bool) : V2 := fun x y L => match asD L x, asD L y with
  | some a, some b => if scal a b || (plain 8 a && plain 8 b) then .ok (.d (.bl (deq a b != neg))) L else .bad
  | _, _ => .bad
/-- is None, is not None -/
def isNon : Rv → Bool
  | .d .non => true
  | _ => false
def isNV (neg : Bool) : V1 := fun x L => .ok (.d (.bl (isNon x != neg))) L
/-- is True, is False, is not .. (of bools) -/
def isBV (neg b : Bool) : V1 := fun x L => match x with
  | .d (.bl c) => .ok (.d (.bl ((c == b) != neg))) L
  | _ => .bad

/-- x is y, y a written None, True or False -/
def isV (neg : Bool) : V2 := fun x y L => match y with
  | .d .non => isNV neg x L
  | .d (.bl b) => isBV neg b x L
  | _ => .bad

/-! ### items -/
def ixN (n : Nat) (i : Int) : Option Nat := if 0 ≤ i then (if i < n then some i.toNat else none) else if -(n : Int) ≤ i then some (i + n).toNat else none
def atI {α : Type} (xs : List α) (i : Int) : Option α := (ixN xs.length i).bind fun j => xs[j]?
def keyOf : D → Option Key
  | .int i => some (.inl i)
  | .str s => some (.inr s)
  | _ => none
def keysOf : List D → Option (List Key)
  | [] => some []
  | x :: r => (keyOf x).bind fun k => (keysOf r).map (k :: ·)
def look {κ : Type} [DecidableEq κ] {α : Type} : List (κ × α) → κ → Option α
  | [], _ => none
  | (k, v) :: r, x => if k = x then some v else look r x
def put {κ : Type} [DecidableEq κ] {α : Type} (l : List (κ × α)) (x : κ) (v : α) : List (κ × α) := if (l.any fun p => decide (p.1 = x)) = true then l.map (fun p => if p.1 = x then (p.1, v) else p) else l ++ [(x, v)]
def drop1 {κ : Type} [DecidableEq κ] {α : Type} (l : List (κ × α)) (x : κ) : List (κ × α) := l.filter fun p => !decide (p.1 = x)
def rlook : List Txt → List Rv → Txt → Option Rv
  | k :: ks, v :: vs, x => if k = x then some v else rlook ks vs x
  | _, _, _ => none
def rput (ks : List Txt) (vs : List Rv) (x : Txt) (w : Rv) : List Txt × List Rv := if x ∈ ks then (ks, List.zipWith (fun k v => if k = x then w else v) ks vs) else (ks ++ [x], vs ++ [w])
/-- what a dict's cell holds at a key; none: no such key -/
def dget0 (c : Cell) (x : D) : Option (Option Rv) := match c, x with
  | .dK kvs, x => (keyOf x).map fun k => (look kvs k).map .d
  | .dT kvs, .tup xs => (keysOf xs).map fun k => (look kvs k).map .d
  | .rcd ks vs, .str s => some (rlook ks vs s)
  | _, _ => none
def dget (c : Cell) (x : D) : Option (Option Rv) := match c with
  | .fz c => dget0 c x
  | c => dget0 c x
def ixV : V2 := fun x y L => match x, y with
  | .loc n, .d k => (match L[n]? with
    | some (.lst xs) => (match k with
      | .int i => (match atI xs i with
        | some v => .ok (.d v) L
        | none => .bad)
      | _ => .bad)
    | some (.seq xs) => (match k with
      | .int i => (match atI xs i with
        | some v => .ok v L
        | none => .bad)
      | _ => .bad)
    | some c => (match dget c k with
      | some (some v) => .ok v L
      | _ => .bad)
    | none => .bad)
  | .d (.lst xs), .d (.int i) => (match atI xs i with
    | some v => .ok (.d v) L
    | none => .bad)
  | .d (.tup xs), .d (.int i) => (match atI xs i with
    | some v => .ok (.d v) L
    | none => .bad)
  | .d (.str s), .d (.int i) => (match atI s i with
    | some c => if s.length ≤ SZ then .ok (.d (.str [c])) L else .bad
    | none => .bad)
  | _, _ => .bad
def sIx (n d : Nat) : Option Int → Nat
  | none => d
  | some i => if i < 0 then (i + n).toNat else min i.toNat n
def cut {α : Type} (xs : List α) (lo hi : Option Int) : List α := (xs.drop (sIx xs.length 0 lo)).take (sIx xs.length xs.length hi - sIx xs.length 0 lo)

/-- xs[lo:hi], s[lo:hi] -/
def sliceV (box : Bool) (x : Rv) (lo hi : Option Int) (L : Led) : Res Rv := match x with
  | .d (.str s) => if s.length ≤ SZ then .ok (.d (.str (cut s lo hi))) L else .bad
  | x => (match itemsL L x with
    | some xs => mkL box (cut xs lo hi) L
    | none => .bad)
abbrev DO := Env → Led → Res (Option Int)
def oNone : DO := fun _ L => .ok none L
def oSome (e : DE) : DO := fun ρ L => (e ρ L).bind fun x L1 => match x with
  | .d (.int i) => .ok (some i) L1
  | _ => .bad
def eSlice (box : Bool) (e : DE) (lo hi : DO) : DE := fun ρ L => (e ρ L).bind fun x L1 => (lo ρ L1).bind fun l L2 => (hi ρ L2).bind fun h L3 => sliceV box x l h L3

/-- x in y, x not in y -/
def inL (neg : Bool) (x : Rv) (xs : List D) (L : Led) : Res Rv := match asD L x with
  | some d => if (plain 8 d && plain 8 (.lst xs)) = true then .ok (.d (.bl ((xs.any fun z => deq z d) != neg))) L else .bad
  | none => .bad
def inC (neg : Bool) (x : Rv) (c : Cell) (L : Led) : Res Rv := match x with
  | .d k => (match dget c k with
    | some o => .ok (.d (.bl (o.isSome != neg))) L
    | none => .bad)
  | _ => .bad
def inV (neg : Bool) : V2 := fun x y L => match y with
  | .d (.lst xs) => inL neg x xs L
  | .loc n => (match L[n]? with
    | some (.lst xs) => inL neg x xs L
    | some c => inC neg x c L
    | none => .bad)
  | _ => .bad
def divmod2 : V2 := fun x y L => match x, y with
  | .d (.int i), .d (.int j) => if (decide (0 < j) && decide (j < 1073741824)) = true then .ok (.d (.tup [.int (i / j), .int (i % j)])) L else .bad
  | _, _ => .bad

/-! ### displays -/
def lstV (box : Bool) : VN := fun xs L => match pures xs with
  | some ds => if ds.length ≤ SZ then mkL box ds L else .bad
  | none => if xs.length ≤ SZ then .ok (.loc L.length) (L ++ [.seq xs]) else .bad
def tupV : VN := fun xs L => match pures xs with
  | some ds => if ds.length ≤ SZ then .ok (.d (.tup ds)) L else .bad
  | none => .bad
/-- {k: v, ..}, keys written -/
def dictV (ks : List Txt) : VN := fun xs L => if ks.length = xs.length ∧ ks.Nodup ∧ ks.length ≤ 15 then .ok (.loc L.length) (L ++ [.rcd ks xs]) else .bad
/-- {} -/
def newK : DE := fun _ L => .ok (.loc L.length) (L ++ [.dK []])
def newT : DE := fun _ L => .ok (.loc L.length) (L ++ [.dT []])

/-! ### tests -/
def truth (L : Led) : Rv → Option Bool
  | .d .non => some false
  | .d (.bl b) => some b
  | .d (.int i) => some (decide (i ≠ 0))
  | .d (.str s) => if s.length ≤ SZ then some (!s.isEmpty) else none
  | .d (.lst xs) => some (!xs.isEmpty)
  | .d (.tup xs) => some (!xs.isEmpty)
  | .loc n => (match L[n]? with
    | some (.lst xs) => some (!xs.isEmpty)
    | some (.seq xs) => some (!xs.isEmpty)
    | _ => none)
  | _ => none
def tB (a : DE) : DT := fun ρ L => (a ρ L).bind fun x L1 => match x with
  | .d (.bl b) => .ok b L1
  | _ => .bad
def tTru (a : DE) : DT := fun ρ L => (a ρ L).bind fun x L1 => match truth L1 x with
  | some b => .ok b L1
  | none => .bad
def tAnd (a b : DT) : DT := fun ρ L => (a ρ L).bind fun c L1 => if c = true then b ρ L1 else .ok false L1
def tOr (a b : DT) : DT := fun ρ L => (a ρ L).bind fun c L1 => if c = true then .ok true L1 else b ρ L1
def tNot (a : DT) : DT := fun ρ L => (a ρ L).bind fun c L1 => .ok (!c) L1
/-- a and b, a or b, not a, as values, all but the last bools -/
def andE (a b : DE) : DE := fun ρ L => (a ρ L).bind fun x L1 => match x with
  | .d (.bl c) => if c = true then b ρ L1 else .ok (.d (.bl false)) L1
  | _ => .bad
def orE (a b : DE) : DE := fun ρ L => (a ρ L).bind fun x L1 => match x with
  | .d (.bl c) => if c = true then .ok (.d (.bl true)) L1 else b ρ L1
  | _ => .bad
def notE (a : DE) : DE := e1 (fun x L => match x with
  | .d (.bl c) => .ok (.d (.bl (!c))) L
  | _ => .bad) a
def ifE (c : DT) (a b : DE) : DE := fun ρ L => (c ρ L).bind fun d L1 => if d = true then a ρ L1 else b ρ L1
/-- a op b op' c -/
def chainE (f g : V2) (a b c : DE) : DE := fun ρ L => (a ρ L).bind fun x L1 => (b ρ L1).bind fun y L2 => (f x y L2).bind fun z L3 => match z with
  | .d (.bl k) => if k = true then (c ρ L3).bind fun w L4 => g y w L4 else .ok (.d (.bl false)) L3
  | _ => .bad

/-! ### statements -/
inductive Flow where
  | next (ρ : Env) (L : Led)
  | ret (v : Rv) (L : Led)
  | brk (ρ : Env) (L : Led)
  | cont (ρ : Env) (L : Led)
  | exc (c : Nat) (xs : List D) (ρ : Env) (L : Led)
  | bad
abbrev DS := Env → Led → Flow
def Res.flow {α : Type} (r : Res α) (ρ : Env) (k : α → Led → Flow) : Flow := match r with
  | .ok a L => k a L
  | .exc c xs L => .exc c xs ρ L
  | .bad => .bad
@[simp] theorem Res.flow_ok {α : Type} (a : α) (L : Led) (ρ : Env) (k : α → Led → Flow) : (Res.ok a L).flow ρ k = k a L := rfl
@[simp] theorem Res.flow_exc {α : Type} (c : Nat) (xs : List D) (L : Led) (ρ : Env) (k : α → Led → Flow) : (Res.exc c xs L : Res α).flow ρ k = .exc c xs ρ L := rfl
@[simp] theorem Res.flow_bad {α : Type} (ρ : Env) (k : α → Led → Flow) : (Res.bad : Res α).flow ρ k = .bad := rfl
def Flow.then (f : Flow) (u : DS) : Flow := match f with
  | .next ρ L => u ρ L
  | f => f
@[simp] theorem Flow.then_next (ρ : Env) (L : Led) (u : DS) : (Flow.next ρ L).then u = u ρ L := rfl
@[simp] theorem Flow.then_ret (v : Rv) (L : Led) (u : DS) : (Flow.ret v L).then u = .ret v L := rfl
@[simp] theorem Flow.then_brk (ρ : Env) (L : Led) (u : DS) : (Flow.brk ρ L).then u = .brk ρ L := rfl
@[simp] theorem Flow.then_cont (ρ : Env) (L : Led) (u : DS) : (Flow.cont ρ L).then u = .cont ρ L := rfl
@[simp] theorem Flow.then_exc (c : Nat) (xs : List D) (ρ : Env) (L : Led) (u : DS) : (Flow.exc c xs ρ L).then u = .exc c xs ρ L := rfl
@[simp] theorem Flow.then_bad (u : DS) : Flow.bad.then u = .bad := rfl
def sNext : DS := fun ρ L => .next ρ L
def sSeq (t u : DS) : DS := fun ρ L => (t ρ L).then u
def sAsg (i : Nat) (e : DE) : DS := fun ρ L => (e ρ L).flow ρ fun v L1 => .next (ρ.set i (some v)) L1
def sExpr (e : DE) : DS := fun ρ L => (e ρ L).flow ρ fun _ L1 => .next ρ L1
def sRet (e : DE) : DS := fun ρ L => (e ρ L).flow ρ fun v L1 => .ret v L1
def sRetN : DS := fun _ L => .ret (.d .non) L
def sIf (c : DT) (t u : DS) : DS := fun ρ L => (c ρ L).flow ρ fun b L1 => if b = true then t ρ L1 else u ρ L1
def sBrk : DS := fun ρ L => .brk ρ L
def sCont : DS := fun ρ L => .cont ρ L
/-- raise C('..'), C without own __init__ -/
def sRaise0 (c : Nat) : DS := fun ρ L => .exc c [] ρ L
/-- raise C(e, ..), k values; m0: what C's __init__ hands to super().__init__, in its own frame -/
def sRaiseI (c k : Nat) (m0 : DE) (a : DA) : DS := fun ρ L => (a ρ L).flow ρ fun xs L1 => match pures xs with
  | some ds => if ds.length = k then (match m0 (none :: (ds.map fun d => some (.d d)) ++ [none]) [] with
    | .ok _ [] => .exc c ds.reverse ρ L1
    | _ => .bad) else .bad
  | none => .bad
/-- a target: a name, a tuple of targets -/
inductive Pat where
  | name (i : Nat)
  | tup (ps : List Pat)
mutual
def bindP : Pat → D → Env → Option Env
  | .name i, v, ρ => some (ρ.set i (some (.d v)))
  | .tup ps, .tup vs, ρ => bindPs ps vs ρ
  | .tup _, _, _ => none
def bindPs : List Pat → List D → Env → Option Env
  | [], [], ρ => some ρ
  | p :: ps, v :: vs, ρ => (bindP p v ρ).bind (bindPs ps vs)
  | _, _, _ => none
end
/-- (a, b, ..) = e -/
def sUnp (p : Pat) (e : DE) : DS := fun ρ L => (e ρ L).flow ρ fun v L1 => match v with
  | .d x => (match bindP p x ρ with
    | some ρ1 => .next ρ1 L1
    | none => .bad)
  | _ => .bad
/-- a, b = e1, e2 -/
def sPar (i j : Nat) (a b : DE) : DS := fun ρ L => (a ρ L).flow ρ fun x L1 => (b ρ L1).flow ρ fun y L2 => .next ((ρ.set i (some x)).set j (some y)) L2
/-- x op= e -/
def sAug (i : Nat) (f : V2) (e : DE) : DS := fun ρ L => match ρ[i]? with
  | some (some x) => (e ρ L).flow ρ fun y L1 => (f x y L1).flow ρ fun z L2 => .next (ρ.set i (some z)) L2
  | _ => .bad
/-- a store's effect on the ledger -/
abbrev VS := Rv → Rv → Rv → Led → Res Unit
def sSet (f : VS) (o i e : DE) : DS := fun ρ L => (e ρ L).flow ρ fun v L1 => (o ρ L1).flow ρ fun x L2 => (i ρ L2).flow ρ fun y L3 => (f x y v L3).flow ρ fun _ L4 => .next ρ L4
/-- o[i] = v: a list's item, a dict's entry -/
def setV : VS := fun x y v L => match x, y with
  | .loc n, .d k => (match L[n]?, v with
    | some (.lst xs), .d w => (match k with
      | .int i => (match ixN xs.length i with
        | some j => .ok () (L.set n (.lst (xs.set j w)))
        | none => .bad)
      | _ => .bad)
    | some (.dK kvs), .d w => (match keyOf k with
      | some q => if kvs.length < SZ then .ok () (L.set n (.dK (put kvs q w))) else .bad
      | none => .bad)
    | some (.dT kvs), .d w => (match k with
      | .tup ks => (match keysOf ks with
        | some q => if kvs.length < SZ then .ok () (L.set n (.dT (put kvs q w))) else .bad
        | none => .bad)
      | _ => .bad)
    | some (.seq xs), v => (match k with
      | .int i => (match ixN xs.length i with
        | some j => .ok () (L.set n (.seq (xs.set j v)))
        | none => .bad)
      | _ => .bad)
    | some (.rcd ks vs), v => (match k with
      | .str s => if ks.length < 100 then .ok () (L.set n (.rcd (rput ks vs s v).1 (rput ks vs s v).2)) else .bad
      | _ => .bad)
    | _, _ => .bad)
  | _, _ => .bad

/-! ### loops -/
/-- what is walked: data; a cell's list, that keeps its length -/
inductive Src where
  | vals (xs : List D)
  | at (n len : Nat)
def Src.len : Src → Nat
  | .vals xs => xs.length
  | .at _ l => l
def Src.get (L : Led) (i : Nat) : Src → Option D
  | .vals xs => xs[i]?
  | .at n l => (match L[n]? with
    | some (.lst xs) => if xs.length = l then xs[i]? else none
    | _ => none)
/-- at the end: the cell's list has kept its length -/
def Src.fin (L : Led) : Src → Bool
  | .vals _ => true
  | .at n l => (match L[n]? with
    | some (.lst xs) => xs.length == l
    | _ => false)
/-- k turns are left, the i-th is next -/
def forK (src : Src) (p : Pat) (body : DS) : Nat → Nat → DS
  | 0, _, ρ, L => if src.fin L = true then .next ρ L else .bad
  | k + 1, i, ρ, L => match src.get L i with
    | none => .bad
    | some v => match bindP p v ρ with
      | none => .bad
      | some ρ1 => match body ρ1 L with
        | .next ρ2 L2 => forK src p body k (i + 1) ρ2 L2
        | .cont ρ2 L2 => forK src p body k (i + 1) ρ2 L2
        | .brk ρ2 L2 => .next ρ2 L2
        | f => f
abbrev DI := Env → Led → Res Src
def sFor (it : DI) (p : Pat) (body : DS) : DS := fun ρ L => (it ρ L).flow ρ fun src L1 => forK src p body src.len 0 ρ L1
/-- a dict's keys, as they are walked -/
def keyD : Key → D
  | .inl i => .int i
  | .inr s => .str s
def keysD : Cell → Option (List D)
  | .dK kvs => some (kvs.map fun p => keyD p.1)
  | .dT kvs => some (kvs.map fun p => .tup (p.1.map keyD))
  | .rcd ks xs => if ks.length = xs.length then some (ks.map .str) else none
  | _ => none
/-- a locked dict -/
def iKeysD (m : DE) : DI := fun ρ L => (m ρ L).bind fun v L1 => match v with
  | .loc n => (match L1[n]? with
    | some (.fz c) => (match keysD c with
      | some ks => .ok (.vals ks) L1
      | none => .bad)
    | _ => .bad)
  | _ => .bad
def unlockL (n : Nat) (L : Led) : Option Led := match L[n]? with
  | some (.fz c) => if c.live then some (L.set n c) else none
  | _ => none
def Flow.unlock (n : Nat) : Flow → Flow
  | .next ρ L => (match unlockL n L with
    | some L' => .next ρ L'
    | none => .bad)
  | .ret v L => (match unlockL n L with
    | some L' => .ret v L'
    | none => .bad)
  | .brk ρ L => (match unlockL n L with
    | some L' => .brk ρ L'
    | none => .bad)
  | .cont ρ L => (match unlockL n L with
    | some L' => .cont ρ L'
    | none => .bad)
  | f => f
def Cell.dict : Cell → Bool
  | .dK _ => true
  | .dT _ => true
  | .rcd _ _ => true
  | _ => false
/-- m tells a dict's cell; it is locked while t runs -/
def sLock (m : DE) (t : DS) : DS := fun ρ L => match m ρ L with
  | .ok (.loc n) _ => (match L[n]? with
    | some c => if c.dict then (t ρ (L.set n (.fz c))).unlock n else .bad
    | none => .bad)
  | _ => .bad
/-- for p in d: d is locked meanwhile -/
def sForD (m : DE) (p : Pat) (body : DS) : DS := sLock m (sFor (iKeysD m) p body)
/-- for .. else -/
def Flow.elses (f : Flow) (u : DS) : Flow := match f with
  | .next ρ L => u ρ L
  | .brk ρ L => .next ρ L
  | f => f
def forKE (src : Src) (p : Pat) (body : DS) : Nat → Nat → DS
  | 0, _, ρ, L => if src.fin L = true then .next ρ L else .bad
  | k + 1, i, ρ, L => match src.get L i with
    | none => .bad
    | some v => match bindP p v ρ with
      | none => .bad
      | some ρ1 => match body ρ1 L with
        | .next ρ2 L2 => forKE src p body k (i + 1) ρ2 L2
        | .cont ρ2 L2 => forKE src p body k (i + 1) ρ2 L2
        | f => f
def sForE (it : DI) (p : Pat) (body orelse : DS) : DS := fun ρ L => (it ρ L).flow ρ fun src L1 => (forKE src p body src.len 0 ρ L1).elses orelse
/-- while, at most so many turns -/
def whileK (c : DT) (body : DS) : Nat → DS
  | 0, _, _ => .bad
  | k + 1, ρ, L => (c ρ L).flow ρ fun b L1 => if b = true then (match body ρ L1 with
    | .next ρ2 L2 => whileK c body k ρ2 L2
    | .cont ρ2 L2 => whileK c body k ρ2 L2
    | .brk ρ2 L2 => .next ρ2 L2
    | f => f) else .next ρ L1
def sWhile (c : DT) (body : DS) : DS := whileK c body 100000
/-- over a list; over a tuple; over a text -/
def iL (e : DE) : DI := fun ρ L => (e ρ L).bind fun v L1 => match v with
  | .d (.lst xs) => .ok (.vals xs) L1
  | .d (.slst xs) => .ok (.vals xs) L1
  | .loc n => (match L1[n]? with
    | some (.lst xs) => .ok (.at n xs.length) L1
    | _ => .bad)
  | _ => .bad
def iT (e : DE) : DI := fun ρ L => (e ρ L).bind fun v L1 => match v with
  | .d (.tup xs) => .ok (.vals xs) L1
  | .d (.stup xs) => .ok (.vals xs) L1
  | _ => .bad
def signs (s : Txt) : List D := s.map fun c => .str [c]
def iS (e : DE) : DI := fun ρ L => (e ρ L).bind fun v L1 => match v with
  | .d (.str s) => .ok (.vals (signs s)) L1
  | _ => .bad
def small (i : Int) : Bool := decide (-(2 ^ 62) ≤ i) && decide (i < 2 ^ 62)
def rangeL (lo hi : Int) : List D := (List.range (hi - lo).toNat).map fun (k : Nat) => D.int (lo + k)
def iRange1 (a : DE) : DI := fun ρ L => (a ρ L).bind fun x L1 => match x with
  | .d (.int j) => if small j = true then .ok (.vals (rangeL 0 j)) L1 else .bad
  | _ => .bad
def iRange2 (a b : DE) : DI := fun ρ L => (a ρ L).bind fun x L1 => (b ρ L1).bind fun y L2 => match x, y with
  | .d (.int i), .d (.int j) => if (small i && small j) = true then .ok (.vals (rangeL i j)) L2 else .bad
  | _, _ => .bad
/-- enumerate(e), zip(a, b) -/
def enumL (xs : List D) : List D := xs.zipIdx.map fun p => .tup [.int p.2, p.1]
def iEnum (e : DE) : DI := fun ρ L => (e ρ L).bind fun v L1 => match v with
  | .d (.lst xs) => .ok (.vals (enumL xs)) L1
  | .d (.str s) => .ok (.vals (enumL (s.map fun c => .str [c]))) L1
  | _ => .bad
def iZip (a b : DE) : DI := fun ρ L => (a ρ L).bind fun x L1 => (b ρ L1).bind fun y L2 => match x, y with
  | .d (.lst xs), .d (.lst ys) => .ok (.vals (List.zipWith (fun u v => .tup [u, v]) xs ys)) L2
  | _, _ => .bad

/-! ### comprehensions -/
def wipe (ρ : Env) : List Nat → Env
  | [] => ρ
  | v :: vs => (wipe ρ vs).set v none
def compK (src : Src) (p : Pat) (c : DT) (e : DE) (ρ : Env) : Nat → Nat → List D → Led → Res (List D)
  | 0, _, acc, L => if src.fin L = true then .ok acc L else .bad
  | k + 1, i, acc, L => match src.get L i with
    | none => .bad
    | some v => match bindP p v ρ with
      | none => .bad
      | some ρ1 => match c ρ1 L with
        | .ok true L1 => (match e ρ1 L1 with
          | .ok (.d y) L2 => if acc.length < SZ then compK src p c e ρ k (i + 1) (acc ++ [y]) L2 else .bad
          | _ => .bad)
        | .ok false L1 => compK src p c e ρ k (i + 1) acc L1
        | _ => .bad
def tYes : DT := fun _ L => .ok true L
/-- [e for p in it if c]; own: the slots of its own names -/
def eComp (box : Bool) (it : DI) (p : Pat) (own : List Nat) (c : DT) (e : DE) : DE := fun ρ L => (it ρ L).bind fun src L1 => (compK src p c e (wipe ρ own) src.len 0 [] L1).bind fun ys L2 => mkL box ys L2

/-! ### calls -/
def Rv.locs : Rv → List Nat
  | .loc n => [n]
  | .d _ => []
def Cell.locs : Cell → List Nat
  | .obj _ xs => xs.flatMap Rv.locs
  | .rcd _ xs => xs.flatMap Rv.locs
  | .seq xs => xs.flatMap Rv.locs
  | .fz c => c.locs
  | _ => []
/-- without repetition, behind s -/
def dedup : List Nat → List Nat → List Nat
  | s, [] => s
  | s, n :: r => if n ∈ s then dedup s r else dedup (s ++ [n]) r
/-- the cells that are reached from these -/
def reach (L : Led) : Nat → List Nat → List Nat
  | 0, s => s
  | k + 1, s => reach L k (dedup s (s.flatMap fun n => match L[n]? with
    | some c => c.locs
    | none => []))
def Rv.ren (f : Nat → Option Nat) : Rv → Option Rv
  | .d x => some (.d x)
  | .loc n => (f n).map .loc
def rens (f : Nat → Option Nat) : List Rv → Option (List Rv)
  | [] => some []
  | x :: r => (x.ren f).bind fun y => (rens f r).map (y :: ·)
def Cell.ren (f : Nat → Option Nat) : Cell → Option Cell
  | .obj c xs => (rens f xs).map (.obj c)
  | .rcd ks xs => (rens f xs).map (.rcd ks)
  | .seq xs => (rens f xs).map .seq
  | .fz c => (c.ren f).map .fz
  | c => some c
def crens (f : Nat → Option Nat) : List Cell → Option (List Cell)
  | [] => some []
  | x :: r => (x.ren f).bind fun y => (crens f r).map (y :: ·)
def picks (L : Led) : List Nat → Option (List Cell)
  | [] => some []
  | n :: r => (L[n]?).bind fun c => (picks L r).map (c :: ·)
def place (fp : List Nat) (n : Nat) : Option Nat := fp.findIdx? (· == n)
/-- the caller's number of the callee's cell n: one of fp, or a new one behind the caller's m -/
def back (fp : List Nat) (m : Nat) (n : Nat) : Option Nat := if n < fp.length then fp[n]? else some (m + (n - fp.length))
def writes (L : Led) : List Nat → List Cell → Led
  | n :: r, c :: cs => writes (L.set n c) r cs
  | _, _ => L
/-- a def's call: it sees the cells that its arguments reach, by numbers of its own -/
def callF (f : Fn) : VN := fun args L =>
  let fp := reach L 3 (dedup [] (args.flatMap Rv.locs))
  match rens (place fp) args, (picks L fp).bind (crens (place fp)) with
  | some as, some cs => (match f as cs with
    | .ok v L1 => (match v.ren (back fp L.length), crens (back fp L.length) L1 with
      | some w, some L2 => if fp.length ≤ L1.length then .ok w (writes L fp (L2.take fp.length) ++ L2.drop fp.length) else .bad
      | _, _ => .bad)
    | .exc c xs L1 => (match crens (back fp L.length) L1 with
      | some L2 => if fp.length ≤ L1.length then .exc c xs (writes L fp (L2.take fp.length) ++ L2.drop fp.length) else .bad
      | none => .bad)
    | .bad => .bad)
  | _, _ => .bad
/-- what a def leaves of its cells: those that it was given (k), and those that its answer reaches -/
def leave (k : Nat) (v : Rv) (L : Led) : Res Rv :=
  let fp := reach L 3 (dedup (List.range k) v.locs)
  match v.ren (place fp), (picks L fp).bind (crens (place fp)) with
  | some w, some cs => .ok w cs
  | _, _ => .bad
def leaveX (k c : Nat) (xs : List D) (L : Led) : Res Rv := match (picks L (reach L 3 (List.range k))).bind (crens (place (reach L 3 (List.range k)))) with
  | some cs => .exc c xs cs
  | none => .bad
/-- a def of n slots -/
def defF (n ps : Nat) (body : DS) : Fn := fun args L => if args.length = ps then
  (match body (args.map some ++ List.replicate (n - ps) none) L with
    | .next _ L1 => leave L.length (.d .non) L1
    | .ret v L1 => leave L.length v L1
    | .exc c xs _ L1 => leaveX L.length c xs L1
    | _ => .bad) else .bad
/-- C(..): a new cell, __init__ on it; imm: then it is data -/
def makeF (imm : Bool) (c : Nat) (init : Fn) : VN := fun args L =>
  (callF init (.loc L.length :: args) (L ++ [.obj c []])).bind fun v L1 => match v with
    | .d .non => (match imm with
      | false => .ok (.loc L.length) L1
      | true => (match L1[L.length]? with
        | some (.obj c' xs) => (match pures xs with
          | some ds => (match crens (fun n => if n < L.length then some n else none) (L1.take L.length) with
            | some L2 => if L1.length = L.length + 1 then .ok (.d (.obj c' ds)) L2 else .bad
            | none => .bad)
          | none => .bad)
        | _ => .bad))
    | _ => .bad
/-- a call with the defaults dv; n: the number of all parameters -/
def callD (f : Fn) (n : Nat) (dv : List D) : VN := fun args L => if args.length + dv.length = n then callF f (args ++ dv.map .d) L else .bad
def makeD (imm : Bool) (c : Nat) (f : Fn) (n : Nat) (dv : List D) : VN := fun args L => if args.length + dv.length + 1 = n then makeF imm c f (args ++ dv.map .d) L else .bad
/-- f(e, .., k = v, ..): g puts the values in the parameters' order -/
def callK (f : Fn) (n : Nat) (g : List Rv → List Rv → List Rv) (a ks : DA) : DE := fun ρ L => (a ρ L).bind fun xs L1 => (ks ρ L1).bind fun ys L2 => if (g xs ys).length = n then callF f (g xs ys) L2 else .bad
def makeK (imm : Bool) (c : Nat) (f : Fn) (n : Nat) (g : List Rv → List Rv → List Rv) (a ks : DA) : DE := fun ρ L => (a ρ L).bind fun xs L1 => (ks ρ L1).bind fun ys L2 => if (g xs ys).length + 1 = n then makeF imm c f (g xs ys) L2 else .bad
/-- the class of an instance -/
def clsOf (L : Led) : Rv → Option Nat
  | .d (.obj c _) => some c
  | .loc n => (match L[n]? with
    | some (.obj c _) => some c
    | _ => none)
  | _ => none
/-- o.m(..), o of the class c -/
def methD (c : Nat) (f : Fn) (n : Nat) (dv : List D) (o : DE) (a : DA) : DE := fun ρ L => (o ρ L).bind fun x L1 => if clsOf L1 x = some c then (a ρ L1).bind fun xs L2 => callD f n dv (x :: xs) L2 else .bad
/-- o(..), o an instance of the class c whose __call__ is f -/
def callO (c : Nat) (f : Fn) (n : Nat) (dv : List D) (o : DE) (a : DA) : DE := fun ρ L => (o ρ L).bind fun x L1 => if clsOf L1 x = some c then (a ρ L1).bind fun xs L2 => if clsOf L2 x = some c then callD f n dv (x :: xs) L2 else .bad else .bad
/-- o.m, m a property of the class c: its getter raises nothing -/
def propD (c : Nat) (f : Fn) (o : DE) : DE := fun ρ L => (o ρ L).bind fun x L1 => if clsOf L1 x = some c then (match callD f 1 [] [x] L1 with
  | .ok v L2 => .ok v L2
  | _ => .bad) else .bad
/-- a field by class and place -/
def ix2 : List (Nat × Nat) → Nat → Option Nat
  | [], _ => none
  | (c, i) :: r, x => if c = x then some i else ix2 r x
def attrV (t : List (Nat × Nat)) : V1 := fun x L => match x with
  | .d (.obj c xs) => (match (ix2 t c).bind (xs[·]?) with
    | some v => .ok (.d v) L
    | none => .bad)
  | .loc n => (match L[n]? with
    | some (.obj c xs) => (match (ix2 t c).bind (xs[·]?) with
      | some v => .ok v L
      | none => .bad)
    | _ => .bad)
  | _ => .bad
def setAttrV (t : List (Nat × Nat)) : Rv → Rv → Led → Res Unit := fun x v L => match x with
  | .loc n => (match L[n]? with
    | some (.obj c xs) => (match ix2 t c with
      | some i => if i < xs.length then .ok () (L.set n (.obj c (xs.set i v))) else if i = xs.length then .ok () (L.set n (.obj c (xs ++ [v]))) else .bad
      | none => .bad)
    | _ => .bad)
  | _ => .bad
def sAttr (t : List (Nat × Nat)) (o e : DE) : DS := fun ρ L => (e ρ L).flow ρ fun v L1 => (o ρ L1).flow ρ fun x L2 => (setAttrV t x v L2).flow ρ fun _ L3 => .next ρ L3
/-! ### errors caught -/
/-- sub c b: c is b or one of its subclasses -/
abbrev Sub := Nat → Nat → Bool
/-- a clause: its class, its name's slot, its suite (of the error's class and fields) -/
abbrev Hd := Nat × Option Nat × (Nat → List D → DS)
def forget (oi : Option Nat) (ρ : Env) : Env := match oi with
  | none => ρ
  | some i => ρ.set i none
def slotOk (oi : Option Nat) (ρ : Env) : Bool := match oi with
  | none => true
  | some i => decide (i < ρ.length)
def Flow.out (oi : Option Nat) : Flow → Flow
  | .next ρ L => .next (forget oi ρ) L
  | .ret v L => .ret v L
  | .brk ρ L => .brk (forget oi ρ) L
  | .cont ρ L => .cont (forget oi ρ) L
  | .exc _ _ _ _ => .bad
  | .bad => .bad
def handle (sub : Sub) (c : Nat) (xs : List D) : List Hd → DS
  | [] => fun ρ L => .exc c xs ρ L
  | h :: r => fun ρ L => if sub c h.1 = true then (if slotOk h.2.1 ρ = true then (h.2.2 c xs (forget h.2.1 ρ) L).out h.2.1 else .bad) else handle sub c xs r ρ L
/-- try: body except ..: ..; errs: the errors that may come -/
def sTry (sub : Sub) (errs : List Nat) (body : DS) (hs : List Hd) : DS := fun ρ L => match body ρ L with
  | .exc c xs ρ1 L1 => if c ∈ errs then handle sub c xs hs ρ1 L1 else .bad
  | f => f
/-- isinstance(e, v), e the error in hand, of the class c -/
def isE (sub : Sub) (errs : List Nat) (c : Nat) : D → Option Bool
  | .cls b => if b ∈ errs then some (sub c b) else none
  | _ => none
def isEs (sub : Sub) (errs : List Nat) (c : Nat) : List D → Option Bool
  | [] => some false
  | x :: r => (isE sub errs c x).bind fun b => (isEs sub errs c r).map (b || ·)
def eIsE (sub : Sub) (errs : List Nat) (c : Nat) (m : DE) : DE := fun ρ L => (m ρ L).bind fun v L1 => match v with
  | .d (.tup vs) => (match isEs sub errs c vs with
    | some b => .ok (.d (.bl b)) L1
    | none => .bad)
  | .d v => (match isE sub errs c v with
    | some b => .ok (.d (.bl b)) L1
    | none => .bad)
  | _ => .bad
/-- a field of the error in hand -/
def excE (xs : List D) (i : Nat) : DE := fun _ L => match xs[i]? with
  | some v => .ok (.d v) L
  | none => .bad

/-! ### built-ins -/
def vn1 (f : V1) : VN := fun xs L => match xs with
  | [x] => f x L
  | _ => .bad
def vn2 (f : V2) : VN := fun xs L => match xs with
  | [x, y] => f x y L
  | _ => .bad
def i1 (g : Int → D) : V1 := fun x L => match x with
  | .d (.int i) => .ok (.d (g i)) L
  | _ => .bad
def len1 : V1 := fun v L => match v with
  | .d (.str s) => if s.length ≤ SZ then .ok (.d (.int s.length)) L else .bad
  | .loc n => (match L[n]? with
    | some (.lst xs) => .ok (.d (.int xs.length)) L
    | some (.seq xs) => .ok (.d (.int xs.length)) L
    | some (.dK kvs) => .ok (.d (.int kvs.length)) L
    | some (.dT kvs) => .ok (.d (.int kvs.length)) L
    | _ => .bad)
  | v => (match items L v with
    | some xs => .ok (.d (.int xs.length)) L
    | none => .bad)
def divmodV : VN := vn2 divmod2
def lenV : VN := vn1 len1
def absV : VN := vn1 (i1 fun i => .int (if i < 0 then -i else i))
def int1 : V1 := fun x L => match x with
  | .d (.int i) => .ok (.d (.int i)) L
  | .d (.bl b) => .ok (.d (.int (if b = true then 1 else 0))) L
  | _ => .bad
def intV : VN := vn1 int1
def max2V : VN := vn2 (ii fun i j => .int (if j > i then j else i))
def min2V : VN := vn2 (ii fun i j => .int (if j < i then j else i))
def list1 (box : Bool) : V1 := fun v L => match items L v with
  | some ys => mkL box ys L
  | none => .bad
def listV (box : Bool) : VN := vn1 (list1 box)
def tuple1 : V1 := fun v L => match items L v with
  | some ys => .ok (.d (.tup ys)) L
  | none => .bad
def tupleV : VN := vn1 tuple1
/-- isinstance(x, T), T a built-in class -/
inductive Ty where
  | int | bool | str | list | tuple | dict | non
deriving DecidableEq
/-- the built-in type of a value -/
def tyD (L : Led) : Rv → Option Ty
  | .d (.int _) => some .int
  | .d (.bl _) => some .bool
  | .d (.str _) => some .str
  | .d (.lst _) => some .list
  | .d (.tup _) => some .tuple
  | .d .non => some .non
  | .loc n => (match L[n]? with
    | some (.lst _) => some .list
    | some (.seq _) => some .list
    | some (.dK _) => some .dict
    | some (.dT _) => some .dict
    | some (.rcd _ _) => some .dict
    | _ => none)
  | _ => none
/-- a is t or below -/
def Ty.below (a t : Ty) : Bool := decide (a = t) || (decide (a = .bool) && decide (t = .int))
def isTyV (t : Ty) : V1 := fun x L => match tyD L x with
  | some a => .ok (.d (.bl (a.below t))) L
  | none => .bad
def appV : Rv → Rv → Led → Res Rv := fun x v L => match x, v with
  | .loc n, .d w => (match L[n]? with
    | some (.lst xs) => if xs.length < SZ then .ok (.d .non) (L.set n (.lst (xs ++ [w]))) else .bad
    | _ => .bad)
  | _, _ => .bad
/-! ### own operators -/
/-- o[i], o an instance of the class c whose __getitem__ is f -/
def getO (c : Nat) (f : Fn) (a b : DE) : DE := fun ρ L => (a ρ L).bind fun x L1 => (b ρ L1).bind fun y L2 => if clsOf L2 x = some c then callD f 2 [] [x, y] L2 else .bad
/-- o[i] = v -/
def sSetO (c : Nat) (f : Fn) (o i e : DE) : DS := fun ρ L => (e ρ L).flow ρ fun v L1 => (o ρ L1).flow ρ fun x L2 => (i ρ L2).flow ρ fun y L3 => if clsOf L3 x = some c then (callD f 3 [] [x, y, v] L3).flow ρ fun _ L4 => .next ρ L4 else .bad
/-- o.p = v, p a property with a setter -/
def sPropO (c : Nat) (f : Fn) (o e : DE) : DS := fun ρ L => (e ρ L).flow ρ fun v L1 => (o ρ L1).flow ρ fun x L2 => if clsOf L2 x = some c then (callD f 2 [] [x, v] L2).flow ρ fun _ L3 => .next ρ L3 else .bad
/-- the first that is not bad -/
def orE2 (a b : DE) : DE := fun ρ L => match a ρ L with
  | .bad => b ρ L
  | r => r
def orI (a b : DI) : DI := fun ρ L => match a ρ L with
  | .bad => b ρ L
  | r => r
def orS (a b : DS) : DS := fun ρ L => match a ρ L with
  | .bad => b ρ L
  | r => r
def compR (src : Src) (p : Pat) (c : DT) (e : DE) (ρ : Env) : Nat → Nat → List Rv → Led → Res (List Rv)
  | 0, _, acc, L => if src.fin L = true then .ok acc L else .bad
  | k + 1, i, acc, L => match src.get L i with
    | none => .bad
    | some v => match bindP p v ρ with
      | none => .bad
      | some ρ1 => match c ρ1 L with
        | .ok true L1 => (match e ρ1 L1 with
          | .ok y L2 => if acc.length < SZ then compR src p c e ρ k (i + 1) (acc ++ [y]) L2 else .bad
          | _ => .bad)
        | .ok false L1 => compR src p c e ρ k (i + 1) acc L1
        | _ => .bad
/-- [e for p in it if c], the items cells or data: a cell that holds them -/
def eCompS (it : DI) (p : Pat) (own : List Nat) (c : DT) (e : DE) : DE := fun ρ L => (it ρ L).bind fun src L1 => (compR src p c e (wipe ρ own) src.len 0 [] L1).bind fun ys L2 => .ok (.loc L2.length) (L2 ++ [.seq ys])
def flatD : D → Bool
  | .non => true
  | .bl _ => true
  | .int _ => true
  | .str _ => true
  | _ => false
/-- x in a tuple of flat items -/
def inFlat (neg : Bool) (x : Rv) (ys : List D) (L : Led) : Res Rv := match x with
  | .d d => if flatD d && ys.all flatD then .ok (.d (.bl ((ys.any fun z => deq z d) != neg))) L else .bad
  | _ => .bad
/-- x in y: a tuple, a text, or what inV knows -/
def in2V (neg : Bool) : V2 := fun x y L => match y with
  | .d (.tup ys) => inFlat neg x ys L
  | .d (.stup ys) => inFlat neg x ys L
  | .d (.str s) => (match x with
    | .d (.str [c]) => .ok (.d (.bl (decide (c ∈ s) != neg))) L
    | _ => .bad)
  | _ => inV neg x y L
/-- d.get(k, x) -/
def getDV (d k x : DE) : DE := fun ρ L => (d ρ L).bind fun v L1 => match v with
  | .loc n => (match L1[n]? with
    | some c => if c.dict then (k ρ L1).bind fun y L2 => (x ρ L2).bind fun z L3 => (match y with
      | .d q => (match L3[n]? with
        | some c2 => (match dget c2 q with
          | some (some w) => .ok w L3
          | some none => .ok z L3
          | none => .bad)
        | none => .bad)
      | _ => .bad) else .bad
    | none => .bad)
  | _ => .bad
def getD1 (d k : DE) : DE := fun ρ L => (d ρ L).bind fun v L1 => match v with
  | .loc n => (match L1[n]? with
    | some c => if c.dict then (k ρ L1).bind fun y L2 => (match y with
      | .d q => (match L2[n]? with
        | some c2 => (match dget c2 q with
          | some (some w) => .ok w L2
          | some none => .ok (.d .non) L2
          | none => .bad)
        | none => .bad)
      | _ => .bad) else .bad
    | none => .bad)
  | _ => .bad
end Dl

set_option Elab.async false
set_option linter.all false
set_option maxRecDepth 100000
/-! Sd: a def over data (Dl) says what the machine does. -/
namespace Dl
open PySem PySem.Spec PyProof.Rows L2

/-- where the classes stand; their fields' names in order -/
structure Cfg where
  cl : Nat → Addr
  nm : Nat → List PySem.Str
  K : PySem.W.Frag
def sOf (s : Txt) : PySem.Str := ⟨s.toArray⟩
theorem sOf_inj {a b : Txt} (h : sOf a = sOf b) : a = b := by
  have e : a.toArray = b.toArray := congrArg PySem.Str.cps h
  simpa using congrArg Array.toList e
theorem sOf_len (s : Txt) : (sOf s).length = s.length := by
  show s.toArray.size = s.length
  simp

/-! ### what data is in the heap -/
mutual
def Rep (G : Cfg) (B : Hp) : D → V → Prop
  | .non, v => v = .non
  | .bl b, v => v = .bl b
  | .int i, v => v = .int i
  | .str s, v => v = .str (sOf s)
  | .lst xs, v => ∃ a vs, v = .ref a ∧ B a = some (.lst vs) ∧ Reps G B xs vs
  | .slst xs, v => ∃ a vs, v = .ref a ∧ SqL G.K B a vs ∧ Reps G B xs vs
  | .stup xs, v => ∃ a vs, v = .ref a ∧ SqT G.K B a vs ∧ Reps G B xs vs
  | .tup xs, v => ∃ a vs, v = .ref a ∧ B a = some (.tup vs) ∧ Reps G B xs vs
  | .obj c xs, v => ∃ a dx vs, v = .ref a ∧ B a = some (.ins (G.cl c) dx ((G.nm c).zip vs)) ∧ xs.length ≤ (G.nm c).length ∧ Reps G B xs vs
  | .cls c, v => v = .ref (G.cl c)
def Reps (G : Cfg) (B : Hp) : List D → List V → Prop
  | [], vs => vs = []
  | x :: r, vs => ∃ v ws, vs = v :: ws ∧ Rep G B x v ∧ Reps G B r ws
end
theorem rd_same {B B' : Hp} {a : Addr} {o : HO} (h : Same B B') (r : Rd B a o) : Rd B' a o := by
  rcases r with r | ⟨ob, r⟩
  · exact .inl (h _ _ r)
  · exact .inr ⟨ob, h _ _ r⟩
theorem sql_same {K : PySem.W.Frag} {B B' : Hp} {a : Addr} {vs : List V} (h : Same B B') (r : SqL K B a vs) : SqL K B' a vs := by
  rcases r with r | r
  · exact .inl (rd_same h r)
  · exact .inr r
theorem sqt_same {K : PySem.W.Frag} {B B' : Hp} {a : Addr} {vs : List V} (h : Same B B') (r : SqT K B a vs) : SqT K B' a vs := by
  rcases r with r | r
  · exact .inl (rd_same h r)
  · exact .inr r
mutual
theorem Rep.mono {G : Cfg} {B B' : Hp} (h : Same B B') : ∀ (x : D) (v : V), Rep G B x v → Rep G B' x v
  | .non, _, r => r
  | .bl _, _, r => r
  | .int _, _, r => r
  | .str _, _, r => r
  | .lst xs, _, ⟨a, vs, e, q, r⟩ => ⟨a, vs, e, h _ _ q, Reps.mono h xs vs r⟩
  | .slst xs, _, ⟨a, vs, e, q, r⟩ => ⟨a, vs, e, sql_same h q, Reps.mono h xs vs r⟩
  | .stup xs, _, ⟨a, vs, e, q, r⟩ => ⟨a, vs, e, sqt_same h q, Reps.mono h xs vs r⟩
  | .tup xs, _, ⟨a, vs, e, q, r⟩ => ⟨a, vs, e, h _ _ q, Reps.mono h xs vs r⟩
  | .obj c xs, _, ⟨a, dx, vs, e, q, l, r⟩ => ⟨a, dx, vs, e, h _ _ q, l, Reps.mono h xs vs r⟩
  | .cls _, _, r => r
theorem Reps.mono {G : Cfg} {B B' : Hp} (h : Same B B') : ∀ (xs : List D) (vs : List V), Reps G B xs vs → Reps G B' xs vs
  | [], _, r => r
  | x :: r, _, ⟨v, ws, e, q, t⟩ => ⟨v, ws, e, Rep.mono h x v q, Reps.mono h r ws t⟩
end
theorem Reps.len {G : Cfg} {B : Hp} : ∀ {xs : List D} {vs : List V}, Reps G B xs vs → vs.length = xs.length
  | [], _, r => by
    have e : _ = [] := r
    rw [e]
    rfl
  | _ :: _, _, ⟨_, _, e, _, t⟩ => by rw [e, List.length_cons, List.length_cons, Reps.len t]
theorem Reps.nil {G : Cfg} {B : Hp} : Reps G B [] [] := rfl
theorem Reps.cons {G : Cfg} {B : Hp} {x : D} {v : V} {xs : List D} {vs : List V} (h : Rep G B x v) (t : Reps G B xs vs) : Reps G B (x :: xs) (v :: vs) := ⟨v, vs, rfl, h, t⟩
theorem Reps.append {G : Cfg} {B : Hp} {ys : List D} {ws : List V} (t : Reps G B ys ws) : ∀ {xs : List D} {vs : List V}, Reps G B xs vs → Reps G B (xs ++ ys) (vs ++ ws)
  | [], _, r => by
    have e : _ = [] := r
    rw [e]
    exact t
  | x :: r, _, ⟨v, us, e, q, z⟩ => by
    rw [e]
    exact ⟨v, us ++ ws, rfl, q, Reps.append t z⟩
theorem Reps.get {G : Cfg} {B : Hp} : ∀ {xs : List D} {vs : List V} {i : Nat} {x : D}, Reps G B xs vs → xs[i]? = some x → ∃ v, vs[i]? = some v ∧ Rep G B x v
  | [], _, _, _, _, h => by simp at h
  | y :: r, _, 0, x, ⟨v, us, e, q, z⟩, h => by
    have e2 : y = x := Option.some.inj h
    rw [e, ← e2]
    exact ⟨v, rfl, q⟩
  | y :: r, _, i + 1, x, ⟨v, us, e, q, z⟩, h => by
    rw [e]
    exact Reps.get (i := i) z h
theorem Reps.set {G : Cfg} {B : Hp} {y : D} {w : V} (hy : Rep G B y w) : ∀ {xs : List D} {vs : List V} (i : Nat), Reps G B xs vs → Reps G B (xs.set i y) (vs.set i w)
  | [], _, _, r => by
    have e : _ = [] := r
    rw [e]
    exact rfl
  | x :: r, _, 0, ⟨v, us, e, q, z⟩ => by
    rw [e]
    exact ⟨w, us, rfl, hy, z⟩
  | x :: r, _, i + 1, ⟨v, us, e, q, z⟩ => by
    rw [e]
    exact ⟨v, us.set i w, rfl, q, Reps.set hy i z⟩
theorem Reps.drop {G : Cfg} {B : Hp} : ∀ {xs : List D} {vs : List V} (n : Nat), Reps G B xs vs → Reps G B (xs.drop n) (vs.drop n)
  | _, _, 0, r => r
  | [], _, n + 1, r => by
    have e : _ = [] := r
    rw [e]
    exact rfl
  | x :: r, _, n + 1, ⟨v, us, e, q, z⟩ => by
    rw [e]
    exact Reps.drop n z
theorem Reps.take {G : Cfg} {B : Hp} : ∀ {xs : List D} {vs : List V} (n : Nat), Reps G B xs vs → Reps G B (xs.take n) (vs.take n)
  | _, _, 0, _ => rfl
  | [], _, n + 1, r => by
    have e : _ = [] := r
    rw [e]
    exact rfl
  | x :: r, _, n + 1, ⟨v, us, e, q, z⟩ => by
    rw [e]
    exact ⟨v, us.take n, rfl, q, Reps.take n z⟩

/-- a value: data, or the cell at an address of A -/
def RepR (G : Cfg) (B : Hp) (A : List Addr) : Rv → V → Prop
  | .d x, v => Rep G B x v
  | .loc n, v => ∃ a, A[n]? = some a ∧ v = .ref a
def RepRs (G : Cfg) (B : Hp) (A : List Addr) : List Rv → List V → Prop
  | [], vs => vs = []
  | x :: r, vs => ∃ v ws, vs = v :: ws ∧ RepR G B A x v ∧ RepRs G B A r ws
def kOf : Key → L2.Key
  | .inl i => .inl i
  | .inr s => .inr (sOf s)
theorem kOf_inj {a b : Key} (h : kOf a = kOf b) : a = b := by
  cases a with
  | inl i =>
    cases b with
    | inl j => exact congrArg Sum.inl (Sum.inl.inj h)
    | inr s => cases h
  | inr s =>
    cases b with
    | inl j => cases h
    | inr t => exact congrArg Sum.inr (sOf_inj (Sum.inr.inj h))
def KVs (G : Cfg) (B : Hp) : List (Key × D) → List (L2.Key × V) → Prop
  | [], vs => vs = []
  | p :: r, vs => ∃ v ws, vs = (kOf p.1, v) :: ws ∧ Rep G B p.2 v ∧ KVs G B r ws
def KTs (G : Cfg) (B : Hp) : List (List Key × D) → List (List L2.Key × V) → Prop
  | [], vs => vs = []
  | p :: r, vs => ∃ v ws, vs = (p.1.map kOf, v) :: ws ∧ Rep G B p.2 v ∧ KTs G B r ws
def CRep (G : Cfg) (B : Hp) (A : List Addr) : Cell → HO → Prop
  | .lst xs, o => ∃ vs, o = .lst vs ∧ Reps G B xs vs
  | .dK kvs, o => ∃ ws, o = .dK ws ∧ KVs G B kvs ws
  | .dT kvs, o => ∃ ws, o = .dT ws ∧ KTs G B kvs ws
  | .rcd ks xs, o => ∃ vs, o = .dK ((ks.map fun k => (Sum.inr (sOf k) : L2.Key)).zip vs) ∧ ks.length = xs.length ∧ RepRs G B A xs vs
  | .seq xs, o => ∃ vs, o = .lst vs ∧ RepRs G B A xs vs
  | .obj c xs, o => ∃ dx vs, o = .ins (G.cl c) dx ((G.nm c).zip vs) ∧ xs.length ≤ (G.nm c).length ∧ RepRs G B A xs vs
  | .fz c, o => ∃ od u, o = .frz od u ∧ CRep G B A c u
  | .dead, _ => True

/-- A ++ N -/
def Pre (A A' : List Addr) : Prop := ∃ N, A' = A ++ N
theorem Pre.refl (A : List Addr) : Pre A A := ⟨[], by simp⟩
theorem Pre.trans {A B C : List Addr} (a : Pre A B) (b : Pre B C) : Pre A C := by
  obtain ⟨N, rfl⟩ := a
  obtain ⟨M, rfl⟩ := b
  exact ⟨N ++ M, by rw [List.append_assoc]⟩
theorem Pre.get {A A' : List Addr} (h : Pre A A') {n : Nat} {a : Addr} (e : A[n]? = some a) : A'[n]? = some a := by
  obtain ⟨N, rfl⟩ := h
  have hn : n < A.length := (List.getElem?_eq_some_iff.mp e).1
  rw [List.getElem?_append_left hn]
  exact e
section
variable {G : Cfg} {B B' : Hp} {A A' : List Addr}
theorem RepR.mono (h : Same B B') (p : Pre A A') : ∀ {x : Rv} {v : V}, RepR G B A x v → RepR G B' A' x v
  | .d x, v, r => Rep.mono h x v r
  | .loc n, _, ⟨a, e, q⟩ => ⟨a, p.get e, q⟩
theorem RepRs.mono (h : Same B B') (p : Pre A A') : ∀ {xs : List Rv} {vs : List V}, RepRs G B A xs vs → RepRs G B' A' xs vs
  | [], _, r => r
  | _ :: _, _, ⟨v, ws, e, q, t⟩ => ⟨v, ws, e, q.mono h p, RepRs.mono h p t⟩
theorem KVs.mono (h : Same B B') : ∀ {xs : List (Key × D)} {vs : List (L2.Key × V)}, KVs G B xs vs → KVs G B' xs vs
  | [], _, r => r
  | _ :: _, _, ⟨v, ws, e, q, t⟩ => ⟨v, ws, e, Rep.mono h _ _ q, KVs.mono h t⟩
theorem KTs.mono (h : Same B B') : ∀ {xs : List (List Key × D)} {vs : List (List L2.Key × V)}, KTs G B xs vs → KTs G B' xs vs
  | [], _, r => r
  | _ :: _, _, ⟨v, ws, e, q, t⟩ => ⟨v, ws, e, Rep.mono h _ _ q, KTs.mono h t⟩
theorem CRep.mono (h : Same B B') (p : Pre A A') : ∀ {c : Cell} {o : HO}, CRep G B A c o → CRep G B' A' c o
  | .lst xs, _, ⟨vs, e, r⟩ => ⟨vs, e, Reps.mono h xs vs r⟩
  | .dK kvs, _, ⟨ws, e, r⟩ => ⟨ws, e, r.mono h⟩
  | .dT kvs, _, ⟨ws, e, r⟩ => ⟨ws, e, r.mono h⟩
  | .rcd ks xs, _, ⟨vs, e, l, r⟩ => ⟨vs, e, l, r.mono h p⟩
  | .seq xs, _, ⟨vs, e, r⟩ => ⟨vs, e, r.mono h p⟩
  | .obj c xs, _, ⟨dx, vs, e, l, r⟩ => ⟨dx, vs, e, l, r.mono h p⟩
  | .fz c, _, ⟨od, u, e, r⟩ => ⟨od, u, e, CRep.mono h p r⟩
  | .dead, _, _ => True.intro
theorem RepRs.len : ∀ {xs : List Rv} {vs : List V}, RepRs G B A xs vs → vs.length = xs.length
  | [], _, r => by
    have e : _ = [] := r
    rw [e]
    rfl
  | _ :: _, _, ⟨_, _, e, _, t⟩ => by rw [e, List.length_cons, List.length_cons, RepRs.len t]
theorem RepRs.pure : ∀ {xs : List Rv} {vs : List V} {ds : List D}, RepRs G B A xs vs → pures xs = some ds → Reps G B ds vs
  | [], _, ds, r, h => by
    have e : [] = ds := Option.some.inj h
    rw [← e]
    exact r
  | .d x :: xs, _, ds, ⟨v, ws, e, q, t⟩, h => by
    have h1 : (pures xs).map (x :: ·) = some ds := h
    cases hp : pures xs with
    | none =>
      rw [hp] at h1
      cases h1
    | some es =>
      rw [hp] at h1
      have e1 : x :: es = ds := Option.some.inj h1
      rw [← e1, e]
      exact ⟨v, ws, rfl, q, RepRs.pure t hp⟩
  | .loc n :: xs, _, ds, _, h => by cases h
theorem RepRs.set {y : Rv} {w : V} (hy : RepR G B A y w) : ∀ {xs : List Rv} {vs : List V} (i : Nat), RepRs G B A xs vs → RepRs G B A (xs.set i y) (vs.set i w)
  | [], _, _, r => by
    have e : _ = [] := r
    rw [e]
    exact rfl
  | x :: r, _, 0, ⟨v, us, e, q, z⟩ => by
    rw [e]
    exact ⟨w, us, rfl, hy, z⟩
  | x :: r, _, i + 1, ⟨v, us, e, q, z⟩ => by
    rw [e]
    exact ⟨v, us.set i w, rfl, q, RepRs.set hy i z⟩
theorem RepRs.get : ∀ {xs : List Rv} {vs : List V} {i : Nat} {x : Rv}, RepRs G B A xs vs → xs[i]? = some x → ∃ v, vs[i]? = some v ∧ RepR G B A x v
  | [], _, _, _, _, h => by simp at h
  | y :: r, _, 0, x, ⟨v, us, e, q, z⟩, h => by
    have e2 : y = x := Option.some.inj h
    rw [e, ← e2]
    exact ⟨v, rfl, q⟩
  | y :: r, _, i + 1, x, ⟨v, us, e, q, z⟩, h => by
    rw [e]
    exact RepRs.get (i := i) z h
end

/-! ### the heap: B stands, the cells at A hold L -/
structure Ctx (G : Cfg) (B : Hp) (A : List Addr) (L : Led) (H : Hp) : Prop where
  len : A.length = L.length
  sub : Same B H
  nd : A.Nodup
  at_ : ∀ (n : Nat) a c, A[n]? = some a → L[n]? = some c → ∃ o, H a = some o ∧ CRep G B A c o
  off : ∀ (n : Nat) a c, A[n]? = some a → L[n]? = some c → c.live = true → B a = none
  fz : ∀ (n : Nat) a c, A[n]? = some a → L[n]? = some (.fz c) → ∃ o, B a = some o
structure Ext (B : Hp) (A : List Addr) (H : Hp) (B' : Hp) (A' : List Addr) (H' : Hp) : Prop where
  base : Same B B'
  pre : ∃ N, A' = A ++ N ∧ ∀ a ∈ N, H a = none
  fr : ∀ a o, H a = some o → a ∉ A → H' a = some o
  there : ∀ a o, H a = some o → ∃ o', H' a = some o'
  grow : ∀ a o, B' a = some o → B a = some o ∨ H a = none ∨ a ∈ A ∨ ∃ xs, H a = some (.tup xs)
theorem Ext.refl {B : Hp} {A : List Addr} {H : Hp} : Ext B A H B A H := ⟨fun _ _ e => e, ⟨[], by simp, fun _ h => nomatch h⟩, fun _ _ e _ => e, fun _ o e => ⟨o, e⟩, fun _ _ e => .inl e⟩
theorem Ext.trans {B B1 B2 : Hp} {A A1 A2 : List Addr} {H H1 H2 : Hp} (x : Ext B A H B1 A1 H1) (y : Ext B1 A1 H1 B2 A2 H2) : Ext B A H B2 A2 H2 := by
  obtain ⟨N, e1, n1⟩ := x.pre
  obtain ⟨M, e2, n2⟩ := y.pre
  refine ⟨fun a o e => y.base _ _ (x.base _ _ e), ⟨N ++ M, by rw [e2, e1, List.append_assoc], fun a h => ?_⟩, fun a o e h => y.fr _ _ (x.fr _ _ e h) fun q => ?_, fun a o e => ?_, fun a o e => ?_⟩
  · rcases List.mem_append.mp h with q | q
    · exact n1 a q
    · cases e : H a with
      | none => rfl
      | some o =>
        obtain ⟨o', e'⟩ := x.there a o e
        rw [n2 a q] at e'
        cases e'
  · rw [e1] at q
    rcases List.mem_append.mp q with q | q
    · exact h q
    · rw [n1 a q] at e
      cases e
  · obtain ⟨o', e'⟩ := x.there a o e
    exact y.there a o' e'
  · have back : H1 a = none → H a = none := fun q => by
      cases z : H a with
      | none => rfl
      | some u =>
        obtain ⟨o', e'⟩ := x.there a u z
        rw [q] at e'
        cases e'
    rcases y.grow a o e with q | q | q | ⟨xs, q⟩
    · exact x.grow a o q
    · exact .inr (.inl (back q))
    · rw [e1] at q
      rcases List.mem_append.mp q with q | q
      · exact .inr (.inr (.inl q))
      · exact .inr (.inl (n1 a q))
    · cases z : H a with
      | none => exact .inr (.inl rfl)
      | some u =>
        by_cases hA : a ∈ A
        · exact .inr (.inr (.inl hA))
        · rw [x.fr a u z hA] at q
          exact .inr (.inr (.inr ⟨xs, q⟩))
theorem Ext.Pre {B B' : Hp} {A A' : List Addr} {H H' : Hp} (x : Ext B A H B' A' H') : Pre A A' := by
  obtain ⟨N, e, _⟩ := x.pre
  exact ⟨N, e⟩
section
variable {G : Cfg} {B : Hp} {A : List Addr} {L : Led} {H : Hp}
theorem Ctx.mem (C : Ctx G B A L H) {a : Addr} (h : a ∈ A) : ∃ o, H a = some o := by
  obtain ⟨n, hn⟩ := List.getElem?_of_mem h
  have h1 : n < A.length := (List.getElem?_eq_some_iff.mp hn).1
  have h2 : n < L.length := by rw [← C.len]; exact h1
  obtain ⟨o, e, _⟩ := C.at_ n a (L[n]'h2) hn (by simp)
  exact ⟨o, e⟩
/-- a new object that never changes -/
theorem Ctx.newB (C : Ctx G B A L H) {p : Addr} {o : HO} (hp : H p = none) : Ctx G (upd B p o) A L (upd H p o) ∧ Ext B A H (upd B p o) A (upd H p o) ∧ (upd B p o) p = some o := by
  have hB : B p = none := by
    cases e : B p with
    | none => rfl
    | some q =>
      rw [C.sub p q e] at hp
      cases hp
  have s : Same B (upd B p o) := fun b u e => by
    rw [upd_ne (ne_of_none e hB)]
    exact e
  refine ⟨⟨C.len, fun b u e => ?_, C.nd, fun n a c ha hc => ?_, fun n a c ha hc hd => ?_, fun n a c ha hc => (C.fz n a c ha hc).imp fun o e => s _ _ e⟩, ⟨s, ⟨[], by simp, fun _ h => nomatch h⟩, fun a u e _ => ?_, fun a u e => ?_, fun a u e => ?_⟩, upd_same⟩
  · by_cases q : b = p
    · subst q
      rw [upd_same] at e ⊢
      exact e
    · rw [upd_ne q] at e ⊢
      exact C.sub _ _ e
  · obtain ⟨u, e, r⟩ := C.at_ n a c ha hc
    exact ⟨u, by rw [upd_ne (ne_of_none e hp)]; exact e, r.mono s (Pre.refl A)⟩
  · obtain ⟨u, e, r⟩ := C.at_ n a c ha hc
    rw [upd_ne (ne_of_none e hp)]
    exact C.off n a c ha hc hd
  · rw [upd_ne (ne_of_none e hp)]
    exact e
  · exact ⟨u, by rw [upd_ne (ne_of_none e hp)]; exact e⟩
  · by_cases q : a = p
    · rw [q]
      exact .inr (.inl hp)
    · rw [upd_ne q] at e
      exact .inl e
/-- a new cell -/
theorem Ctx.newA (C : Ctx G B A L H) {p : Addr} {o : HO} {c : Cell} (hp : H p = none) (hc : CRep G B (A ++ [p]) c o) (hlv : c.live = true := by rfl) : Ctx G B (A ++ [p]) (L ++ [c]) (upd H p o) ∧ Ext B A H B (A ++ [p]) (upd H p o) ∧ (A ++ [p])[L.length]? = some p := by
  have hB : B p = none := by
    cases e : B p with
    | none => rfl
    | some q =>
      rw [C.sub p q e] at hp
      cases hp
  have hA : p ∉ A := fun h => by
    obtain ⟨u, e⟩ := C.mem h
    rw [hp] at e
    cases e
  have pre : Pre A (A ++ [p]) := ⟨[p], rfl⟩
  have lst : ∀ {n : Nat} {a : Addr}, (A ++ [p])[n]? = some a → (n < A.length ∧ A[n]? = some a) ∨ (n = A.length ∧ a = p) := fun {n a} h => by
    by_cases q : n < A.length
    · rw [List.getElem?_append_left q] at h
      exact .inl ⟨q, h⟩
    · have q2 : n < (A ++ [p]).length := (List.getElem?_eq_some_iff.mp h).1
      rw [List.length_append, List.length_singleton] at q2
      have q3 : n = A.length := by omega
      subst q3
      rw [List.getElem?_append_right (Nat.le_refl _)] at h
      simp at h
      exact .inr ⟨rfl, h.symm⟩
  have nfz : ∀ (n : Nat) a d, (A ++ [p])[n]? = some a → (L ++ [c])[n]? = some (.fz d) → ∃ o, B a = some o := fun n a d ha hd => by
    rcases lst ha with ⟨q, ha⟩ | ⟨q, rfl⟩
    · rw [List.getElem?_append_left (by rw [← C.len]; exact q)] at hd
      exact C.fz n a d ha hd
    · subst q
      rw [C.len, List.getElem?_append_right (Nat.le_refl _)] at hd
      simp at hd
      rw [hd] at hlv
      cases hlv
  refine ⟨⟨by rw [List.length_append, List.length_append, C.len]; rfl, fun b u e => ?_, ?_, fun n a c' ha hc' => ?_, fun n a c' ha hc' hd => ?_, nfz⟩, ⟨fun _ _ e => e, ⟨[p], rfl, fun a h => ?_⟩, fun a u e _ => ?_, fun a u e => ?_, fun _ _ e => .inl e⟩, ?_⟩
  · rw [upd_ne (ne_of_none e hB)]
    exact C.sub _ _ e
  · rw [List.nodup_append]
    refine ⟨C.nd, by simp, fun a h b h' => ?_⟩
    rw [List.mem_singleton.mp h']
    exact fun q => hA (q ▸ h)
  · rcases lst ha with ⟨q, ha⟩ | ⟨q, rfl⟩
    · rw [List.getElem?_append_left (by rw [← C.len]; exact q)] at hc'
      obtain ⟨u, e, r⟩ := C.at_ n a c' ha hc'
      exact ⟨u, by rw [upd_ne (ne_of_none e hp)]; exact e, r.mono (fun _ _ e => e) pre⟩
    · subst q
      rw [C.len, List.getElem?_append_right (Nat.le_refl _)] at hc'
      simp at hc'
      subst hc'
      exact ⟨o, upd_same, hc⟩
  · rcases lst ha with ⟨q, ha⟩ | ⟨q, rfl⟩
    · rw [List.getElem?_append_left (by rw [← C.len]; exact q)] at hc'
      exact C.off n a c' ha hc' hd
    · exact hB
  · rw [List.mem_singleton.mp h]
    exact hp
  · rw [upd_ne (ne_of_none e hp)]
    exact e
  · exact ⟨u, by rw [upd_ne (ne_of_none e hp)]; exact e⟩
  · rw [← C.len, List.getElem?_append_right (Nat.le_refl _)]
    simp
/-- a cell is changed -/
theorem Ctx.put (C : Ctx G B A L H) {n : Nat} {a : Addr} {c c' : Cell} {o : HO} (ha : A[n]? = some a) (hc : L[n]? = some c) (hd : c.live = true) (h : CRep G B A c' o) (hlv : c'.live = true := by rfl) : Ctx G B A (L.set n c') (upd H a o) ∧ Ext B A H B A (upd H a o) := by
  have hB := C.off n a c ha hc hd
  have hn : n < L.length := (List.getElem?_eq_some_iff.mp hc).1
  have hA : n < A.length := (List.getElem?_eq_some_iff.mp ha).1
  have nfz : ∀ (m : Nat) b d, A[m]? = some b → (L.set n c')[m]? = some (.fz d) → ∃ o, B b = some o := fun m b d hb hm => by
    by_cases q : m = n
    · subst q
      rw [List.getElem?_set_self hn] at hm
      rw [Option.some.inj hm] at hlv
      cases hlv
    · rw [List.getElem?_set_ne (Ne.symm q)] at hm
      exact C.fz m b d hb hm
  refine ⟨⟨by rw [List.length_set]; exact C.len, fun b u e => ?_, C.nd, fun m b d hb hm => ?_, fun m b d hb hm hdd => ?_, nfz⟩, ⟨fun _ _ e => e, ⟨[], by simp, fun _ h => nomatch h⟩, fun b u e hb => ?_, fun b u e => ?_, fun _ _ e => .inl e⟩⟩
  · rw [upd_ne (ne_of_none e hB)]
    exact C.sub _ _ e
  · by_cases q : m = n
    · subst q
      rw [List.getElem?_set_self hn] at hm
      rw [ha] at hb
      cases hb
      cases hm
      exact ⟨o, upd_same, h⟩
    · rw [List.getElem?_set_ne (Ne.symm q)] at hm
      obtain ⟨u, e, r⟩ := C.at_ m b d hb hm
      refine ⟨u, ?_, r⟩
      rw [upd_ne fun (z : b = a) => q (nd_ix C.nd hb (by rw [z]; exact ha))]
      exact e
  · by_cases q : m = n
    · subst q
      rw [ha] at hb
      cases hb
      exact hB
    · rw [List.getElem?_set_ne (Ne.symm q)] at hm
      exact C.off m b d hb hm hdd
  · rw [upd_ne fun (z : b = a) => hb (by rw [z]; exact List.mem_of_getElem? ha)]
    exact e
  · by_cases q : b = a
    · subst q
      exact ⟨o, upd_same⟩
    · exact ⟨u, by rw [upd_ne q]; exact e⟩
theorem CRep.notTup : ∀ {c : Cell} {xs : List V}, CRep G B A c (.tup xs) → c.live = true → False
  | .lst _, _, ⟨_, e, _⟩, _ => nomatch e
  | .dK _, _, ⟨_, e, _⟩, _ => nomatch e
  | .dT _, _, ⟨_, e, _⟩, _ => nomatch e
  | .rcd _ _, _, ⟨_, e, _⟩, _ => nomatch e
  | .seq _, _, ⟨_, e, _⟩, _ => nomatch e
  | .obj _ _, _, ⟨_, _, e, _⟩, _ => nomatch e
  | .fz _, _, _, h => nomatch h
  | .dead, _, _, h => nomatch h
theorem Ctx.cell (C : Ctx G B A L H) {n : Nat} {a : Addr} {c : Cell} (ha : A[n]? = some a) (hc : L[n]? = some c) : ∃ o, H a = some o ∧ CRep G B A c o := C.at_ n a c ha hc
theorem Ctx.addr (C : Ctx G B A L H) {n : Nat} {c : Cell} (hc : L[n]? = some c) : ∃ a, A[n]? = some a := by
  have hn : n < A.length := by rw [C.len]; exact (List.getElem?_eq_some_iff.mp hc).1
  exact ⟨A[n], by simp [hn]⟩
end

/-! ### results -/
/-- an error: its class, its own dict -/
def XRep (G : Cfg) (B : Hp) (c : Nat) (xs : List D) (cls : Value) (d : Option Addr) : Prop :=
  cls = .ref (G.cl c) ∧ (xs = [] → d = none) ∧ (xs ≠ [] → ∃ dd vs, d = some dd ∧ B dd = some (.xd ((G.nm c).zip vs)) ∧ xs.length ≤ (G.nm c).length ∧ Reps G B xs vs)
def RP (G : Cfg) {α β : Type} (Rel : Hp → List Addr → α → β → Prop) (r : Res α) (B : Hp) (A : List Addr) (H : Hp) (Q : β → Hp → Prop) (W : XK) : Prop := match r with
  | .ok a L' => ∀ B' A' H' b, Ext B A H B' A' H' → Ctx G B' A' L' H' → Rel B' A' a b → Q b H'
  | .exc c xs L' => ∀ B' A' H' cls d, Ext B A H B' A' H' → Ctx G B' A' L' H' → XRep G B' c xs cls d → W cls d H'
  | .bad => False
section
variable {G : Cfg} {α β γ δ : Type} {Rel : Hp → List Addr → α → β → Prop} {Rel' : Hp → List Addr → γ → δ → Prop} {B B1 : Hp} {A A1 : List Addr} {H H1 : Hp} {W : XK}
theorem RP.mono {r : Res α} {Q Q' : β → Hp → Prop} (h : RP G Rel r B A H Q W) (q : ∀ b H', Q b H' → Q' b H') : RP G Rel r B A H Q' W := by
  cases r with
  | ok a L => exact fun B' A' H' b x c z => q _ _ (h B' A' H' b x c z)
  | exc c xs L => exact h
  | bad => exact h
theorem RP.ext {r : Res α} {Q : β → Hp → Prop} (x : Ext B A H B1 A1 H1) (h : RP G Rel r B A H Q W) : RP G Rel r B1 A1 H1 Q W := by
  cases r with
  | ok a L => exact fun B' A' H' b y c z => h B' A' H' b (x.trans y) c z
  | exc c xs L => exact fun B' A' H' cls d y c z => h B' A' H' cls d (x.trans y) c z
  | bad => exact h
theorem RP.bind {r : Res α} {k : α → Led → Res γ} {Q : δ → Hp → Prop} {Q' : β → Hp → Prop} (h : RP G Rel' (r.bind k) B A H Q W)
    (q : ∀ a L1 B1 A1 H1 b, Ext B A H B1 A1 H1 → Ctx G B1 A1 L1 H1 → Rel B1 A1 a b → RP G Rel' (k a L1) B1 A1 H1 Q W → Q' b H1) : RP G Rel r B A H Q' W := by
  cases r with
  | ok a L => exact fun B' A' H' b x c z => q a L B' A' H' b x c z (RP.ext x h)
  | exc c xs L => exact h
  | bad => exact h
end
abbrev RPV (G : Cfg) (r : Res Rv) (B : Hp) (A : List Addr) (H : Hp) (Q : VK) (W : XK) : Prop := RP G (RepR G) r B A H Q W
def RelB : Hp → List Addr → Bool → Bool → Prop := fun _ _ a b => a = b
abbrev RPB (G : Cfg) (r : Res Bool) (B : Hp) (A : List Addr) (H : Hp) (Q : Bool → Hp → Prop) (W : XK) : Prop := RP G RelB r B A H Q W
abbrev RPA (G : Cfg) (r : Res (List Rv)) (B : Hp) (A : List Addr) (H : Hp) (Q : List V → Hp → Prop) (W : XK) : Prop := RP G (RepRs G) r B A H Q W

/-- what holds of B and of the slots within a clause: the error in hand -/
structure Ph where
  p : Hp → L2.St → Prop
  mono : ∀ B B' σ, Same B B' → p B σ → p B' σ
  off : Nat → Bool
  keep : ∀ i B σ o, off i = true → p B σ → p B (σ.set i o)
def Ph.yes : Ph := ⟨fun _ _ => True, fun _ _ _ _ h => h, fun _ => true, fun _ _ _ _ _ h => h⟩
def EnvR (G : Cfg) (B : Hp) (A : List Addr) (ρ : Env) (σ : L2.St) : Prop := ρ.length = σ.length ∧ ∀ (i : Nat) v, ρ[i]? = some (some v) → ∃ u, σ[i]? = some (some u) ∧ RepR G B A v u
structure StR (G : Cfg) (Φ : Ph) (B : Hp) (A : List Addr) (ρ : Env) (L : Led) (σ : L2.St) (H : Hp) : Prop where
  phi : Φ.p B σ
  env : EnvR G B A ρ σ
  ctx : Ctx G B A L H
theorem EnvR.mono {G : Cfg} {B B' : Hp} {A A' : List Addr} {ρ : Env} {σ : L2.St} (h : Same B B') (p : Pre A A') (e : EnvR G B A ρ σ) : EnvR G B' A' ρ σ := ⟨e.1, fun i v q => by
  obtain ⟨u, h1, h2⟩ := e.2 i v q
  exact ⟨u, h1, h2.mono h p⟩⟩
theorem StR.step {G : Cfg} {Φ : Ph} {B B' : Hp} {A A' : List Addr} {ρ : Env} {L L' : Led} {σ : L2.St} {H H' : Hp} (S : StR G Φ B A ρ L σ H) (x : Ext B A H B' A' H') (c : Ctx G B' A' L' H') : StR G Φ B' A' ρ L' σ H' :=
  ⟨Φ.mono _ _ _ x.base S.phi, S.env.mono x.base x.Pre, c⟩
theorem EnvR.set {G : Cfg} {B : Hp} {A : List Addr} {ρ : Env} {σ : L2.St} {v : Rv} {u : V} (e : EnvR G B A ρ σ) (i : Nat) (r : RepR G B A v u) : EnvR G B A (ρ.set i (some v)) (σ.set i (some u)) := by
  refine ⟨by rw [List.length_set, List.length_set]; exact e.1, fun j w q => ?_⟩
  by_cases z : i = j
  · subst z
    have hi : i < ρ.length := by
      have := (List.getElem?_eq_some_iff.mp q).1
      rw [List.length_set] at this
      exact this
    rw [List.getElem?_set_self hi] at q
    cases q
    exact ⟨u, by rw [List.getElem?_set_self (by rw [← e.1]; exact hi)], r⟩
  · rw [List.getElem?_set_ne z] at q
    obtain ⟨u', h1, h2⟩ := e.2 j w q
    exact ⟨u', by rw [List.getElem?_set_ne z]; exact h1, h2⟩
theorem EnvR.forget {G : Cfg} {B : Hp} {A : List Addr} {ρ : Env} {σ : L2.St} (e : EnvR G B A ρ σ) (i : Nat) (o : Option V) : EnvR G B A (ρ.set i none) (σ.set i o) := by
  refine ⟨by rw [List.length_set, List.length_set]; exact e.1, fun j w q => ?_⟩
  by_cases z : i = j
  · subst z
    have hi : i < ρ.length := by
      have := (List.getElem?_eq_some_iff.mp q).1
      rw [List.length_set] at this
      exact this
    rw [List.getElem?_set_self hi] at q
    cases q
  · rw [List.getElem?_set_ne z] at q
    obtain ⟨u', h1, h2⟩ := e.2 j w q
    exact ⟨u', by rw [List.getElem?_set_ne z]; exact h1, h2⟩

end Dl

set_option Elab.async false
set_option linter.all false
set_option maxRecDepth 100000
/-! Se: expressions. -/
namespace Dl
open PySem PySem.Spec PyProof.Rows L2

/-! ### the relations between a reading and its data -/
def ER (G : Cfg) (Φ : Ph) (W : WX) (te : TE) (m : DE) : Prop := ∀ (σ : L2.St) (H B : Hp) (A : List Addr) (ρ : Env) (L : Led) (Q : VK), StR G Φ B A ρ L σ H → RPV G (m ρ L) B A H Q (fun c d H' => W c d σ H') → te σ H Q
def TR (G : Cfg) (Φ : Ph) (W : WX) (tt : TT) (m : DT) : Prop := ∀ (σ : L2.St) (H B : Hp) (A : List Addr) (ρ : Env) (L : Led) (Q : Bool → Hp → Prop), StR G Φ B A ρ L σ H → RPB G (m ρ L) B A H Q (fun c d H' => W c d σ H') → tt σ H Q
def AR (G : Cfg) (Φ : Ph) (W : WX) (ta : TA) (m : DA) : Prop := ∀ (σ : L2.St) (H B : Hp) (A : List Addr) (ρ : Env) (L : Led) (Q : List V → Hp → Prop), StR G Φ B A ρ L σ H → RPA G (m ρ L) B A H Q (fun c d H' => W c d σ H') → ta σ H Q
def R2R (G : Cfg) (r : R2) (g : V2) : Prop := ∀ (x y : Rv) (u w : V) (H B : Hp) (A : List Addr) (L : Led) (Q : VK) (W : XK), Ctx G B A L H → RepR G B A x u → RepR G B A y w → RPV G (g x y L) B A H Q W → r u w H Q
def R1R (G : Cfg) (r : V → Hp → VK → Prop) (g : V1) : Prop := ∀ (x : Rv) (u : V) (H B : Hp) (A : List Addr) (L : Led) (Q : VK) (W : XK), Ctx G B A L H → RepR G B A x u → RPV G (g x L) B A H Q W → r u H Q
def RNR (G : Cfg) (r : List V → Hp → VK → Prop) (g : VN) : Prop := ∀ (xs : List Rv) (us : List V) (H B : Hp) (A : List Addr) (L : Led) (Q : VK) (W : XK), Ctx G B A L H → RepRs G B A xs us → RPV G (g xs L) B A H Q W → r us H Q
/-! ### the judgements -/
def QE (G : Cfg) (X : Cx) (Φ : Ph) (W : WX) (e : Expr) (m : DE) : Prop := ∃ te, PE X e te ∧ ER G Φ W te m
def QT (G : Cfg) (X : Cx) (Φ : Ph) (W : WX) (e : Expr) (m : DT) : Prop := ∃ tt, PT X e tt ∧ TR G Φ W tt m
def QW (G : Cfg) (X : Cx) (Φ : Ph) (W : WX) (e : Expr) (m : DT) : Prop := ∃ tt, PW X e tt ∧ TR G Φ W tt m
def QA (G : Cfg) (X : Cx) (Φ : Ph) (W : WX) (es : List Expr) (m : DA) : Prop := ∃ ta, PA X es ta ∧ AR G Φ W ta m
def O2 (G : Cfg) (X : Cx) (f : Value → Value → Sem Value) (g : V2) : Prop := ∃ r, OpR X f r ∧ R2R G r g
def O1 (G : Cfg) (X : Cx) (f : Value → Sem Value) (g : V1) : Prop := ∃ r, UnR X f r ∧ R1R G r g
def ON (G : Cfg) (X : Cx) (f : Value) (g : VN) : Prop := ∃ r, CallR X f r ∧ RNR G r g

section
variable {G : Cfg} {Φ : Ph} {W : WX} {ta tb tc : TE} {ma mb mc : DE}
theorem er_op {r : R2} {g : V2} (hr : R2R G r g) (ha : ER G Φ W ta ma) (hb : ER G Φ W tb mb) : ER G Φ W (tOp r ta tb) (e2 g ma mb) := fun σ H B A ρ L Q S q =>
  ha σ H B A ρ L _ S (RP.bind q fun x L1 B1 A1 H1 u x1 c1 r1 q1 => hb σ H1 B1 A1 ρ L1 _ (S.step x1 c1) (RP.bind q1 fun y L2 B2 A2 H2 w x2 c2 r2 q2 =>
    hr x y u w H2 B2 A2 L2 Q _ c2 (r1.mono x2.base x2.Pre) r2 q2))
theorem er_un {r : V → Hp → VK → Prop} {g : V1} (hr : R1R G r g) (ha : ER G Φ W ta ma) : ER G Φ W (tUn r ta) (e1 g ma) := fun σ H B A ρ L Q S q =>
  ha σ H B A ρ L _ S (RP.bind q fun x L1 B1 A1 H1 u x1 c1 r1 q1 => hr x u H1 B1 A1 L1 Q _ c1 r1 q1)
theorem er_cb {r : List V → Hp → VK → Prop} {g : VN} {t : TA} {m : DA} (hr : RNR G r g) (ha : AR G Φ W t m) : ER G Φ W (tCB r t) (eN g m) := fun σ H B A ρ L Q S q =>
  ha σ H B A ρ L _ S (RP.bind q fun x L1 B1 A1 H1 u x1 c1 r1 q1 => hr x u H1 B1 A1 L1 Q _ c1 r1 q1)
theorem er_chain {r r' : R2} {g g' : V2} (hr : R2R G r g) (hr' : R2R G r' g') (ha : ER G Φ W ta ma) (hb : ER G Φ W tb mb) (hc : ER G Φ W tc mc) : ER G Φ W (tChain r r' ta tb tc) (chainE g g' ma mb mc) := fun σ H B A ρ L Q S q =>
  ha σ H B A ρ L _ S (RP.bind q fun x L1 B1 A1 H1 u x1 c1 r1 q1 => hb σ H1 B1 A1 ρ L1 _ (S.step x1 c1) (RP.bind q1 fun y L2 B2 A2 H2 w x2 c2 r2 q2 => by
    refine hr x y u w H2 B2 A2 L2 _ _ c2 (r1.mono x2.base x2.Pre) r2 (RP.bind q2 fun z L3 B3 A3 H3 v x3 c3 r3 q3 => ?_)
    cases z with
    | loc n => exact q3.elim
    | d z =>
      cases z with
      | bl k =>
        obtain rfl : v = .bl k := r3
        refine ⟨k, rfl, ?_⟩
        cases k with
        | true =>
          exact hc σ H3 B3 A3 ρ L3 _ (((S.step x1 c1).step x2 c2).step x3 c3) (RP.bind q3 fun w' L4 B4 A4 H4 u4 x4 c4 r4 q4 => hr' y w' w u4 H4 B4 A4 L4 Q _ c4 ((r2.mono x3.base x3.Pre).mono x4.base x4.Pre) r4 q4)
        | false => exact q3 B3 A3 H3 (.bl false) Ext.refl c3 rfl
      | _ => exact q3.elim))
theorem ar_nil : AR G Φ W tNil aN := fun σ H B A ρ L Q S q => q B A H [] Ext.refl S.ctx rfl
theorem ar_cons {t : TA} {m : DA} (ha : ER G Φ W ta ma) (hr : AR G Φ W t m) : AR G Φ W (tCons ta t) (aC ma m) := fun σ H B A ρ L Q S q =>
  ha σ H B A ρ L _ S (RP.bind q fun x L1 B1 A1 H1 u x1 c1 r1 q1 => hr σ H1 B1 A1 ρ L1 _ (S.step x1 c1) (RP.bind q1 fun xs L2 B2 A2 H2 us x2 c2 r2 q2 =>
    q2 B2 A2 H2 _ Ext.refl c2 ⟨u, us, rfl, r1.mono x2.base x2.Pre, r2⟩))
theorem tr_B (ha : ER G Φ W ta ma) : TR G Φ W (L2.tB ta) (tB ma) := fun σ H B A ρ L Q S q =>
  ha σ H B A ρ L _ S (RP.bind q fun x L1 B1 A1 H1 u x1 c1 r1 q1 => by
    cases x with
    | loc n => exact q1.elim
    | d x =>
      cases x with
      | bl k =>
        obtain rfl : u = .bl k := r1
        exact ⟨k, rfl, q1 B1 A1 H1 k Ext.refl c1 rfl⟩
      | _ => exact q1.elim)
theorem tr_test (ha : ER G Φ W ta ma) : TR G Φ W (tTest ta) (tB ma) := tr_B ha
theorem tr_and {t u : TT} {m n : DT} (ha : TR G Φ W t m) (hb : TR G Φ W u n) : TR G Φ W (L2.tAnd t u) (tAnd m n) := fun σ H B A ρ L Q S q =>
  ha σ H B A ρ L _ S (RP.bind q fun c L1 B1 A1 H1 c' x1 c1 r1 q1 => by
    obtain rfl : c = c' := r1
    cases c with
    | true => exact hb σ H1 B1 A1 ρ L1 Q (S.step x1 c1) q1
    | false => exact q1 B1 A1 H1 false Ext.refl c1 rfl)
theorem tr_or {t u : TT} {m n : DT} (ha : TR G Φ W t m) (hb : TR G Φ W u n) : TR G Φ W (L2.tOr t u) (tOr m n) := fun σ H B A ρ L Q S q =>
  ha σ H B A ρ L _ S (RP.bind q fun c L1 B1 A1 H1 c' x1 c1 r1 q1 => by
    obtain rfl : c = c' := r1
    cases c with
    | false => exact hb σ H1 B1 A1 ρ L1 Q (S.step x1 c1) q1
    | true => exact q1 B1 A1 H1 true Ext.refl c1 rfl)
theorem tr_not {t : TT} {m : DT} (ha : TR G Φ W t m) : TR G Φ W (L2.tNot t) (tNot m) := fun σ H B A ρ L Q S q =>
  ha σ H B A ρ L _ S (RP.bind q fun c L1 B1 A1 H1 c' x1 c1 r1 q1 => by
    obtain rfl : c = c' := r1
    exact q1 B1 A1 H1 (!c) Ext.refl c1 rfl)
theorem er_andV (ha : ER G Φ W ta ma) (hb : ER G Φ W tb mb) : ER G Φ W (tAndV ta tb) (andE ma mb) := fun σ H B A ρ L Q S q =>
  ha σ H B A ρ L _ S (RP.bind q fun x L1 B1 A1 H1 u x1 c1 r1 q1 => by
    cases x with
    | loc n => exact q1.elim
    | d x =>
      cases x with
      | bl k =>
        obtain rfl : u = .bl k := r1
        refine ⟨k, rfl, ?_⟩
        cases k with
        | true => exact hb σ H1 B1 A1 ρ L1 Q (S.step x1 c1) q1
        | false => exact q1 B1 A1 H1 (.bl false) Ext.refl c1 rfl
      | _ => exact q1.elim)
theorem er_orV (ha : ER G Φ W ta ma) (hb : ER G Φ W tb mb) : ER G Φ W (tOrV ta tb) (orE ma mb) := fun σ H B A ρ L Q S q =>
  ha σ H B A ρ L _ S (RP.bind q fun x L1 B1 A1 H1 u x1 c1 r1 q1 => by
    cases x with
    | loc n => exact q1.elim
    | d x =>
      cases x with
      | bl k =>
        obtain rfl : u = .bl k := r1
        refine ⟨k, rfl, ?_⟩
        cases k with
        | false => exact hb σ H1 B1 A1 ρ L1 Q (S.step x1 c1) q1
        | true => exact q1 B1 A1 H1 (.bl true) Ext.refl c1 rfl
      | _ => exact q1.elim)
theorem er_notV (ha : ER G Φ W ta ma) : ER G Φ W (tNotV ta) (notE ma) := fun σ H B A ρ L Q S q =>
  ha σ H B A ρ L _ S (RP.bind q fun x L1 B1 A1 H1 u x1 c1 r1 q1 => by
    cases x with
    | loc n => exact q1.elim
    | d x =>
      cases x with
      | bl k =>
        obtain rfl : u = .bl k := r1
        exact ⟨k, rfl, q1 B1 A1 H1 (.bl (!k)) Ext.refl c1 rfl⟩
      | _ => exact q1.elim)
theorem er_if {t : TT} {m : DT} (hc : TR G Φ W t m) (ha : ER G Φ W ta ma) (hb : ER G Φ W tb mb) : ER G Φ W (tIf t ta tb) (ifE m ma mb) := fun σ H B A ρ L Q S q =>
  hc σ H B A ρ L _ S (RP.bind q fun c L1 B1 A1 H1 c' x1 c1 r1 q1 => by
    obtain rfl : c = c' := r1
    cases c with
    | true => exact ha σ H1 B1 A1 ρ L1 Q (S.step x1 c1) q1
    | false => exact hb σ H1 B1 A1 ρ L1 Q (S.step x1 c1) q1)
end

/-! ### lists in the heap -/
section
variable {G : Cfg} {B : Hp} {A : List Addr} {L : Led} {H : Hp} {K : PySem.W.Frag} {Q : VK} {W : XK}
theorem itemsL_at (C : Ctx G B A L H) {x : Rv} {u : V} {xs : List D} (r : RepR G B A x u) (h : itemsL L x = some xs) : ∃ a vs, u = .ref a ∧ H a = some (.lst vs) ∧ Reps G B xs vs := by
  cases x with
  | d x =>
    cases x with
    | lst ys =>
      have e : ys = xs := Option.some.inj h
      subst e
      obtain ⟨a, vs, e1, e2, e3⟩ := r
      exact ⟨a, vs, e1, C.sub _ _ e2, e3⟩
    | _ => cases h
  | loc n =>
    have h1 : (match L[n]? with | some (.lst xs) => some xs | _ => none) = some xs := h
    cases e : L[n]? with
    | none =>
      rw [e] at h1
      cases h1
    | some c =>
      rw [e] at h1
      cases c with
      | lst ys =>
        have e : ys = xs := Option.some.inj h1
        subst e
        obtain ⟨a, e1, e2⟩ := r
        obtain ⟨o, e3, vs, e4, e5⟩ := C.cell e1 (by assumption)
        exact ⟨a, vs, e2, by rw [e3, e4], e5⟩
      | _ => cases h1
theorem items_at (hK : K = G.K) (C : Ctx G B A L H) {x : Rv} {u : V} {xs : List D} (r : RepR G B A x u) (h : items L x = some xs) : ∃ a vs, u = .ref a ∧ (SqL K H a vs ∨ SqT K H a vs) ∧ Reps G B xs vs := by
  have go : ∀ {x : Rv}, RepR G B A x u → itemsL L x = some xs → ∃ a vs, u = .ref a ∧ (SqL K H a vs ∨ SqT K H a vs) ∧ Reps G B xs vs := fun r h => by
    obtain ⟨a, vs, e1, e2, e3⟩ := itemsL_at C r h
    exact ⟨a, vs, e1, .inl (SqL.of e2), e3⟩
  cases x with
  | loc n => exact go r h
  | d x =>
    cases x with
    | tup ys =>
      have e : ys = xs := Option.some.inj h
      subst e
      obtain ⟨a, vs, e1, e2, e3⟩ := r
      exact ⟨a, vs, e1, .inr (SqT.of (C.sub _ _ e2)), e3⟩
    | slst ys =>
      have e : ys = xs := Option.some.inj h
      subst e
      obtain ⟨a, vs, e1, e2, e3⟩ := r
      exact ⟨a, vs, e1, .inl (by rw [hK]; exact sql_same C.sub e2), e3⟩
    | lst ys => exact go (x := .d (.lst ys)) r h
    | _ => cases h
theorem mkL_at (C : Ctx G B A L H) {box : Bool} {xs : List D} {vs : List V} (r : Reps G B xs vs) (q : RPV G (mkL box xs L) B A H Q W) : ∀ p, H p = none → Q (.ref p) (upd H p (.lst vs)) := fun p hp => by
  cases box with
  | true =>
    obtain ⟨c, x, e⟩ := C.newA (o := .lst vs) (c := .lst xs) hp ⟨vs, rfl, r⟩
    exact q B (A ++ [p]) _ (.ref p) x c ⟨p, e, rfl⟩
  | false =>
    obtain ⟨c, x, e⟩ := C.newB (o := .lst vs) hp
    exact q _ A _ (.ref p) x c ⟨p, vs, rfl, e, Reps.mono x.base _ _ r⟩
theorem mkSeq_at (C : Ctx G B A L H) {xs : List Rv} {vs : List V} (r : RepRs G B A xs vs) (q : RPV G (.ok (.loc L.length) (L ++ [.seq xs])) B A H Q W) : ∀ p, H p = none → Q (.ref p) (upd H p (.lst vs)) := fun p hp => by
  obtain ⟨c, x, e⟩ := C.newA (o := .lst vs) (c := .seq xs) hp ⟨vs, rfl, r.mono (fun _ _ e => e) ⟨[p], rfl⟩⟩
  exact q B (A ++ [p]) _ (.ref p) x c ⟨p, e, rfl⟩
theorem tup_at (C : Ctx G B A L H) {xs : List D} {vs : List V} (r : Reps G B xs vs) (q : RPV G (.ok (.d (.tup xs)) L) B A H Q W) : ∀ p, H p = none → Q (.ref p) (upd H p (.tup vs)) := fun p hp => by
  obtain ⟨c, x, e⟩ := C.newB (o := .tup vs) hp
  exact q _ A _ (.ref p) x c ⟨p, vs, rfl, e, Reps.mono x.base _ _ r⟩
theorem lst_at (C : Ctx G B A L H) {xs : List D} {vs : List V} (r : Reps G B xs vs) (q : RPV G (.ok (.d (.lst xs)) L) B A H Q W) : ∀ p, H p = none → Q (.ref p) (upd H p (.lst vs)) := mkL_at (box := false) C r q
end

/-! ### operators -/
section
variable {G : Cfg} {X : Cx}
theorem szL : (SZ : Nat) = sizeLine := by
  rw [PySem.sizeLine_eq]
theorem le_line {n : Nat} (h : n ≤ SZ) : n ≤ sizeLine := by rw [← szL]; exact h
theorem lt_line {n : Nat} (h : n < SZ) : n < sizeLine := by rw [← szL]; exact h
theorem o2_ii {f : Value → Value → Sem Value} {g : Int → Int → V} {gd : Int → Int → D} (h : OpR X f (rI0 g)) (e : ∀ i j, Rep G (fun _ => none) (gd i j) (g i j)) : O2 G X f (ii gd) := ⟨_, h, fun x y u w H B A L Q W C r1 r2 q => by
  cases x with
  | loc n => exact q.elim
  | d x =>
    cases x with
    | int i =>
      cases y with
      | loc n => exact q.elim
      | d y =>
        cases y with
        | int j => exact ⟨i, j, r1, r2, q B A H _ Ext.refl C (Rep.mono (fun _ _ z => by cases z) _ _ (e i j))⟩
        | _ => exact q.elim
    | _ => exact q.elim⟩
theorem o_sub : O2 G X (binaryOp .Sub) subV := o2_ii op_sub fun _ _ => rfl
theorem o_lt : O2 G X (compareOp .Lt) ltV := o2_ii op_lt fun _ _ => rfl
theorem o_le : O2 G X (compareOp .LtE) leV := o2_ii op_le fun _ _ => rfl
theorem o_gt : O2 G X (compareOp .Gt) gtV := o2_ii op_gt fun _ _ => rfl
theorem o_ge : O2 G X (compareOp .GtE) geV := o2_ii op_ge fun _ _ => rfl
theorem r2_add {f : Value → Value → Sem Value} (h1 : OpR X f (rI0 fun i j => .int (i + j))) (h2 : OpR X f (fun x y H Q => ∃ i j, x = .str i ∧ y = .str j ∧ i.length + j.length ≤ sizeLine ∧ Q (.str (i ++ j)) H)) (h3 : OpR X f rCat) (box : Bool) : O2 G X f (addV box) := ⟨_, (h1.or h2).or h3, fun x y u w H B A L Q W C r1 r2 q => by
  have cat : ∀ xs ys, itemsL L x = some xs → itemsL L y = some ys → RPV G (if xs.length + ys.length ≤ SZ then mkL box (xs ++ ys) L else .bad) B A H Q W → rCat u w H Q := fun xs ys h1 h2 q => by
    obtain ⟨a, vs, e1, e2, e3⟩ := itemsL_at C r1 h1
    obtain ⟨b, ws, f1, f2, f3⟩ := itemsL_at C r2 h2
    by_cases hl : xs.length + ys.length ≤ SZ
    · rw [if_pos hl] at q
      exact ⟨a, b, vs, ws, e1, f1, e2, f2, by rw [e3.len, f3.len]; exact le_line hl, mkL_at C (Reps.append f3 e3) q⟩
    · rw [if_neg hl] at q
      exact q.elim
  have gen : RPV G (match itemsL L x, itemsL L y with
    | some xs, some ys => if xs.length + ys.length ≤ SZ then mkL box (xs ++ ys) L else .bad
    | _, _ => .bad) B A H Q W → rCat u w H Q := fun q => by
    cases e1 : itemsL L x with
    | none =>
      rw [e1] at q
      exact q.elim
    | some xs =>
      cases e2 : itemsL L y with
      | none =>
        rw [e1, e2] at q
        exact q.elim
      | some ys =>
        rw [e1, e2] at q
        exact cat xs ys e1 e2 q
  cases x with
  | loc n => exact .inr (gen q)
  | d x =>
    cases x with
    | int i =>
      cases y with
      | loc n => exact .inr (gen q)
      | d y =>
        cases y with
        | int j => exact .inl (.inl ⟨i, j, r1, r2, q B A H _ Ext.refl C rfl⟩)
        | _ => exact .inr (gen q)
    | str s =>
      cases y with
      | loc n => exact .inr (gen q)
      | d y =>
        cases y with
        | str t =>
          have q1 : RPV G (if s.length + t.length ≤ SZ then .ok (.d (.str (s ++ t))) L else .bad) B A H Q W := q
          by_cases hl : s.length + t.length ≤ SZ
          · rw [if_pos hl] at q1
            refine .inl (.inr ⟨sOf s, sOf t, r1, r2, by rw [sOf_len, sOf_len]; exact le_line hl, ?_⟩)
            have e : sOf s ++ sOf t = sOf (s ++ t) := by
              show PySem.Str.append (sOf s) (sOf t) = sOf (s ++ t)
              unfold PySem.Str.append sOf
              simp
            rw [e]
            exact q1 B A H _ Ext.refl C rfl
          · rw [if_neg hl] at q1
            exact q1.elim
        | _ => exact .inr (gen q)
    | _ => exact .inr (gen q)⟩
theorem o_add (box : Bool) : O2 G X (binaryOp .Add) (addV box) := r2_add op_add op_add_str op_cat box
theorem isB_ok {i : Int} (h : isB i = true) : -(2 ^ 64) < i ∧ i < 2 ^ 64 := by
  unfold isB at h
  rw [Bool.and_eq_true, decide_eq_true_eq, decide_eq_true_eq] at h
  exact h
theorem o_mul (box : Bool) : O2 G X (binaryOp .Mult) (mulV box) := ⟨_, op_mul.or op_rep, fun x y u w H B A L Q W C r1 r2 q => by
  have rep : ∀ (k : Int), y = .d (.int k) → RPV G (match itemsL L x with
    | some xs => if decide (k < 2 ^ 62) && (decide (-(2 ^ 62) < k) && decide (xs.length * k.toNat ≤ SZ)) then mkL box (List.replicate k.toNat xs).flatten L else .bad
    | _ => .bad) B A H Q W → rRep u w H Q := fun k ey q2 => by
    subst ey
    cases e1 : itemsL L x with
    | none =>
      rw [e1] at q2
      exact q2.elim
    | some xs =>
      rw [e1] at q2
      have q1 : RPV G (if decide (k < 2 ^ 62) && (decide (-(2 ^ 62) < k) && decide (xs.length * k.toNat ≤ SZ)) then mkL box (List.replicate k.toNat xs).flatten L else .bad) B A H Q W := q2
      by_cases hl : (decide (k < 2 ^ 62) && (decide (-(2 ^ 62) < k) && decide (xs.length * k.toNat ≤ SZ))) = true
      · rw [if_pos hl] at q1
        simp only [Bool.and_eq_true, decide_eq_true_eq] at hl
        obtain ⟨h1, h2, h3⟩ := hl
        obtain ⟨a, vs, f1, f2, f3⟩ := itemsL_at C r1 e1
        refine ⟨a, k, vs, f1, r2, f2, by omega, by omega, by rw [f3.len]; exact le_line h3, mkL_at C ?_ q1⟩
        generalize k.toNat = n
        induction n with
        | zero => exact rfl
        | succ n ih =>
          rw [List.replicate_succ, List.replicate_succ, List.flatten_cons, List.flatten_cons]
          exact Reps.append ih f3
      · rw [if_neg hl] at q1
        exact q1.elim
  cases y with
  | loc n =>
    cases x with
    | loc m => exact q.elim
    | d x => cases x <;> exact q.elim
  | d y =>
    cases y with
    | int j =>
      cases x with
      | loc n => exact .inr (rep j rfl q)
      | d x =>
        cases x with
        | int i =>
          have q1 : RPV G (if isB i || isB j then .ok (.d (.int (i * j))) L else .bad) B A H Q W := q
          by_cases hl : (isB i || isB j) = true
          · rw [if_pos hl] at q1
            refine .inl ⟨i, j, r1, r2, ?_, q1 B A H _ Ext.refl C rfl⟩
            rcases Bool.or_eq_true_iff.mp hl with z | z
            · exact .inl (isB_ok z)
            · exact .inr (isB_ok z)
          · rw [if_neg hl] at q1
            exact q1.elim
        | _ => exact .inr (rep j rfl q)
    | _ =>
      cases x with
      | loc m => exact q.elim
      | d x => cases x <;> exact q.elim⟩
theorem o2_ic {f : Value → Value → Sem Value} {P : Int → Int → Prop} {g : Int → Int → Int} {c : Int → Int → Bool} {v : V2} (h : OpR X f (rI P fun i j => .int (g i j))) (hp : ∀ i j, c i j = true → P i j)
    (e : ∀ x y L, v x y L = match x, y with | .d (.int i), .d (.int j) => if c i j = true then .ok (.d (.int (g i j))) L else .bad | _, _ => .bad) : O2 G X f v := ⟨_, h, fun x y u w H B A L Q W C r1 r2 q => by
  rw [e] at q
  cases x with
  | loc n => exact q.elim
  | d x =>
    cases x with
    | int i =>
      cases y with
      | loc n => exact q.elim
      | d y =>
        cases y with
        | int j =>
          have q1 : RPV G (if c i j = true then .ok (.d (.int (g i j))) L else .bad) B A H Q W := q
          by_cases hl : c i j = true
          · rw [if_pos hl] at q1
            exact ⟨i, j, r1, r2, hp i j hl, q1 B A H _ Ext.refl C rfl⟩
          · rw [if_neg hl] at q1
            exact q1.elim
        | _ => exact q.elim
    | _ => exact q.elim⟩
theorem o_div : O2 G X (binaryOp .FloorDiv) divV := o2_ic (c := fun _ j => isDiv j) op_fdivW (fun i j h => by
  unfold isDiv at h
  rw [Bool.and_eq_true, decide_eq_true_eq, decide_eq_true_eq] at h
  exact wide_div (b := 62) h.1 (by omega) (by decide) (by decide)) fun _ _ _ => rfl
theorem o_mod : O2 G X (binaryOp .Mod) modV := o2_ic (c := fun _ j => decide (0 < j)) op_mod (fun i j h => of_decide_eq_true h) fun _ _ _ => rfl
theorem o_pow : O2 G X (binaryOp .Pow) powV := o2_ic (c := fun i j => (decide (0 ≤ j) && decide (j ≤ 1000)) && (decide (-(2 ^ 63) < i) && decide (i < 2 ^ 63))) op_pow (fun i j h => by
  simp only [Bool.and_eq_true, decide_eq_true_eq] at h
  exact ⟨h.1.1, by omega, by omega⟩) fun _ _ _ => rfl
theorem o_neg : O1 G X (unaryOp .USub) negV := ⟨_, un_neg, fun x u H B A L Q W C r q => by
  cases x with
  | loc n => exact q.elim
  | d x =>
    cases x with
    | int i => exact ⟨i, r, q B A H _ Ext.refl C rfl⟩
    | _ => exact q.elim⟩
end
end Dl

set_option Elab.async false
set_option linter.all false
set_option maxRecDepth 100000
/-! So: more operators: ==, is, in, items, displays. -/
namespace Dl
open PySem PySem.Spec PyProof.Rows L2

/-! ### data as data -/
mutual
def pd : D → PyData
  | .non => .none
  | .bl b => .bool b
  | .int i => .int i
  | .str s => .str (sOf s)
  | .lst xs => .list (pds xs)
  | .tup xs => .tuple (pds xs)
  | .slst _ => .none
  | .stup _ => .none
  | .obj _ _ => .none
  | .cls _ => .none
def pds : List D → List PyData
  | [] => []
  | x :: r => pd x :: pds r
end
theorem sOf_iff (a b : Txt) : sOf a = sOf b ↔ a = b := ⟨fun e => sOf_inj e, fun e => by rw [e]⟩
theorem sOf_beq (a b : Txt) : (sOf a == sOf b) = (a == b) := by
  by_cases h : a = b
  · subst h
    simp
  · have h2 : ¬ sOf a = sOf b := fun e => h (sOf_inj e)
    rw [beq_eq_false_iff_ne.mpr h, beq_eq_false_iff_ne.mpr h2]
mutual
theorem eqv_pd : ∀ (n m : Nat) (a b : D), plain n a = true → plain m b = true → PyData.eqv (pd a) (pd b) = deq a b
  | 0, _, _, _, h, _ => by simp [plain] at h
  | _ + 1, 0, _, _, _, h => by simp [plain] at h
  | n + 1, m + 1, .lst xs, .lst ys, h, h' => by
    simp only [plain] at h h'
    simp only [pd, PyData.eqv, deq]
    exact eqv_pds n m xs ys h h'
  | n + 1, m + 1, .tup xs, .tup ys, h, h' => by
    simp only [plain] at h h'
    simp only [pd, PyData.eqv, deq]
    exact eqv_pds n m xs ys h h'
  | n + 1, m + 1, .str a, .str b, h, h' => by simp only [pd, PyData.eqv, deq, sOf_beq]
  | n + 1, m + 1, .non, b, h, h' => by cases b <;> first | rfl | (simp [plain] at h') | simp [pd, PyData.eqv, deq]
  | n + 1, m + 1, .bl a, b, h, h' => by cases b <;> first | (simp [plain] at h'; done) | simp [pd, PyData.eqv, deq]
  | n + 1, m + 1, .int a, b, h, h' => by cases b <;> first | (simp [plain] at h'; done) | simp [pd, PyData.eqv, deq]
  | n + 1, m + 1, .str a, .non, h, h' => by simp [pd, PyData.eqv, deq]
  | n + 1, m + 1, .str a, .bl _, h, h' => by simp [pd, PyData.eqv, deq]
  | n + 1, m + 1, .str a, .int _, h, h' => by simp [pd, PyData.eqv, deq]
  | n + 1, m + 1, .str a, .lst _, h, h' => by simp [pd, PyData.eqv, deq]
  | n + 1, m + 1, .str a, .tup _, h, h' => by simp [pd, PyData.eqv, deq]
  | n + 1, m + 1, .lst a, .non, h, h' => by simp [pd, PyData.eqv, deq]
  | n + 1, m + 1, .lst a, .bl _, h, h' => by simp [pd, PyData.eqv, deq]
  | n + 1, m + 1, .lst a, .int _, h, h' => by simp [pd, PyData.eqv, deq]
  | n + 1, m + 1, .lst a, .str _, h, h' => by simp [pd, PyData.eqv, deq]
  | n + 1, m + 1, .lst a, .tup _, h, h' => by simp [pd, PyData.eqv, deq]
  | n + 1, m + 1, .tup a, .non, h, h' => by simp [pd, PyData.eqv, deq]
  | n + 1, m + 1, .tup a, .bl _, h, h' => by simp [pd, PyData.eqv, deq]
  | n + 1, m + 1, .tup a, .int _, h, h' => by simp [pd, PyData.eqv, deq]
  | n + 1, m + 1, .tup a, .str _, h, h' => by simp [pd, PyData.eqv, deq]
  | n + 1, m + 1, .tup a, .lst _, h, h' => by simp [pd, PyData.eqv, deq]
  | n + 1, m + 1, .slst _, _, h, _ => by simp [plain] at h
  | n + 1, m + 1, .stup _, _, h, _ => by simp [plain] at h
  | n + 1, m + 1, .obj _ _, _, h, _ => by simp [plain] at h
  | n + 1, m + 1, .cls _, _, h, _ => by simp [plain] at h
  | n + 1, m + 1, _, .slst _, _, h => by simp [plain] at h
  | n + 1, m + 1, _, .stup _, _, h => by simp [plain] at h
  | n + 1, m + 1, _, .obj _ _, _, h => by simp [plain] at h
  | n + 1, m + 1, _, .cls _, _, h => by simp [plain] at h
theorem eqv_pds : ∀ (n m : Nat) (a b : List D), plains n a = true → plains m b = true → PyData.eqvAll (pds a) (pds b) = deqs a b
  | _, _, [], [], _, _ => by simp [pds, PyData.eqvAll, deqs]
  | _, _, [], _ :: _, _, _ => by simp [pds, PyData.eqvAll, deqs]
  | _, _, _ :: _, [], _, _ => by simp [pds, PyData.eqvAll, deqs]
  | n, m, x :: xs, y :: ys, h, h' => by
    simp only [plains, Bool.and_eq_true] at h h'
    simp only [pds, PyData.eqvAll, deqs]
    rw [eqv_pd n m x y h.1 h'.1, eqv_pds n m xs ys h.2 h'.2]
end
mutual
theorem lay_pd : ∀ (n : Nat) (a : D), plain n a = true → (pd a).canLay0 = true ∧ (pd a).depth ≤ n
  | 0, _, h => by simp [plain] at h
  | n + 1, .non, h => by simp [pd, PyData.canLay0, PyData.depth]
  | n + 1, .bl _, h => by simp [pd, PyData.canLay0, PyData.depth]
  | n + 1, .int _, h => by simp [pd, PyData.canLay0, PyData.depth]
  | n + 1, .str s, h => by
    simp only [plain] at h
    refine ⟨?_, by simp [pd, PyData.depth]⟩
    simp only [pd, PyData.canLay0, PyData.strOk]
    have e : (sOf s).cps.all (fun c => decide (c < 1114112)) = s.all (fun c => decide (c < 1114112)) := by simp [sOf]
    exact e.trans h
  | n + 1, .lst xs, h => by
    simp only [plain] at h
    have q := lay_pds n xs h
    simp only [pd, PyData.canLay0, PyData.depth]
    exact ⟨q.1, by omega⟩
  | n + 1, .tup xs, h => by
    simp only [plain] at h
    have q := lay_pds n xs h
    simp only [pd, PyData.canLay0, PyData.depth]
    exact ⟨q.1, by omega⟩
  | n + 1, .slst _, h => by simp [plain] at h
  | n + 1, .stup _, h => by simp [plain] at h
  | n + 1, .obj _ _, h => by simp [plain] at h
  | n + 1, .cls _, h => by simp [plain] at h
theorem lay_pds : ∀ (n : Nat) (a : List D), plains n a = true → PyData.canLayAll0 (pds a) = true ∧ PyData.depthAll (pds a) ≤ n
  | n, [], h => by simp [pds, PyData.canLayAll0, PyData.depthAll]
  | n, x :: xs, h => by
    simp only [plains, Bool.and_eq_true] at h
    have q := lay_pd n x h.1
    have q' := lay_pds n xs h.2
    simp only [pds, PyData.canLayAll0, PyData.depthAll, Bool.and_eq_true]
    exact ⟨⟨q.1, q'.1⟩, by omega⟩
end
section
variable {G : Cfg} {K : PySem.W.Frag} {B H : Hp}
mutual
theorem dp_of (s : Same B H) : ∀ (n : Nat) (x : D) (v : V), plain n x = true → Rep G B x v → Dp K H v (pd x)
  | 0, _, _, h, _ => by simp [plain] at h
  | n + 1, .non, v, _, r => by
    obtain rfl : v = .non := r
    exact .non
  | n + 1, .bl b, v, _, r => by
    obtain rfl : v = .bl b := r
    exact .bl b
  | n + 1, .int i, v, _, r => by
    obtain rfl : v = .int i := r
    exact .int i
  | n + 1, .str t, v, _, r => by
    obtain rfl : v = .str (sOf t) := r
    exact .str _
  | n + 1, .lst xs, v, h, r => by
    obtain ⟨a, vs, rfl, e, q⟩ := r
    simp only [plain] at h
    exact .lst (SqL.of (s _ _ e)) (dps_of s n xs vs h q)
  | n + 1, .tup xs, v, h, r => by
    obtain ⟨a, vs, rfl, e, q⟩ := r
    simp only [plain] at h
    exact .tup (SqT.of (s _ _ e)) (dps_of s n xs vs h q)
  | n + 1, .slst _, _, h, _ => by simp [plain] at h
  | n + 1, .stup _, _, h, _ => by simp [plain] at h
  | n + 1, .obj _ _, _, h, _ => by simp [plain] at h
  | n + 1, .cls _, _, h, _ => by simp [plain] at h
theorem dps_of (s : Same B H) : ∀ (n : Nat) (xs : List D) (vs : List V), plains n xs = true → Reps G B xs vs → DpAll K H vs (pds xs)
  | n, [], vs, _, r => by
    have e : vs = [] := r
    rw [e]
    exact .nil
  | n, x :: xs, vs, h, r => by
    obtain ⟨v, ws, rfl, q, t⟩ := r
    simp only [plains, Bool.and_eq_true] at h
    exact .cons (dp_of s n x v h.1 q) (dps_of s n xs ws h.2 t)
end
theorem asD_dp {A : List Addr} {L : Led} (C : Ctx G B A L H) {x : Rv} {u : V} {a : D} (r : RepR G B A x u) (h : asD L x = some a) (p : plain 8 a = true) : Dp K H u (pd a) := by
  cases x with
  | d x =>
    have e : x = a := Option.some.inj h
    subst e
    exact dp_of C.sub 8 x u p r
  | loc n =>
    have h1 : (match L[n]? with | some (.lst xs) => some (D.lst xs) | _ => none) = some a := h
    cases e : L[n]? with
    | none =>
      rw [e] at h1
      cases h1
    | some c =>
      rw [e] at h1
      cases c with
      | lst ys =>
        have e0 : D.lst ys = a := Option.some.inj h1
        subst e0
        obtain ⟨a, e1, e2⟩ := r
        obtain ⟨o, e3, vs, e4, e5⟩ := C.cell e1 e
        subst e2 e4
        simp only [plain] at p
        exact .lst (SqL.of e3) (dps_of C.sub 7 ys vs p e5)
      | _ => cases h1
theorem shaped_pd {a : D} (p : plain 8 a = true) : SeqAt.shaped (pd a) = true := by
  have q := lay_pd 8 a p
  unfold SeqAt.shaped
  rw [q.1, Bool.true_and]
  exact decide_eq_true (Nat.le_trans q.2 (by decide))
theorem scal_V {A : List Addr} {a b : D} {u w : V} (h : Dl.scal a b = true) (r1 : Rep G B a u) (r2 : Rep G B b w) : L2.scal u w = true ∧ decide (u = w) = deq a b := by
  cases a <;> cases b <;> first
    | (cases h; done)
    | (have e1 := r1
       have e2 := r2
       simp only [Rep] at e1 e2
       subst e1 e2
       exact ⟨rfl, by simp [deq, sOf_iff, Bool.beq_eq_decide_eq]⟩)
end
section
variable {G : Cfg} {X : Cx}
theorem eq_go {f : Value → Value → Sem Value} {r1 r2 : R2} {neg : Bool}
    (h : OpR X f (fun x y H Q => r1 x y H Q ∨ r2 x y H Q)) (k1 : ∀ x y H (Q : VK), L2.scal x y = true → Q (.bl (decide (x = y) != neg)) H → r1 x y H Q)
    (k2 : ∀ x y H (Q : VK) d e, Dp X.K H x d → Dp X.K H y e → SeqAt.shaped d = true → SeqAt.shaped e = true → Q (.bl (PyData.eqv d e != neg)) H → r2 x y H Q) : O2 G X f (eqV neg) := ⟨_, h, fun x y u w H B A L Q W C s1 s2 q => by
  unfold eqV at q
  cases e1 : asD L x with
  | none =>
    rw [e1] at q
    exact q.elim
  | some a =>
    cases e2 : asD L y with
    | none =>
      rw [e1, e2] at q
      exact q.elim
    | some b =>
      rw [e1, e2] at q
      have q1 : RPV G (if (Dl.scal a b || (plain 8 a && plain 8 b)) = true then .ok (.d (.bl (deq a b != neg))) L else .bad) B A H Q W := q
      by_cases hc : (Dl.scal a b || (plain 8 a && plain 8 b)) = true
      · rw [if_pos hc] at q1
        have q2 := q1 B A H _ Ext.refl C rfl
        by_cases hs : Dl.scal a b = true
        · have ax : x = .d a := by
            cases x with
            | d x =>
              have e : x = a := Option.some.inj e1
              rw [e]
            | loc n =>
              exfalso
              have h1 : (match L[n]? with | some (.lst xs) => some (D.lst xs) | _ => none) = some a := e1
              cases e : L[n]? with
              | none =>
                rw [e] at h1
                cases h1
              | some c =>
                rw [e] at h1
                cases c with
                | lst ys =>
                  have e0 : D.lst ys = a := Option.some.inj h1
                  subst e0
                  cases b <;> cases hs
                | _ => cases h1
          have by_ : y = .d b := by
            cases y with
            | d x =>
              have e : x = b := Option.some.inj e2
              rw [e]
            | loc n =>
              exfalso
              have h1 : (match L[n]? with | some (.lst xs) => some (D.lst xs) | _ => none) = some b := e2
              cases e : L[n]? with
              | none =>
                rw [e] at h1
                cases h1
              | some c =>
                rw [e] at h1
                cases c with
                | lst ys =>
                  have e0 : D.lst ys = b := Option.some.inj h1
                  subst e0
                  cases a <;> cases hs
                | _ => cases h1
          subst ax by_
          obtain ⟨z1, z2⟩ := scal_V (A := A) hs s1 s2
          exact .inl (k1 u w H Q z1 (by rw [z2]; exact q2))
        · have hp : (plain 8 a && plain 8 b) = true := by
            rcases Bool.or_eq_true_iff.mp hc with z | z
            · exact absurd z hs
            · exact z
          obtain ⟨p1, p2⟩ := Bool.and_eq_true_iff.mp hp
          exact .inr (k2 u w H Q _ _ (asD_dp C s1 e1 p1) (asD_dp C s2 e2 p2) (shaped_pd p1) (shaped_pd p2) (by rw [eqv_pd 8 8 a b p1 p2]; exact q2))
      · rw [if_neg hc] at q1
        exact q1.elim⟩
theorem o_eq (hu : X.A.units + 64 < cLine) : O2 G X (compareOp .Eq) (eqV false) := eq_go (op_eq.or (op_eqD hu)) (fun x y H Q h q => ⟨h, by rw [Bool.bne_false] at q; exact q⟩) fun x y H Q d e h1 h2 h3 h4 q => ⟨d, e, h1, h2, h3, h4, by rw [Bool.bne_false] at q; exact q⟩
theorem o_ne (hu : X.A.units + 64 < cLine) : O2 G X (compareOp .NotEq) (eqV true) := eq_go (op_ne.or (op_neD hu)) (fun x y H Q h q => ⟨h, by rw [Bool.bne_true] at q; exact q⟩) fun x y H Q d e h1 h2 h3 h4 q => ⟨d, e, h1, h2, h3, h4, by rw [Bool.bne_true] at q; exact q⟩
end
end Dl

set_option Elab.async false
set_option linter.all false
set_option maxRecDepth 100000
/-! Sp: items, displays, built-ins; the rules for expressions and tests. -/
namespace Dl
open PySem PySem.Spec PyProof.Rows L2

/-! ### items -/
theorem atI_eq {α : Type} (xs : List α) (i : Int) : Dl.atI xs i = L2.atI xs i := rfl
theorem atI_rep {G : Cfg} {B : Hp} {xs : List D} {vs : List V} {i : Int} {x : D} (r : Reps G B xs vs) (h : Dl.atI xs i = some x) : ∃ v, L2.atI vs i = some v ∧ Rep G B x v := by
  unfold Dl.atI at h
  unfold L2.atI
  have e : L2.ixN vs.length i = Dl.ixN xs.length i := by rw [r.len]; rfl
  rw [e]
  cases q : Dl.ixN xs.length i with
  | none =>
    rw [q] at h
    cases h
  | some j =>
    rw [q] at h
    exact Reps.get (i := j) r h
theorem atI_reps {G : Cfg} {B : Hp} {A : List Addr} {xs : List Rv} {vs : List V} {i : Int} {x : Rv} (r : RepRs G B A xs vs) (h : Dl.atI xs i = some x) : ∃ v, L2.atI vs i = some v ∧ RepR G B A x v := by
  unfold Dl.atI at h
  unfold L2.atI
  have e : L2.ixN vs.length i = Dl.ixN xs.length i := by rw [r.len]; rfl
  rw [e]
  cases q : Dl.ixN xs.length i with
  | none =>
    rw [q] at h
    cases h
  | some j =>
    rw [q] at h
    exact RepRs.get (i := j) r h
theorem keyOf_V {G : Cfg} {B : Hp} {x : D} {u : V} {k : Key} (r : Rep G B x u) (h : keyOf x = some k) : u = kV (kOf k) := by
  cases x <;> first
    | (cases h; done)
    | (have e := Option.some.inj h
       subst e
       exact r)
theorem keysOf_V {G : Cfg} {B : Hp} : ∀ {xs : List D} {us : List V} {ks : List Key}, Reps G B xs us → keysOf xs = some ks → us = (ks.map kOf).map kV
  | [], us, ks, r, h => by
    have e : [] = ks := Option.some.inj h
    have e2 : us = [] := r
    rw [e2, ← e]
    rfl
  | x :: xs, us, ks, ⟨v, ws, e, q, t⟩, h => by
    have h1 : (keyOf x).bind (fun k => (keysOf xs).map (k :: ·)) = some ks := h
    cases e1 : keyOf x with
    | none =>
      rw [e1] at h1
      cases h1
    | some k =>
      rw [e1] at h1
      cases e2 : keysOf xs with
      | none =>
        rw [e2] at h1
        cases h1
      | some kk =>
        rw [e2] at h1
        have e3 : k :: kk = ks := Option.some.inj h1
        rw [e, ← e3, keyOf_V q e1, keysOf_V t e2]
        rfl
theorem look_kvs {G : Cfg} {B : Hp} {k : Key} : ∀ {kvs : List (Key × D)} {ws : List (L2.Key × V)}, KVs G B kvs ws → (match look kvs k with | some x => ∃ v, valV ws (kOf k) = some v ∧ Rep G B x v | none => valV ws (kOf k) = none)
  | [], _, r => by
    have e : _ = [] := r
    rw [e]
    exact rfl
  | (k', x) :: kvs, _, ⟨v, ws, e, q, t⟩ => by
    rw [e]
    by_cases h : k' = k
    · have e2 : look ((k', x) :: kvs) k = some x := by simp [look, h]
      rw [e2]
      exact ⟨v, valV_pos (p := (kOf k', v)) (by rw [h]), q⟩
    · have e2 : look ((k', x) :: kvs) k = look kvs k := by simp [look, h]
      rw [e2, valV_neg (p := (kOf k', v)) fun z => h (kOf_inj z)]
      exact look_kvs t
theorem map_kOf_inj : ∀ {a b : List Key}, a.map kOf = b.map kOf → a = b
  | [], [], _ => rfl
  | [], _ :: _, h => by cases h
  | _ :: _, [], h => by cases h
  | x :: xs, y :: ys, h => by
    rw [List.map_cons, List.map_cons] at h
    injection h with h1 h2
    rw [kOf_inj h1, map_kOf_inj h2]
theorem look_kts {G : Cfg} {B : Hp} {k : List Key} : ∀ {kvs : List (List Key × D)} {ws : List (List L2.Key × V)}, KTs G B kvs ws → (match look kvs k with | some x => ∃ v, valV ws (k.map kOf) = some v ∧ Rep G B x v | none => valV ws (k.map kOf) = none)
  | [], _, r => by
    have e : _ = [] := r
    rw [e]
    exact rfl
  | (k', x) :: kvs, _, ⟨v, ws, e, q, t⟩ => by
    rw [e]
    by_cases h : k' = k
    · have e2 : look ((k', x) :: kvs) k = some x := by simp [look, h]
      rw [e2]
      exact ⟨v, valV_pos (p := (k'.map kOf, v)) (by rw [h]), q⟩
    · have e2 : look ((k', x) :: kvs) k = look kvs k := by simp [look, h]
      rw [e2, valV_neg (p := (k'.map kOf, v)) fun z => h (map_kOf_inj z)]
      exact look_kts t
abbrev kS (s : Txt) : L2.Key := Sum.inr (sOf s)
theorem rlook_zip {G : Cfg} {B : Hp} {A : List Addr} {s : Txt} : ∀ {ks : List Txt} {xs : List Rv} {vs : List V}, ks.length = xs.length → RepRs G B A xs vs → (match rlook ks xs s with | some x => ∃ v, valV ((ks.map kS).zip vs) (kS s) = some v ∧ RepR G B A x v | none => valV ((ks.map kS).zip vs) (kS s) = none)
  | [], [], vs, _, r => by
    have e : vs = [] := r
    rw [e]
    exact rfl
  | [], _ :: _, _, h, _ => by cases h
  | _ :: _, [], _, h, _ => by cases h
  | k :: ks, x :: xs, vs, h, ⟨v, ws, e, q, t⟩ => by
    rw [e]
    by_cases hk : k = s
    · have e2 : rlook (k :: ks) (x :: xs) s = some x := by simp [rlook, hk]
      rw [e2]
      exact ⟨v, valV_pos (p := (kS k, v)) (by rw [hk]), q⟩
    · have e2 : rlook (k :: ks) (x :: xs) s = rlook ks xs s := by simp [rlook, hk]
      rw [e2]
      have e3 : valV (((k :: ks).map kS).zip (v :: ws)) (kS s) = valV ((ks.map kS).zip ws) (kS s) := valV_neg (p := (kS k, v)) fun z => hk (sOf_inj (Sum.inr.inj z))
      rw [e3]
      exact rlook_zip (Nat.succ.inj h) t
section
variable {G : Cfg} {B : Hp} {A : List Addr} {L : Led} {H : Hp}
/-- what a dict's cell holds -/
theorem dget0_at (C : Ctx G B A L H) {c : Cell} {a : Addr} {k : D} {u : V} {r : Option Rv} {ob : HO} (e1 : Rd H a ob) (cr : CRep G B A c ob) (rk : Rep G B k u) (h : dget0 c k = some r) :
    ∃ o, DGet H a u o ∧ (match r with | some x => ∃ v, o = some v ∧ RepR G B A x v | none => o = none) := by
  cases c with
  | dK kvs =>
    obtain ⟨ws, rfl, z⟩ := cr
    have h1 : (keyOf k).map (fun q => (look kvs q).map Rv.d) = some r := h
    cases e2 : keyOf k with
    | none =>
      rw [e2] at h1
      cases h1
    | some q =>
      rw [e2] at h1
      have e3 : (look kvs q).map Rv.d = r := Option.some.inj h1
      rw [keyOf_V rk e2]
      refine ⟨_, (Or.inl ⟨_, kOf q, e1, rfl, rfl⟩ : DGet H a _ _), ?_⟩
      have w := look_kvs (k := q) z
      cases e4 : look kvs q with
      | none =>
        rw [e4] at w e3
        subst e3
        exact w
      | some x =>
        rw [e4] at w e3
        subst e3
        exact w
  | dT kvs =>
    obtain ⟨ws, rfl, z⟩ := cr
    cases k with
    | tup xs =>
      have h1 : (keysOf xs).map (fun q => (look kvs q).map Rv.d) = some r := h
      cases e2 : keysOf xs with
      | none =>
        rw [e2] at h1
        cases h1
      | some q =>
        rw [e2] at h1
        have e3 : (look kvs q).map Rv.d = r := Option.some.inj h1
        obtain ⟨b, us, rfl, eb, rs⟩ := rk
        rw [keysOf_V rs e2] at eb
        refine ⟨_, (Or.inr ⟨_, q.map kOf, b, e1, rfl, C.sub _ _ eb, rfl⟩ : DGet H a _ _), ?_⟩
        have w := look_kts (k := q) z
        cases e4 : look kvs q with
        | none =>
          rw [e4] at w e3
          subst e3
          exact w
        | some x =>
          rw [e4] at w e3
          subst e3
          exact w
    | _ => cases h
  | rcd ks xs =>
    obtain ⟨vs, rfl, hl, z⟩ := cr
    cases k with
    | str s =>
      have e3 : rlook ks xs s = r := Option.some.inj h
      obtain rfl : u = .str (sOf s) := rk
      refine ⟨_, (Or.inl ⟨_, kS s, e1, rfl, rfl⟩ : DGet H a _ _), ?_⟩
      have w := rlook_zip (s := s) hl z
      cases e4 : rlook ks xs s with
      | none =>
        rw [e4] at w e3
        subst e3
        exact w
      | some x =>
        rw [e4] at w e3
        subst e3
        exact w
    | _ => cases h
  | _ => cases h
theorem dget_at (C : Ctx G B A L H) {n : Nat} {c : Cell} {a : Addr} {k : D} {u : V} {r : Option Rv} (hc : L[n]? = some c) (ha : A[n]? = some a) (rk : Rep G B k u) (h : dget c k = some r) :
    ∃ o, DGet H a u o ∧ (match r with | some x => ∃ v, o = some v ∧ RepR G B A x v | none => o = none) := by
  obtain ⟨ob, e1, cr⟩ := C.cell ha hc
  cases c with
  | fz c =>
    obtain ⟨od, w, rfl, cr⟩ := cr
    have z := dget0_at C (.inr ⟨od, e1⟩) cr rk h
    cases r <;> exact z
  | _ =>
    have z := dget0_at C (.inl e1) cr rk h
    cases r <;> exact z
end
theorem ix_dict {X : Cx} (hu : X.A.units + 1 < cLine) : IxR X (fun x y H Q => ∃ a v, x = .ref a ∧ DGet H a y (some v) ∧ Q v H) := by
  intro value slice pins s σ H x y v u Q I rx ry h hs
  obtain ⟨a, w, rfl, g, q⟩ := h
  obtain rfl : v = Value.ref a := rx
  exact tail_any (dict_typeIs I g) PySem.F.slot_dict_getitem.lookup (d_getItem hu I g ry fun w' s3 I3 rw' => ⟨w, H, I3, rw', q⟩) hs
def OI (G : Cfg) (X : Cx) (g : V2) : Prop := ∃ r, IxR X r ∧ R2R G r g
theorem cut_len {α β : Type} {xs : List α} {ys : List β} (h : ys.length = xs.length) (lo hi : Option Int) : Dl.sIx xs.length 0 lo = HT.sIx ys.length 0 lo ∧ Dl.sIx xs.length xs.length hi = HT.sIx ys.length ys.length hi := by
  rw [h]
  constructor
  · cases lo <;> rfl
  · cases hi <;> rfl
section
variable {G : Cfg} {X : Cx}
theorem o_ix (hu : X.A.units + 1 < cLine) : OI G X ixV := ⟨_, ((ix_list.or ix_tup).or ix_str).or (ix_dict hu), fun x y u w H B A L Q W C r1 r2 q => by
  have lst : ∀ xs i, (∃ a vs, u = .ref a ∧ H a = some (.lst vs) ∧ Reps G B xs vs) → w = .int i → RPV G (match Dl.atI xs i with | some v => .ok (.d v) L | none => .bad) B A H Q W → rIxL X.K u w H Q := fun xs i ⟨a, vs, e1, e2, e3⟩ ew q => by
    cases e : Dl.atI xs i with
    | none =>
      rw [e] at q
      exact q.elim
    | some x =>
      rw [e] at q
      obtain ⟨v, e4, e5⟩ := atI_rep e3 e
      exact ⟨a, vs, i, v, e1, ew, SqL.of e2, e4, q B A H v Ext.refl C e5⟩
  cases x with
  | loc n =>
    cases y with
    | loc m => exact q.elim
    | d k =>
      cases hc : L[n]? with
      | none =>
        simp only [ixV, hc] at q
        exact q.elim
      | some c =>
        obtain ⟨a, ha⟩ := C.addr hc
        have eu : u = .ref a := by
          obtain ⟨a', h1, h2⟩ := r1
          rw [ha] at h1
          cases h1
          exact h2
        have dct : RPV G (match dget c k with | some (some v) => .ok v L | _ => .bad) B A H Q W → ∃ a v, u = .ref a ∧ DGet H a w (some v) ∧ Q v H := fun q => by
          cases e : dget c k with
          | none =>
            rw [e] at q
            exact q.elim
          | some r =>
            rw [e] at q
            cases r with
            | none => exact q.elim
            | some v =>
              obtain ⟨o, g, v', rfl, rv⟩ := dget_at C hc ha r2 e
              exact ⟨a, v', eu, g, q B A H v' Ext.refl C rv⟩
        cases c with
        | lst xs =>
          simp only [ixV, hc] at q
          cases k with
          | int i =>
            refine .inl (.inl (.inl (lst xs i ?_ r2 q)))
            obtain ⟨o, e3, vs, e4, e5⟩ := C.cell ha hc
            exact ⟨a, vs, eu, by rw [e3, e4], e5⟩
          | _ => exact q.elim
        | seq xs =>
          simp only [ixV, hc] at q
          cases k with
          | int i =>
            refine .inl (.inl (.inl ?_))
            obtain ⟨o, e3, vs, e4, e5⟩ := C.cell ha hc
            dsimp only at q
            cases e : Dl.atI xs i with
            | none =>
              rw [e] at q
              exact q.elim
            | some x =>
              rw [e] at q
              obtain ⟨v, e6, e7⟩ := atI_reps e5 e
              exact ⟨a, vs, i, v, eu, r2, SqL.of (by rw [e3, e4]), e6, q B A H v Ext.refl C e7⟩
          | _ => exact q.elim
        | _ =>
          simp only [ixV, hc] at q
          exact .inr (dct q)
  | d x =>
    cases x with
    | lst xs =>
      cases y with
      | loc m => exact q.elim
      | d k =>
        cases k with
        | int i =>
          refine .inl (.inl (.inl (lst xs i ?_ r2 q)))
          obtain ⟨a, vs, e1, e2, e3⟩ := r1
          exact ⟨a, vs, e1, C.sub _ _ e2, e3⟩
        | _ => exact q.elim
    | tup xs =>
      cases y with
      | loc m => exact q.elim
      | d k =>
        cases k with
        | int i =>
          have q1 : RPV G (match Dl.atI xs i with | some v => .ok (.d v) L | none => .bad) B A H Q W := q
          obtain ⟨a, vs, e1, e2, e3⟩ := r1
          cases e : Dl.atI xs i with
          | none =>
            rw [e] at q1
            exact q1.elim
          | some x =>
            rw [e] at q1
            obtain ⟨v, e4, e5⟩ := atI_rep e3 e
            exact .inl (.inl (.inr ⟨a, vs, i, v, e1, r2, SqT.of (C.sub _ _ e2), e4, q1 B A H v Ext.refl C e5⟩))
        | _ => exact q.elim
    | str s =>
      cases y with
      | loc m => exact q.elim
      | d k =>
        cases k with
        | int i =>
          have q1 : RPV G (match Dl.atI s i with | some c => if s.length ≤ SZ then .ok (.d (.str [c])) L else .bad | none => .bad) B A H Q W := q
          cases e : Dl.atI s i with
          | none =>
            rw [e] at q1
            exact q1.elim
          | some c =>
            rw [e] at q1
            have q2 : RPV G (if s.length ≤ SZ then .ok (.d (.str [c])) L else .bad) B A H Q W := q1
            by_cases hl : s.length ≤ SZ
            · rw [if_pos hl] at q2
              refine .inl (.inr ⟨sOf s, i, c, r1, r2, by rw [sOf_len]; exact le_line hl, ?_, q2 B A H _ Ext.refl C rfl⟩)
              have e3 : (sOf s).cps.toList = s := by simp [sOf]
              rw [e3]
              exact e
            · rw [if_neg hl] at q2
              exact q2.elim
        | _ => exact q.elim
    | _ => cases y <;> exact q.elim⟩
end

/-! ### slices -/
def SR (G : Cfg) (r : V → Option Int → Option Int → Hp → VK → Prop) (g : Rv → Option Int → Option Int → Led → Res Rv) : Prop := ∀ (x : Rv) (u : V) (lo hi : Option Int) (H B : Hp) (A : List Addr) (L : Led) (Q : VK) (W : XK), Ctx G B A L H → RepR G B A x u → RPV G (g x lo hi L) B A H Q W → r u lo hi H Q
def OSl (G : Cfg) (X : Cx) (g : Rv → Option Int → Option Int → Led → Res Rv) : Prop := ∃ r, SlR X r ∧ SR G r g
def RelO : Hp → List Addr → Option Int → Option Int → Prop := fun _ _ a b => a = b
def OR (G : Cfg) (Φ : Ph) (W : WX) (to : TO) (m : DO) : Prop := ∀ (σ : L2.St) (H B : Hp) (A : List Addr) (ρ : Env) (L : Led) (Q : Option Int → Hp → Prop), StR G Φ B A ρ L σ H → RP G RelO (m ρ L) B A H Q (fun c d H' => W c d σ H') → to σ H Q
def QO (G : Cfg) (X : Cx) (Φ : Ph) (W : WX) (e : Option Expr) (m : DO) : Prop := ∃ to, PO X e to ∧ OR G Φ W to m
section
variable {G : Cfg} {X : Cx} {Φ : Ph} {W : WX}
theorem o_slice (box : Bool) : OSl G X (sliceV box) := ⟨_, sl_str.or sl_list, fun x u lo hi H B A L Q W C r q => by
  have gen : RPV G (match itemsL L x with | some xs => mkL box (cut xs lo hi) L | none => .bad) B A H Q W → rSlL X.K u lo hi H Q := fun q => by
    cases e : itemsL L x with
    | none =>
      rw [e] at q
      exact q.elim
    | some xs =>
      rw [e] at q
      obtain ⟨a, vs, e1, e2, e3⟩ := itemsL_at C r e
      refine ⟨a, vs, e1, SqL.of e2, mkL_at C ?_ q⟩
      obtain ⟨l1, l2⟩ := cut_len e3.len lo hi
      unfold cut cutV
      rw [l1, l2]
      exact Reps.take _ (Reps.drop _ e3)
  cases x with
  | loc n => exact .inr (gen q)
  | d x =>
    cases x with
    | str s =>
      have q1 : RPV G (if s.length ≤ SZ then .ok (.d (.str (cut s lo hi))) L else .bad) B A H Q W := q
      by_cases hl : s.length ≤ SZ
      · rw [if_pos hl] at q1
        refine .inl ⟨sOf s, r, by rw [sOf_len]; exact le_line hl, ?_⟩
        have e : cutS (sOf s) lo hi = sOf (cut s lo hi) := by
          obtain ⟨l1, l2⟩ := cut_len (xs := s) (ys := s) rfl lo hi
          unfold cutS cut
          rw [l1, l2, sOf_len]
          have e3 : (sOf s).cps.toList = s := by simp [sOf]
          rw [e3]
          rfl
        rw [e]
        exact q1 B A H _ Ext.refl C rfl
      · rw [if_neg hl] at q1
        exact q1.elim
    | _ => exact .inr (gen q)⟩
theorem qo_none : QO G X Φ W none oNone := ⟨_, po_none, fun σ H B A ρ L Q S q => q B A H none Ext.refl S.ctx rfl⟩
theorem qo_some {e : Expr} {m : DE} (h : QE G X Φ W e m) : QO G X Φ W (some e) (oSome m) := by
  obtain ⟨te, pe, ke⟩ := h
  refine ⟨_, po_some pe, fun σ H B A ρ L Q S q => ke σ H B A ρ L _ S (RP.bind q fun x L1 B1 A1 H1 u x1 c1 r1 q1 => ?_)⟩
  cases x with
  | loc n => exact q1.elim
  | d x =>
    cases x with
    | int i => exact ⟨i, r1, q1 B1 A1 H1 (some i) Ext.refl c1 rfl⟩
    | _ => exact q1.elim
theorem qe_slice {box : Bool} {e : Expr} {lo hi : Option Expr} {m : DE} {ml mh : DO} {p2 pos : Pos} (he : QE G X Φ W e m) (hl : QO G X Φ W lo ml) (hh : QO G X Φ W hi mh) : QE G X Φ W (.Subscript e (.Slice lo hi none p2) pos) (eSlice box m ml mh) := by
  obtain ⟨r, sr, kr⟩ := o_slice (G := G) (X := X) box
  obtain ⟨te, pe, ke⟩ := he
  obtain ⟨tl, pl, kl⟩ := hl
  obtain ⟨th, ph, kh⟩ := hh
  refine ⟨_, pe_slice sr pe pl ph, fun σ H B A ρ L Q S q => ke σ H B A ρ L _ S (RP.bind q fun x L1 B1 A1 H1 u x1 c1 r1 q1 => kl σ H1 B1 A1 ρ L1 _ (S.step x1 c1) (RP.bind q1 fun l L2 B2 A2 H2 l' x2 c2 r2 q2 => ?_))⟩
  obtain rfl : l = l' := r2
  refine kh σ H2 B2 A2 ρ L2 _ ((S.step x1 c1).step x2 c2) (RP.bind q2 fun h L3 B3 A3 H3 h' x3 c3 r3 q3 => ?_)
  obtain rfl : h = h' := r3
  exact kr x u l h H3 B3 A3 L3 Q _ c3 ((r1.mono x2.base x2.Pre).mono x3.base x3.Pre) q3
end
end Dl

set_option Elab.async false
set_option linter.all false
set_option maxRecDepth 100000
/-! Sq: the rules for expressions and tests. -/
namespace Dl
open PySem PySem.Spec PyProof.Rows L2
section
variable {G : Cfg} {X : Cx} {Φ : Ph} {W : WX} {pos : Pos}
theorem er_c {x : D} {v : V} (r : ∀ B, Rep G B x v) : ER G Φ W (tC v) (cE x) := fun σ H B A ρ L Q S q => q B A H v Ext.refl S.ctx (r B)
theorem qe_int {i : Int} {j p} : QE G X Φ W (.Constant (.int i) j p) (cE (.int i)) := ⟨_, pe_int, er_c fun _ => rfl⟩
theorem qe_bl {b : Bool} {j p} : QE G X Φ W (.Constant (.bool b) j p) (cE (.bl b)) := ⟨_, pe_bl, er_c fun _ => rfl⟩
theorem qe_non {j p} : QE G X Φ W (.Constant .none j p) (cE .non) := ⟨_, pe_non, er_c fun _ => rfl⟩
theorem qe_str {x : PySem.Str} {j p} (s : Txt) (h : x = sOf s := by decide +kernel) : QE G X Φ W (.Constant (.str x) j p) (cE (.str s)) := ⟨_, pe_str, er_c fun _ => by rw [h]; rfl⟩
theorem qe_var (i : Nat) {x : PySem.Str} (hN : X.N[i]? = some x := by rfl) (hv : Vis X.env.scope x := by first | exact Or.inl rfl | exact Or.inr (Or.inl rfl) | exact Or.inr (Or.inr rfl)) (hd : (x == ("__debug__" : PySem.Str)) = false := by decide)
    (hcd : (x == ("__classdict__" : PySem.Str)) = false := by decide) : QE G X Φ W (.Name x pos) (varE i) := ⟨_, pe_var hN hv hd hcd, fun σ H B A ρ L Q S q => by
  unfold varE at q
  cases e : ρ[i]? with
  | none =>
    rw [e] at q
    exact q.elim
  | some o =>
    rw [e] at q
    cases o with
    | none => exact q.elim
    | some v =>
      obtain ⟨u, h1, h2⟩ := S.env.2 i v e
      exact ⟨u, h1, q B A H u Ext.refl S.ctx h2⟩⟩
variable {a b c : Expr} {ma mb mc : DE} {es : List Expr} {m : DA}
theorem qe_op {op : Operator} {f : V2} (ho : O2 G X (binaryOp op) f) (ha : QE G X Φ W a ma) (hb : QE G X Φ W b mb) : QE G X Φ W (.BinOp a op b pos) (e2 f ma mb) := by
  obtain ⟨r, hr, kr⟩ := ho
  obtain ⟨ta, pa, ka⟩ := ha
  obtain ⟨tb, pb, kb⟩ := hb
  exact ⟨_, pe_op hr pa pb, er_op kr ka kb⟩
theorem qe_un {op : UnaryOp} {f : V1} (ho : O1 G X (unaryOp op) f) (ha : QE G X Φ W a ma) : QE G X Φ W (.UnaryOp op a pos) (e1 f ma) := by
  obtain ⟨r, hr, kr⟩ := ho
  obtain ⟨ta, pa, ka⟩ := ha
  exact ⟨_, pe_un hr pa, er_un kr ka⟩
theorem qe_cmp {op : CmpOp} {f : V2} (ho : O2 G X (compareOp op) f) (ha : QE G X Φ W a ma) (hb : QE G X Φ W b mb) (hm : behindInMarks op b = false := by first | exact nomark _ | rfl) : QE G X Φ W (.Compare a [op] [b] pos) (e2 f ma mb) := by
  obtain ⟨r, hr, kr⟩ := ho
  obtain ⟨ta, pa, ka⟩ := ha
  obtain ⟨tb, pb, kb⟩ := hb
  exact ⟨_, pe_cmpR hr pa pb hm, er_op kr ka kb⟩
theorem qt_cmp {op : CmpOp} {f : V2} (ho : O2 G X (compareOp op) f) (ha : QE G X Φ W a ma) (hb : QE G X Φ W b mb) (hm : behindInMarks op b = false := by first | exact nomark _ | rfl) : QT G X Φ W (.Compare a [op] [b] pos) (tB (e2 f ma mb)) := by
  obtain ⟨r, hr, kr⟩ := ho
  obtain ⟨ta, pa, ka⟩ := ha
  obtain ⟨tb, pb, kb⟩ := hb
  exact ⟨_, pt_cmpR hr pa pb hm, tr_test (er_op kr ka kb)⟩
theorem qe_chain {op op' : CmpOp} {f g : V2} (ho : O2 G X (compareOp op) f) (ho' : O2 G X (compareOp op') g) (ha : QE G X Φ W a ma) (hb : QE G X Φ W b mb) (hc : QE G X Φ W c mc)
    (hm : lastMarks [op, op'] [b, c] = false := by with_unfolding_all rfl) : QE G X Φ W (.Compare a [op, op'] [b, c] pos) (chainE f g ma mb mc) := by
  obtain ⟨r, hr, kr⟩ := ho
  obtain ⟨r', hr', kr'⟩ := ho'
  obtain ⟨ta, pa, ka⟩ := ha
  obtain ⟨tb, pb, kb⟩ := hb
  obtain ⟨tc, pc, kc⟩ := hc
  exact ⟨_, pe_chain hr hr' pa pb pc hm, er_chain kr kr' ka kb kc⟩
theorem qt_chain {op op' : CmpOp} {f g : V2} (ho : O2 G X (compareOp op) f) (ho' : O2 G X (compareOp op') g) (ha : QE G X Φ W a ma) (hb : QE G X Φ W b mb) (hc : QE G X Φ W c mc)
    (hm : lastMarks [op, op'] [b, c] = false := by with_unfolding_all rfl) : QT G X Φ W (.Compare a [op, op'] [b, c] pos) (tB (chainE f g ma mb mc)) := by
  obtain ⟨r, hr, kr⟩ := ho
  obtain ⟨r', hr', kr'⟩ := ho'
  obtain ⟨ta, pa, ka⟩ := ha
  obtain ⟨tb, pb, kb⟩ := hb
  obtain ⟨tc, pc, kc⟩ := hc
  exact ⟨_, pt_chain hr hr' pa pb pc hm, tr_test (er_chain kr kr' ka kb kc)⟩
theorem non_V {B : Hp} {A : List Addr} {x : Rv} {u : V} (r : RepR G B A x u) : decide (u = .non) = isNon x := by
  cases x with
  | loc n =>
    obtain ⟨a, _, rfl⟩ := r
    rfl
  | d x =>
    cases x with
    | non => obtain rfl : u = .non := r; rfl
    | bl b => obtain rfl : u = .bl b := r; rfl
    | int b => obtain rfl : u = .int b := r; rfl
    | str b => obtain rfl : u = .str (sOf b) := r; rfl
    | lst b => obtain ⟨a, vs, rfl, _⟩ := r; rfl
    | slst b => obtain ⟨a, vs, rfl, _⟩ := r; rfl
    | stup b => obtain ⟨a, vs, rfl, _⟩ := r; rfl
    | tup b => obtain ⟨a, vs, rfl, _⟩ := r; rfl
    | obj c b => obtain ⟨a, dx, vs, rfl, _⟩ := r; rfl
    | cls c => obtain rfl : u = .ref (G.cl c) := r; rfl
theorem is_go {f : Value → Value → Sem Value} {r1 r2 : R2} {neg : Bool} (h : OpR X f (fun x y H Q => r1 x y H Q ∨ r2 x y H Q))
    (k1 : ∀ u H (Q : VK), Q (.bl (decide (u = .non) != neg)) H → r1 u .non H Q) (k2 : ∀ c b H (Q : VK), Q (.bl ((c == b) != neg)) H → r2 (.bl c) (.bl b) H Q) : O2 G X f (isV neg) := ⟨_, h, fun x y u w H B A L Q W C s1 s2 q => by
  cases y with
  | loc n => exact q.elim
  | d y =>
    cases y with
    | non =>
      obtain rfl : w = .non := s2
      refine .inl (k1 u H Q ?_)
      rw [non_V s1]
      exact q B A H _ Ext.refl C rfl
    | bl b =>
      obtain rfl : w = .bl b := s2
      cases x with
      | loc n => exact q.elim
      | d x =>
        cases x with
        | bl c =>
          obtain rfl : u = .bl c := s1
          exact .inr (k2 c b H Q (q B A H _ Ext.refl C rfl))
        | _ => exact q.elim
    | _ => exact q.elim⟩
/-- x is None, x is not None; x is True .. -/
theorem o_is : O2 G X (compareOp .Is) (isV false) := is_go (op_isN.or op_isBl) (fun u H Q q => ⟨rfl, by rw [Bool.bne_false] at q; exact q⟩) fun c b H Q q => ⟨c, b, rfl, rfl, by
  have e : decide (c = b) = ((c == b) != false) := by cases c <;> cases b <;> rfl
  rw [e]
  exact q⟩
theorem o_isn : O2 G X (compareOp .IsNot) (isV true) := is_go (op_notN.or op_notBl) (fun u H Q q => ⟨rfl, by rw [Bool.bne_true] at q; exact q⟩) fun c b H Q q => ⟨c, b, rfl, rfl, by
  have e : (!decide (c = b)) = ((c == b) != true) := by cases c <;> cases b <;> rfl
  rw [e]
  exact q⟩
/-! tests -/
theorem qt_val (h : QE G X Φ W a ma) (he : ∀ whole, isTrue a X.env whole = (do let v ← whole; standAt a.pos; holding [v] (truthy v)) := by intro _; rfl) : QT G X Φ W a (tB ma) := by
  obtain ⟨ta, pa, ka⟩ := h
  exact ⟨_, pt_val pa he, tr_B ka⟩
theorem truth_at {B H : Hp} {A : List Addr} {L : Led} (C : Ctx G B A L H) {x : Rv} {u : V} {b : Bool} (r : RepR G B A x u) (h : truth L x = some b) : TruV X.K u H b := by
  have nil : ∀ {xs : List D} {vs : List V}, Reps G B xs vs → (!vs.isEmpty) = !xs.isEmpty := fun {xs vs} r => by
    have e := r.len
    cases xs with
    | nil =>
      have e2 : vs = [] := r
      rw [e2]
      rfl
    | cons x xs =>
      obtain ⟨v, ws, e2, _⟩ := r
      rw [e2]
      rfl
  cases x with
  | loc n =>
    have h1 : (match L[n]? with | some (.lst xs) => some (!xs.isEmpty) | some (.seq xs) => some (!xs.isEmpty) | _ => none) = some b := h
    cases e : L[n]? with
    | none =>
      rw [e] at h1
      cases h1
    | some c =>
      rw [e] at h1
      cases c with
      | lst ys =>
        have e0 : (!ys.isEmpty) = b := Option.some.inj h1
        obtain ⟨a, e1, e2⟩ := r
        obtain ⟨o, e3, vs, e4, e5⟩ := C.cell e1 e
        subst e2 e4
        exact .inl ⟨vs, SqL.of e3, by rw [nil e5, e0]⟩
      | seq ys =>
        have e0 : (!ys.isEmpty) = b := Option.some.inj h1
        obtain ⟨a, e1, e2⟩ := r
        obtain ⟨o, e3, vs, e4, e5⟩ := C.cell e1 e
        subst e2 e4
        refine .inl ⟨vs, SqL.of e3, ?_⟩
        rw [← e0]
        have e6 := e5.len
        cases ys with
        | nil =>
          have e7 : vs = [] := e5
          rw [e7]
          rfl
        | cons y ys =>
          obtain ⟨v, ws, e7, _⟩ := e5
          rw [e7]
          rfl
      | _ => cases h1
  | d x =>
    cases x with
    | non =>
      obtain rfl : u = .non := r
      exact (Option.some.inj h).symm
    | bl c =>
      obtain rfl : u = .bl c := r
      exact (Option.some.inj h).symm
    | int i =>
      obtain rfl : u = .int i := r
      have e := Option.some.inj h
      show b = (i != 0)
      rw [← e]
      by_cases z : i = 0
      · subst z
        rfl
      · rw [decide_eq_true z]
        simp [z]
    | str s =>
      obtain rfl : u = .str (sOf s) := r
      have h1 : (if s.length ≤ SZ then some (!s.isEmpty) else none) = some b := h
      by_cases hl : s.length ≤ SZ
      · rw [if_pos hl] at h1
        refine ⟨by rw [sOf_len]; exact le_line hl, ?_⟩
        rw [← Option.some.inj h1, sOf_len]
        cases s with
        | nil => rfl
        | cons c s =>
          show true = (((s.length + 1 : Nat) : Int) != 0)
          have z : ((s.length + 1 : Nat) : Int) ≠ 0 := by omega
          exact (bne_iff_ne.mpr z).symm
      · rw [if_neg hl] at h1
        cases h1
    | lst xs =>
      obtain ⟨a, vs, rfl, e2, e3⟩ := r
      have e0 : (!xs.isEmpty) = b := Option.some.inj h
      exact .inl ⟨vs, SqL.of (C.sub _ _ e2), by rw [nil e3, e0]⟩
    | tup xs =>
      obtain ⟨a, vs, rfl, e2, e3⟩ := r
      have e0 : (!xs.isEmpty) = b := Option.some.inj h
      exact .inr (.inl ⟨vs, SqT.of (C.sub _ _ e2), by rw [nil e3, e0]⟩)
    | _ => cases h
theorem qt_truth (h : QE G X Φ W a ma) (he : ∀ whole, isTrue a X.env whole = (do let v ← whole; standAt a.pos; holding [v] (truthy v)) := by intro _; rfl) : QT G X Φ W a (tTru ma) := by
  obtain ⟨ta, pa, ka⟩ := h
  refine ⟨_, pt_truth pa he, fun σ H B A ρ L Q S q => ka σ H B A ρ L _ S (RP.bind q fun x L1 B1 A1 H1 u x1 c1 r1 q1 => ?_)⟩
  cases e : truth L1 x with
  | none =>
    rw [e] at q1
    exact q1.elim
  | some b =>
    rw [e] at q1
    exact ⟨b, truth_at c1 r1 e, q1 B1 A1 H1 b Ext.refl c1 rfl⟩
theorem qt_not {m : DT} (h : QT G X Φ W a m) : QT G X Φ W (.UnaryOp .Not a pos) (tNot m) := by
  obtain ⟨t, p, k⟩ := h
  exact ⟨_, pt_not p, tr_not k⟩
theorem qt_w {m : DT} (h : QW G X Φ W a m) : QT G X Φ W a m := by
  obtain ⟨t, p, k⟩ := h
  exact ⟨_, p.pt, k⟩
theorem qw_and1 {m : DT} (h : QT G X Φ W a m) : QW G X Φ W (.BoolOp .And [a] pos) m := by
  obtain ⟨t, p, k⟩ := h
  exact ⟨_, pw_and1 p, k⟩
theorem qw_or1 {m : DT} (h : QT G X Φ W a m) : QW G X Φ W (.BoolOp .Or [a] pos) m := by
  obtain ⟨t, p, k⟩ := h
  exact ⟨_, pw_or1 p, k⟩
theorem qw_and {m n : DT} (h : QT G X Φ W a m) (h' : QW G X Φ W (.BoolOp .And (b :: es) pos) n) : QW G X Φ W (.BoolOp .And (a :: b :: es) pos) (tAnd m n) := by
  obtain ⟨t, p, k⟩ := h
  obtain ⟨t', p', k'⟩ := h'
  exact ⟨_, pw_and p p', tr_and k k'⟩
theorem qw_or {m n : DT} (h : QT G X Φ W a m) (h' : QW G X Φ W (.BoolOp .Or (b :: es) pos) n) : QW G X Φ W (.BoolOp .Or (a :: b :: es) pos) (tOr m n) := by
  obtain ⟨t, p, k⟩ := h
  obtain ⟨t', p', k'⟩ := h'
  exact ⟨_, pw_or p p', tr_or k k'⟩
theorem qe_one {op} (h : QE G X Φ W a ma) : QE G X Φ W (.BoolOp op [a] pos) ma := by
  obtain ⟨t, p, k⟩ := h
  exact ⟨_, pe_one p, k⟩
theorem qe_and (h : QE G X Φ W a ma) (h' : QE G X Φ W (.BoolOp .And (b :: es) pos) mb) : QE G X Φ W (.BoolOp .And (a :: b :: es) pos) (andE ma mb) := by
  obtain ⟨t, p, k⟩ := h
  obtain ⟨t', p', k'⟩ := h'
  exact ⟨_, pe_and p p', er_andV k k'⟩
theorem qe_or (h : QE G X Φ W a ma) (h' : QE G X Φ W (.BoolOp .Or (b :: es) pos) mb) : QE G X Φ W (.BoolOp .Or (a :: b :: es) pos) (orE ma mb) := by
  obtain ⟨t, p, k⟩ := h
  obtain ⟨t', p', k'⟩ := h'
  exact ⟨_, pe_or p p', er_orV k k'⟩
theorem qe_not (h : QE G X Φ W a ma) : QE G X Φ W (.UnaryOp .Not a pos) (notE ma) := by
  obtain ⟨t, p, k⟩ := h
  exact ⟨_, pe_not p, er_notV k⟩
theorem qe_if {m : DT} (hc : QT G X Φ W c m) (ha : QE G X Φ W a ma) (hb : QE G X Φ W b mb) : QE G X Φ W (.IfExp c a b pos) (ifE m ma mb) := by
  obtain ⟨t, p, k⟩ := hc
  obtain ⟨ta, pa, ka⟩ := ha
  obtain ⟨tb, pb, kb⟩ := hb
  exact ⟨_, pe_ifExp p pa pb, er_if k ka kb⟩
/-! arguments, displays -/
theorem qa_nil : QA G X Φ W [] aN := ⟨_, pa_nil, ar_nil⟩
theorem qa_cons (ha : QE G X Φ W a ma) (hr : QA G X Φ W es m) (hs : starEach (a :: es) X.env = (false, eval a X.env) :: starEach es X.env := by rfl) : QA G X Φ W (a :: es) (aC ma m) := by
  obtain ⟨t, p, k⟩ := ha
  obtain ⟨t', p', k'⟩ := hr
  exact ⟨_, pa_cons p p' hs, ar_cons k k'⟩
theorem qe_lst (box : Bool) (h : QA G X Φ W es m) : QE G X Φ W (.List es pos) (eN (lstV box) m) := by
  obtain ⟨t, p, k⟩ := h
  refine ⟨_, pe_lst p, fun σ H B A ρ L Q S q => k σ H B A ρ L _ S (RP.bind q fun xs L1 B1 A1 H1 us x1 c1 r1 q1 => ?_)⟩
  unfold lstV at q1
  cases e : pures xs with
  | none =>
    rw [e] at q1
    have q2 : RPV G (if xs.length ≤ SZ then .ok (.loc L1.length) (L1 ++ [.seq xs]) else .bad) B1 A1 H1 Q (fun c d H' => W c d σ H') := q1
    by_cases hl : xs.length ≤ SZ
    · rw [if_pos hl] at q2
      refine ⟨by rw [r1.len]; exact le_line hl, mkSeq_at c1 r1 q2⟩
    · rw [if_neg hl] at q2
      exact q2.elim
  | some ds =>
    rw [e] at q1
    have q2 : RPV G (if ds.length ≤ SZ then mkL box ds L1 else .bad) B1 A1 H1 Q (fun c d H' => W c d σ H') := q1
    have rs := r1.pure e
    by_cases hl : ds.length ≤ SZ
    · rw [if_pos hl] at q2
      exact ⟨by rw [rs.len]; exact le_line hl, mkL_at c1 rs q2⟩
    · rw [if_neg hl] at q2
      exact q2.elim
theorem qe_tup {x1} (h : QA G X Φ W es m) : QE G X Φ W (.Tuple es x1 pos) (eN tupV m) := by
  obtain ⟨t, p, k⟩ := h
  refine ⟨_, pe_tup p, fun σ H B A ρ L Q S q => k σ H B A ρ L _ S (RP.bind q fun xs L1 B1 A1 H1 us x1 c1 r1 q1 => ?_)⟩
  unfold tupV at q1
  cases e : pures xs with
  | none =>
    rw [e] at q1
    exact q1.elim
  | some ds =>
    rw [e] at q1
    have q2 : RPV G (if ds.length ≤ SZ then .ok (.d (.tup ds)) L1 else .bad) B1 A1 H1 Q (fun c d H' => W c d σ H') := q1
    have rs := r1.pure e
    by_cases hl : ds.length ≤ SZ
    · rw [if_pos hl] at q2
      exact ⟨by rw [rs.len]; exact le_line hl, tup_at c1 rs q2⟩
    · rw [if_neg hl] at q2
      exact q2.elim
theorem qe_ix (hu : X.A.units + 1 < cLine) (ha : QE G X Φ W a ma) (hb : QE G X Φ W b mb) (hs : PlainIx b := by exact fun _ _ => rfl) : QE G X Φ W (.Subscript a b pos) (e2 ixV ma mb) := by
  obtain ⟨r, hr, kr⟩ := o_ix (G := G) (X := X) hu
  obtain ⟨ta, pa, ka⟩ := ha
  obtain ⟨tb, pb, kb⟩ := hb
  exact ⟨_, pe_ix hr pa pb hs, er_op kr ka kb⟩
theorem qe_newK : QE G X Φ W (.Dict [] [] pos) newK := ⟨_, pe_dnewK, fun σ H B A ρ L Q S q p hp => by
  obtain ⟨c, x, e⟩ := S.ctx.newA (o := .dK []) (c := .dK []) hp ⟨[], rfl, rfl⟩
  exact q B (A ++ [p]) _ (.ref p) x c ⟨p, e, rfl⟩⟩
theorem qe_newT : QE G X Φ W (.Dict [] [] pos) newT := ⟨_, pe_dnewT, fun σ H B A ρ L Q S q p hp => by
  obtain ⟨c, x, e⟩ := S.ctx.newA (o := .dT []) (c := .dT []) hp ⟨[], rfl, rfl⟩
  exact q B (A ++ [p]) _ (.ref p) x c ⟨p, e, rfl⟩⟩
/-! built-ins by name -/
theorem qe_callB {x : PySem.Str} {id : String} {g : VN} {p : Pos} (hc : ON G X (.builtin id) g) (hg : Gl X x) (hm : X.mg x = none) (hv : bootBuiltins x = some (.builtin id)) (ha : QA G X Φ W (a :: es) m) (hn : x ≠ "__name__" := by decide) (hdb : (x == ("__debug__" : PySem.Str)) = false := by decide)
    (he : starEach (a :: es) X.env = (false, eval a X.env) :: starEach es X.env := by rfl) (hpl : (backTo pos (starEach es X.env)).any (·.1) = false := by rfl) : QE G X Φ W (.Call (.Name x p) (a :: es) [] pos) (eN g m) := by
  obtain ⟨r, hr, kr⟩ := hc
  obtain ⟨t, pt, k⟩ := ha
  exact ⟨_, pe_callB hr hg hm hv pt hn hdb he hpl, er_cb kr k⟩
theorem qe_callTy {x : PySem.Str} {T : String} {g : VN} {p : Pos} (hc : ON G X (.type T) g) (hg : Gl X x) (hm : X.mg x = none) (hv : bootBuiltins x = some (.type T)) (ha : QA G X Φ W (a :: es) m) (hn : x ≠ "__name__" := by decide) (hdb : (x == ("__debug__" : PySem.Str)) = false := by decide)
    (he : starEach (a :: es) X.env = (false, eval a X.env) :: starEach es X.env := by rfl) (hpl : (backTo pos (starEach es X.env)).any (·.1) = false := by rfl) : QE G X Φ W (.Call (.Name x p) (a :: es) [] pos) (eN g m) := by
  obtain ⟨r, hr, kr⟩ := hc
  obtain ⟨t, pt, k⟩ := ha
  exact ⟨_, pe_callTy hr hg hm hv pt hn hdb he hpl, er_cb kr k⟩
end

/-! ### built-ins by values -/
section
variable {G : Cfg} {X : Cx}
theorem reps1 {B : Hp} {A : List Addr} {v : Rv} {us : List V} (r : RepRs G B A [v] us) : ∃ u, us = [u] ∧ RepR G B A v u := by
  obtain ⟨u, ws, e, q, t⟩ := r
  have e2 : ws = [] := t
  rw [e, e2]
  exact ⟨u, rfl, q⟩
theorem reps2 {B : Hp} {A : List Addr} {v w : Rv} {us : List V} (r : RepRs G B A [v, w] us) : ∃ u z, us = [u, z] ∧ RepR G B A v u ∧ RepR G B A w z := by
  obtain ⟨u, ws, e, q, t⟩ := r
  obtain ⟨z, e2, q2⟩ := reps1 t
  rw [e, e2]
  exact ⟨u, z, rfl, q, q2⟩
theorem kvs_len {B : Hp} : ∀ {kvs : List (Key × D)} {ws : List (L2.Key × V)}, KVs G B kvs ws → ws.length = kvs.length
  | [], _, r => by
    have e : _ = [] := r
    rw [e]
    rfl
  | _ :: _, _, ⟨_, _, e, _, t⟩ => by rw [e, List.length_cons, List.length_cons, kvs_len t]
theorem kts_len {B : Hp} : ∀ {kvs : List (List Key × D)} {ws : List (List L2.Key × V)}, KTs G B kvs ws → ws.length = kvs.length
  | [], _, r => by
    have e : _ = [] := r
    rw [e]
    rfl
  | _ :: _, _, ⟨_, _, e, _, t⟩ => by rw [e, List.length_cons, List.length_cons, kts_len t]
theorem on_1 {f : Value} {r : List V → Hp → VK → Prop} {v : V1} (h : CallR X f r) (k : ∀ (x : Rv) (u : V) (H B : Hp) (A : List Addr) (L : Led) (Q : VK) (W : XK), Ctx G B A L H → RepR G B A x u → RPV G (v x L) B A H Q W → r [u] H Q) : ON G X f (vn1 v) := ⟨r, h, fun xs us H B A L Q W C s q => by
  cases xs with
  | nil => exact q.elim
  | cons x t =>
    cases t with
    | cons y t => exact q.elim
    | nil =>
      obtain ⟨u, rfl, s1⟩ := reps1 s
      exact k x u H B A L Q W C s1 q⟩
theorem on_2 {f : Value} {r : List V → Hp → VK → Prop} {v : V2} (h : CallR X f r) (k : ∀ (x y : Rv) (u w : V) (H B : Hp) (A : List Addr) (L : Led) (Q : VK) (W : XK), Ctx G B A L H → RepR G B A x u → RepR G B A y w → RPV G (v x y L) B A H Q W → r [u, w] H Q) : ON G X f (vn2 v) := ⟨r, h, fun xs us H B A L Q W C s q => by
  cases xs with
  | nil => exact q.elim
  | cons x t =>
    cases t with
    | nil => exact q.elim
    | cons y t =>
      cases t with
      | cons z t => exact q.elim
      | nil =>
        obtain ⟨u, w, rfl, s1, s2⟩ := reps2 s
        exact k x y u w H B A L Q W C s1 s2 q⟩
theorem on_len (hK : X.K = G.K := by rfl) : ON G X (.builtin "len") lenV := on_1 (((call_len_str.or call_len_seq).or call_lenD).or call_len_dT) fun v u H B A L Q W C r q => by
  have seq : ∀ ys, items L v = some ys → RPV G (.ok (.d (.int ys.length)) L) B A H Q W → ∃ p zs, [u] = [V.ref p] ∧ (SqL X.K H p zs ∨ SqT X.K H p zs) ∧ Q (.int zs.length) H := fun ys e q => by
    obtain ⟨a, vs, e1, e2, e3⟩ := items_at (K := X.K) hK C r e
    exact ⟨a, vs, by rw [e1], e2, by rw [e3.len]; exact q B A H _ Ext.refl C rfl⟩
  have gen : RPV G (match items L v with | some xs => .ok (.d (.int xs.length)) L | none => .bad) B A H Q W → ∃ p zs, [u] = [V.ref p] ∧ (SqL X.K H p zs ∨ SqT X.K H p zs) ∧ Q (.int zs.length) H := fun q => by
    cases e : items L v with
    | none =>
      rw [e] at q
      exact q.elim
    | some ys =>
      rw [e] at q
      exact seq ys e q
  cases v with
  | d x =>
    cases x with
    | str s =>
      have q1 : RPV G (if s.length ≤ SZ then .ok (.d (.int s.length)) L else .bad) B A H Q W := q
      by_cases hl : s.length ≤ SZ
      · rw [if_pos hl] at q1
        obtain rfl : u = .str (sOf s) := r
        exact .inl (.inl (.inl ⟨sOf s, rfl, by rw [sOf_len]; exact le_line hl, by rw [sOf_len]; exact q1 B A H _ Ext.refl C rfl⟩))
      · rw [if_neg hl] at q1
        exact q1.elim
    | _ => exact .inl (.inl (.inr (gen q)))
  | loc n =>
    cases hc : L[n]? with
    | none =>
      simp only [len1, hc] at q
      exact q.elim
    | some c =>
      simp only [len1, hc] at q
      obtain ⟨a, ha, eu⟩ := id r
      obtain ⟨o, e3, cr⟩ := C.cell ha hc
      cases c with
      | lst ys =>
        refine .inl (.inl (.inr (seq ys ?_ q)))
        simp only [items, itemsL, hc]
      | seq ys =>
        obtain ⟨ws, rfl, z⟩ := cr
        exact .inl (.inl (.inr ⟨a, ws, by rw [eu], .inl (SqL.of e3), by rw [z.len]; exact q B A H _ Ext.refl C rfl⟩))
      | dK kvs =>
        obtain ⟨ws, rfl, z⟩ := cr
        exact .inl (.inr ⟨a, ws, by rw [eu], e3, by rw [kvs_len z]; exact q B A H _ Ext.refl C rfl⟩)
      | dT kvs =>
        obtain ⟨ws, rfl, z⟩ := cr
        exact .inr ⟨a, ws, by rw [eu], e3, by rw [kts_len z]; exact q B A H _ Ext.refl C rfl⟩
      | _ => exact q.elim
theorem on_abs : ON G X (.builtin "abs") absV := on_1 call_abs fun x u H B A L Q W C r q => by
  cases x with
  | loc n => exact q.elim
  | d x =>
    cases x with
    | int i =>
      obtain rfl : u = .int i := r
      exact ⟨i, rfl, q B A H _ Ext.refl C rfl⟩
    | _ => exact q.elim
theorem on_ii {f : Value} {g : Int → Int → Int} (h : CallR X f (fun xs H Q => ∃ i j, xs = [.int i, .int j] ∧ Q (.int (g i j)) H)) : ON G X f (vn2 (ii fun i j => .int (g i j))) := on_2 h fun x y u w H B A L Q W C r1 r2 q => by
  cases x with
  | loc n => exact q.elim
  | d x =>
    cases x with
    | int i =>
      cases y with
      | loc n => exact q.elim
      | d y =>
        cases y with
        | int j =>
          obtain rfl : u = .int i := r1
          obtain rfl : w = .int j := r2
          exact ⟨i, j, rfl, q B A H _ Ext.refl C rfl⟩
        | _ => exact q.elim
    | _ => exact q.elim
theorem on_max2 (hc : X.calm = true) : ON G X (.builtin "max") max2V := on_ii (call_max2 hc)
theorem on_min2 (hc : X.calm = true) : ON G X (.builtin "min") min2V := on_ii (call_min2 hc)
theorem on_int : ON G X (.type "int") intV := on_1 call_int1 fun x u H B A L Q W C r q => by
  cases x with
  | loc n => exact q.elim
  | d x =>
    cases x with
    | int i =>
      obtain rfl : u = .int i := r
      exact .inl ⟨i, rfl, q B A H _ Ext.refl C rfl⟩
    | bl b =>
      obtain rfl : u = .bl b := r
      exact .inr ⟨b, rfl, q B A H _ Ext.refl C rfl⟩
    | _ => exact q.elim
theorem on_list (box : Bool) (hK : X.K = G.K := by rfl) : ON G X (.type "list") (listV box) := on_1 call_list_of fun v u H B A L Q W C r q => by
  have q1 : RPV G (match items L v with | some ys => mkL box ys L | none => .bad) B A H Q W := q
  cases e : items L v with
  | none =>
    rw [e] at q1
    exact q1.elim
  | some ys =>
    rw [e] at q1
    obtain ⟨a, vs, e1, e2, e3⟩ := items_at (K := X.K) hK C r e
    exact ⟨a, vs, by rw [e1], e2, mkL_at C e3 q1⟩
end
end Dl

set_option Elab.async false
set_option linter.all false
set_option maxRecDepth 100000
/-! Ss: statements, loops. -/
namespace Dl
open PySem PySem.Spec PyProof.Rows L2

def FP (G : Cfg) (Φ : Ph) (W : WX) (f : Flow) (B : Hp) (A : List Addr) (H : Hp) (D : Ends) : Prop := match f with
  | .next ρ' L' => ∀ B' A' H' σ', Ext B A H B' A' H' → StR G Φ B' A' ρ' L' σ' H' → D.nx σ' H'
  | .ret v L' => ∀ B' A' H' u, Ext B A H B' A' H' → Ctx G B' A' L' H' → RepR G B' A' v u → D.rt u H'
  | .brk ρ' L' => ∀ B' A' H' σ', Ext B A H B' A' H' → StR G Φ B' A' ρ' L' σ' H' → D.bk σ' H'
  | .cont ρ' L' => ∀ B' A' H' σ', Ext B A H B' A' H' → StR G Φ B' A' ρ' L' σ' H' → D.ct σ' H'
  | .exc c xs ρ' L' => ∀ B' A' H' σ' cls d, Ext B A H B' A' H' → StR G Φ B' A' ρ' L' σ' H' → XRep G B' c xs cls d → W cls d σ' H'
  | .bad => False
section
variable {G : Cfg} {Φ : Ph} {W : WX} {B B1 : Hp} {A A1 : List Addr} {H H1 : Hp} {D : Ends}
theorem FP.ext {f : Flow} (x : Ext B A H B1 A1 H1) (h : FP G Φ W f B A H D) : FP G Φ W f B1 A1 H1 D := by
  cases f with
  | next ρ L => exact fun B' A' H' σ' y s => h B' A' H' σ' (x.trans y) s
  | ret v L => exact fun B' A' H' u y c r => h B' A' H' u (x.trans y) c r
  | brk ρ L => exact fun B' A' H' σ' y s => h B' A' H' σ' (x.trans y) s
  | cont ρ L => exact fun B' A' H' σ' y s => h B' A' H' σ' (x.trans y) s
  | exc c xs ρ L => exact fun B' A' H' σ' cls d y s r => h B' A' H' σ' cls d (x.trans y) s r
  | bad => exact h
theorem FP.flow {α β : Type} {Rel : Hp → List Addr → α → β → Prop} {r : Res α} {ρ : Env} {L : Led} {σ : L2.St} {k : α → Led → Flow} {Q : β → Hp → Prop} (S : StR G Φ B A ρ L σ H) (h : FP G Φ W (r.flow ρ k) B A H D)
    (q : ∀ a L1 B1 A1 H1 b, Ext B A H B1 A1 H1 → StR G Φ B1 A1 ρ L1 σ H1 → Rel B1 A1 a b → FP G Φ W (k a L1) B1 A1 H1 D → Q b H1) : RP G Rel r B A H Q (fun c d H' => W c d σ H') := by
  cases r with
  | ok a L' => exact fun B' A' H' b x c z => q a L' B' A' H' b x (S.step x c) z (FP.ext x h)
  | exc c xs L' => exact fun B' A' H' cls d x cc z => h B' A' H' σ cls d x (S.step x cc) z
  | bad => exact h
theorem FP.then_ {f : Flow} {u : DS} {N : L2.St → Hp → Prop} (h : FP G Φ W (f.then u) B A H D) (q : ∀ ρ1 L1 B1 A1 H1 σ1, Ext B A H B1 A1 H1 → StR G Φ B1 A1 ρ1 L1 σ1 H1 → FP G Φ W (u ρ1 L1) B1 A1 H1 D → N σ1 H1) : FP G Φ W f B A H { D with nx := N } := by
  cases f with
  | next ρ L => exact fun B' A' H' σ' x s => q ρ L B' A' H' σ' x s (FP.ext x h)
  | ret v L => exact h
  | brk ρ L => exact h
  | cont ρ L => exact h
  | exc c xs ρ L => exact h
  | bad => exact h
end
def StmR (G : Cfg) (Φ : Ph) (W : WX) (ts : TS) (m : DS) : Prop := ∀ (σ : L2.St) (H B : Hp) (A : List Addr) (ρ : Env) (L : Led) (D : Ends), StR G Φ B A ρ L σ H → FP G Φ W (m ρ L) B A H D → ts D σ H
def QS (G : Cfg) (X : Cx) (Φ : Ph) (W : WX) (st : Stmt) (m : DS) : Prop := ∃ ts, PS X st ts ∧ StmR G Φ W ts m
def QSs (G : Cfg) (X : Cx) (Φ : Ph) (W : WX) (st : List Stmt) (m : DS) : Prop := ∃ ts, PSs X st ts ∧ StmR G Φ W ts m
mutual
def Pat.inn (own : List Nat) : Pat → Bool
  | .name i => own.contains i
  | .tup ps => Pat.inns own ps
def Pat.inns (own : List Nat) : List Pat → Bool
  | [] => true
  | p :: ps => p.inn own && Pat.inns own ps
end
mutual
def Pat.off (f : Nat → Bool) : Pat → Bool
  | .name i => f i
  | .tup ps => Pat.offs f ps
def Pat.offs (f : Nat → Bool) : List Pat → Bool
  | [] => true
  | p :: ps => p.off f && Pat.offs f ps
end
theorem wipe_get {vs : List Nat} : ∀ {σ : L2.St} {i : Nat}, (L2.wipe σ vs)[i]? = if i ∈ vs ∧ i < σ.length then some none else σ[i]? := by
  induction vs with
  | nil =>
    intro σ i
    simp [L2.wipe]
  | cons v vs ih =>
    intro σ i
    show ((L2.wipe σ vs).set v none)[i]? = _
    rw [List.getElem?_set]
    by_cases h : v = i
    · subst h
      by_cases h2 : v < (L2.wipe σ vs).length
      · rw [if_pos rfl, if_pos h2, if_pos ⟨List.mem_cons_self, by rw [L2.wipe_length] at h2; exact h2⟩]
      · rw [if_pos rfl, if_neg h2]
        rw [L2.wipe_length] at h2
        rw [if_neg fun z => h2 z.2]
        exact (List.getElem?_eq_none (Nat.le_of_not_lt h2)).symm
    · rw [if_neg h, ih]
      have e : (i ∈ v :: vs) ↔ i ∈ vs := by
        rw [List.mem_cons]
        exact ⟨fun z => z.resolve_left fun q => h q.symm, .inr⟩
      simp [e]
theorem wipe_set {σ : L2.St} {vs : List Nat} {i : Nat} {o : Option V} (h : i ∈ vs) : L2.wipe (σ.set i o) vs = L2.wipe σ vs := by
  apply List.ext_getElem?
  intro j
  rw [wipe_get, wipe_get, List.length_set]
  by_cases z : j ∈ vs ∧ j < σ.length
  · rw [if_pos z, if_pos z]
  · rw [if_neg z, if_neg z]
    by_cases e : i = j
    · subst e
      have e2 : σ.length ≤ i := Nat.le_of_not_lt fun q => z ⟨h, q⟩
      rw [List.getElem?_eq_none (by rw [List.length_set]; exact e2), List.getElem?_eq_none e2]
    · rw [List.getElem?_set_ne e]
/-- a target -/
def GR (G : Cfg) (g : TG) (p : Pat) : Prop := ∀ (Φ : Ph) (x : D) (v : V) (ρ ρ1 : Env) (σ : L2.St) (B H : Hp) (A : List Addr) (L : Led) (Q : L2.St → Hp → Prop), p.off Φ.off = true → StR G Φ B A ρ L σ H → Rep G B x v → bindP p x ρ = some ρ1 → (∀ σ1, StR G Φ B A ρ1 L σ1 H → (∀ own, p.inn own = true → L2.wipe σ1 own = L2.wipe σ own) → Q σ1 H) → g v σ H Q
def GsR (G : Cfg) (g : TGs) (ps : List Pat) : Prop := ∀ (Φ : Ph) (xs : List D) (vs : List V) (ρ ρ1 : Env) (σ : L2.St) (B H : Hp) (A : List Addr) (L : Led) (Q : L2.St → Hp → Prop), Pat.offs Φ.off ps = true → StR G Φ B A ρ L σ H → Reps G B xs vs → bindPs ps xs ρ = some ρ1 → (∀ σ1, StR G Φ B A ρ1 L σ1 H → (∀ own, Pat.inns own ps = true → L2.wipe σ1 own = L2.wipe σ own) → Q σ1 H) → g vs σ H Q
def QG (G : Cfg) (X : Cx) (e : Expr) (p : Pat) : Prop := ∃ g, PG X e g ∧ GR G g p
def QGs (G : Cfg) (X : Cx) (es : List Expr) (ps : List Pat) : Prop := ∃ g, PGs X es g ∧ GsR G g ps
section
variable {G : Cfg} {X : Cx} {Φ : Ph} {W : WX} {pos : Pos} {st : Stmt} {rest : List Stmt} {e : Expr} {m : DE} {t u : DS}
theorem qss_nil : QSs G X Φ W [] sNext := ⟨_, pss_nil, fun σ H B A ρ L D S q => q B A H σ Ext.refl S⟩
theorem qss_cons (h : QS G X Φ W st t) (h' : QSs G X Φ W rest u) : QSs G X Φ W (st :: rest) (sSeq t u) := by
  obtain ⟨ts, p, k⟩ := h
  obtain ⟨us, p', k'⟩ := h'
  exact ⟨_, pss_cons p p', fun σ H B A ρ L D S q => k σ H B A ρ L _ S (FP.then_ q fun ρ1 L1 B1 A1 H1 σ1 x s q1 => k' σ1 H1 B1 A1 ρ1 L1 D s q1)⟩
theorem qss_one (h : QS G X Φ W st t) : QSs G X Φ W [st] t := by
  obtain ⟨ts, p, k⟩ := h
  exact ⟨_, pss_one p, k⟩
theorem sr_asg {te : TE} {i : Nat} (k : ER G Φ W te m) (ho : Φ.off i = true) : StmR G Φ W (tAsg te (gName i)) (sAsg i m) := fun σ H B A ρ L D S q =>
  k σ H B A ρ L _ S (FP.flow S q fun v L1 B1 A1 H1 u x s r q1 => q1 B1 A1 H1 _ Ext.refl ⟨Φ.keep _ _ _ _ ho s.phi, s.env.set i r, s.ctx⟩)
theorem qs_asg {i : Nat} {x : PySem.Str} {pos' : Pos} (h : QE G X Φ W e m) (hN : X.N.Nodup) (hi : X.N[i]? = some x := by rfl) (hx : Loc X.env.scope x := by first | exact Or.inl rfl | exact Or.inr rfl) (hs : swapsWith e (some (.Name x pos')) pos.line X.env = pure false := by rfl)
    (hf : X.fn x = true ∨ X.env.scope.names.lookup x = some .local := by first | exact .inl rfl | exact .inr rfl) (ho : Φ.off i = true := by rfl) : QS G X Φ W (.Assign [.Name x pos'] e pos) (sAsg i m) := by
  obtain ⟨te, p, k⟩ := h
  exact ⟨_, ps_set hN hi hx p hs hf, sr_asg k ho⟩
theorem qs_expr (h : QE G X Φ W e m) (hs : swapsWith e none pos.line X.env = pure false := by rfl) : QS G X Φ W (.Expr e pos) (sExpr m) := by
  obtain ⟨te, p, k⟩ := h
  exact ⟨_, ps_expr p hs, fun σ H B A ρ L D S q => k σ H B A ρ L _ S (FP.flow S q fun v L1 B1 A1 H1 u x s r q1 => q1 B1 A1 H1 σ Ext.refl s)⟩
theorem qs_doc {x j pos'} : QS G X Φ W (.Expr (.Constant (.str x) j pos) pos') sNext := ⟨_, ps_doc, fun σ H B A ρ L D S q => q B A H σ Ext.refl S⟩
theorem qs_pass : QS G X Φ W (.Pass pos) sNext := ⟨_, ps_pass, fun σ H B A ρ L D S q => q B A H σ Ext.refl S⟩
theorem qs_break : QS G X Φ W (.Break pos) sBrk := ⟨_, ps_break, fun σ H B A ρ L D S q => q B A H σ Ext.refl S⟩
theorem qs_continue : QS G X Φ W (.Continue pos) sCont := ⟨_, ps_continue, fun σ H B A ρ L D S q => q B A H σ Ext.refl S⟩
theorem qs_ret (h : QE G X Φ W e m) : QS G X Φ W (.Return (some e) pos) (sRet m) := by
  obtain ⟨te, p, k⟩ := h
  exact ⟨_, ps_ret p, fun σ H B A ρ L D S q => k σ H B A ρ L _ S (FP.flow S q fun v L1 B1 A1 H1 u x s r q1 => q1 B1 A1 H1 u Ext.refl s.ctx r)⟩
theorem qs_retN : QS G X Φ W (.Return none pos) sRetN := ⟨_, ps_retN, fun σ H B A ρ L D S q => q B A H .non Ext.refl S.ctx rfl⟩
theorem qs_if {c : Expr} {a b : List Stmt} {mc : DT} (hc : QT G X Φ W c mc) (ha : QSs G X Φ W a t) (hb : QSs G X Φ W b u) : QS G X Φ W (.If c a b pos) (sIf mc t u) := by
  obtain ⟨tc, pc, kc⟩ := hc
  obtain ⟨ta, pa, ka⟩ := ha
  obtain ⟨tb, pb, kb⟩ := hb
  refine ⟨_, ps_if pc pa pb, fun σ H B A ρ L D S q => kc σ H B A ρ L _ S (FP.flow S q fun c L1 B1 A1 H1 c' x s r q1 => ?_)⟩
  obtain rfl : c = c' := r
  cases c with
  | true => exact ka σ H1 B1 A1 ρ L1 D s q1
  | false => exact kb σ H1 B1 A1 ρ L1 D s q1
/-- x op= e -/
def PR (G : Cfg) (r : TIp) (g : V2) : Prop := ∀ (x y : Rv) (u w : V) (H B : Hp) (A : List Addr) (L : Led) (Q : VK) (W : XK), Ctx G B A L H → RepR G B A x u → RepR G B A y w → RPV G (g x y L) B A H Q W → r u w H Q
theorem qs_aug {i : Nat} {x : PySem.Str} {op : Operator} {g : V2} {pos' : Pos} (ho : O2 G X (inplaceOp op) g) (h : QE G X Φ W e m) (hN : X.N.Nodup) (hi : X.N[i]? = some x := by rfl) (hx : Loc X.env.scope x := by first | exact Or.inl rfl | exact Or.inr rfl)
    (hf : X.fn x = true ∨ X.env.scope.names.lookup x = some .local := by first | exact .inl rfl | exact .inr rfl) (hoff : Φ.off i = true := by rfl) : QS G X Φ W (.AugAssign (.Name x pos') op e pos) (sAug i g m) := by
  obtain ⟨r, hr, kr⟩ := ho
  obtain ⟨te, p, k⟩ := h
  refine ⟨_, ps_aug (ti := r) hN hi hx p (fun pins s σ H x y v u Q I rx ry q => hr pins s σ H x y v u Q I rx ry q) hf, fun σ H B A ρ L D S q => ?_⟩
  unfold sAug at q
  cases e1 : ρ[i]? with
  | none =>
    rw [e1] at q
    exact q.elim
  | some o =>
    rw [e1] at q
    cases o with
    | none => exact q.elim
    | some x0 =>
      obtain ⟨u0, h1, h2⟩ := S.env.2 i x0 e1
      refine ⟨u0, h1, k σ H B A ρ L _ S (FP.flow S q fun y L1 B1 A1 H1 w x s r1 q1 => ?_)⟩
      exact kr x0 y u0 w H1 B1 A1 L1 _ _ s.ctx (h2.mono x.base x.Pre) r1 (FP.flow s q1 fun z L2 B2 A2 H2 v x2 s2 r2 q2 => q2 B2 A2 H2 _ Ext.refl ⟨Φ.keep _ _ _ _ hoff s2.phi, s2.env.set i r2, s2.ctx⟩)
/-! targets -/
theorem qg_name {i : Nat} {x : PySem.Str} (hN : X.N.Nodup) (hi : X.N[i]? = some x := by rfl) (hx : Loc X.env.scope x := by first | exact Or.inl rfl | exact Or.inr rfl) (hf : X.fn x = true ∨ X.env.scope.names.lookup x = some .local := by first | exact .inl rfl | exact .inr rfl) : QG G X (.Name x pos) (.name i) :=
  ⟨_, pg_name hN hi hx hf, fun Φ x v ρ ρ1 σ B H A L Q hoff S r e q => by
    have e1 : ρ.set i (some (.d x)) = ρ1 := Option.some.inj e
    subst e1
    exact q _ ⟨Φ.keep _ _ _ _ hoff S.phi, S.env.set i (v := .d x) r, S.ctx⟩ fun own h => wipe_set (by simpa [Pat.inn] using h)⟩
theorem qgs_nil : QGs G X [] [] := ⟨_, pgs_nil, fun Φ xs vs ρ ρ1 σ B H A L Q hoff S r e q => by
  cases xs with
  | nil =>
    have e0 : vs = [] := r
    have e1 : ρ = ρ1 := Option.some.inj e
    subst e1
    exact ⟨e0, q σ S fun _ _ => rfl⟩
  | cons x xs => cases e⟩
theorem qgs_cons {es : List Expr} {p : Pat} {ps : List Pat} (h : QG G X e p) (h' : QGs G X es ps) (hs : (assignEach (e :: es) X.env).map (·.2) = assign e X.env :: (assignEach es X.env).map (·.2) := by rfl) : QGs G X (e :: es) (p :: ps) := by
  obtain ⟨g, pg, kg⟩ := h
  obtain ⟨g', pg', kg'⟩ := h'
  refine ⟨_, pgs_cons pg pg' hs, fun Φ xs vs ρ ρ1 σ B H A L Q hoff S r e q => ?_⟩
  cases xs with
  | nil => cases e
  | cons x xs =>
    obtain ⟨v, ws, e0, r1, r2⟩ := r
    have e1 : (bindP p x ρ).bind (bindPs ps xs) = some ρ1 := e
    cases e2 : bindP p x ρ with
    | none =>
      rw [e2] at e1
      cases e1
    | some ρ2 =>
      rw [e2] at e1
      have hoff' : (p.off Φ.off && Pat.offs Φ.off ps) = true := hoff
      rw [Bool.and_eq_true] at hoff'
      exact ⟨v, ws, e0, kg Φ x v ρ ρ2 σ B H A L _ hoff'.1 S r1 e2 fun σ1 S1 w1 => kg' Φ xs ws ρ2 ρ1 σ1 B H A L Q hoff'.2 S1 r2 e1 fun σ2 S2 w2 => q σ2 S2 fun own h => by
        have h' : (p.inn own && Pat.inns own ps) = true := h
        rw [Bool.and_eq_true] at h'
        rw [w2 own h'.2, w1 own h'.1]⟩
theorem bindPs_len : ∀ {ps : List Pat} {xs : List D} {ρ ρ1 : Env}, bindPs ps xs ρ = some ρ1 → xs.length = ps.length
  | [], [], _, _, _ => rfl
  | [], _ :: _, _, _, h => by cases h
  | _ :: _, [], _, _, h => by cases h
  | p :: ps, x :: xs, ρ, ρ1, h => by
    have h1 : (bindP p x ρ).bind (bindPs ps xs) = some ρ1 := h
    cases e : bindP p x ρ with
    | none =>
      rw [e] at h1
      cases h1
    | some ρ2 =>
      rw [e] at h1
      rw [List.length_cons, List.length_cons, bindPs_len (ps := ps) (xs := xs) (ρ := ρ2) (ρ1 := ρ1) h1]
theorem qg_tup {es : List Expr} {k : Nat} {ps : List Pat} (hc : X.calm = true) (h : QGs G X es ps) (hn : (assignEach es X.env).length = ps.length := by rfl) (hst : (assignEach es X.env).findIdx? (·.1) = none := by rfl) : QG G X (.Tuple es k pos) (.tup ps) := by
  obtain ⟨g, pg, kg⟩ := h
  refine ⟨_, pg_tup hc pg hn hst, fun Φ x v ρ ρ1 σ B H A L Q hoff S r e q => ?_⟩
  cases x with
  | tup xs =>
    obtain ⟨a, vs, e1, e2, e3⟩ := r
    have e4 : bindPs ps xs ρ = some ρ1 := e
    exact ⟨a, vs, e1, SqT.of (S.ctx.sub _ _ e2), by rw [e3.len, bindPs_len e4], kg Φ xs vs ρ ρ1 σ B H A L Q hoff S e3 e4 fun σ1 S1 w => q σ1 S1 fun own h => w own h⟩
  | _ => cases e
theorem qs_unp {tg : Expr} {p : Pat} (hg : QG G X tg p) (h : QE G X Φ W e m) (hs : swapsWithSole [tg] e pos.line X.env = pure false := by rfl) (hw : swappedStores [tg] e X.env = pure none := by rfl)
    (h1 : (assignEach [tg] X.env).map (·.2) = [assign tg X.env] := by rfl) (hoff : p.off Φ.off = true := by rfl) : QS G X Φ W (.Assign [tg] e pos) (sUnp p m) := by
  obtain ⟨g, pg, kg⟩ := hg
  obtain ⟨te, pe, k⟩ := h
  refine ⟨_, ps_asg pe pg hs hw h1, fun σ H B A ρ L D S q => k σ H B A ρ L _ S (FP.flow S q fun v L1 B1 A1 H1 u x s r q1 => ?_)⟩
  cases v with
  | loc n => exact q1.elim
  | d x =>
    have q2 : FP G Φ W (match bindP p x ρ with | some ρ1 => .next ρ1 L1 | none => .bad) B1 A1 H1 D := q1
    cases e1 : bindP p x ρ with
    | none =>
      rw [e1] at q2
      exact q2.elim
    | some ρ1 =>
      rw [e1] at q2
      exact kg Φ x u ρ ρ1 σ B1 H1 A1 L1 _ hoff s r e1 fun σ1 S1 _ => q2 B1 A1 H1 σ1 Ext.refl S1
theorem qs_par {i j : Nat} {x y : PySem.Str} {a b : Expr} {ma mb : DE} {px py pt : Pos} {kt k2 pt2} (hc : X.calm = true) (hN : X.N.Nodup) (ha : QE G X Φ W a ma) (hb : QE G X Φ W b mb) (hi : X.N[i]? = some x := by rfl) (hj : X.N[j]? = some y := by rfl) (hij : i ≠ j := by decide)
    (hx : X.env.scope.names.lookup x = some .local := by rfl) (hy : X.env.scope.names.lookup y = some .local := by rfl)
    (hw : swappedStores [.Tuple [.Name x px, .Name y py] kt pt] (.Tuple [a, b] k2 pt2) X.env = pure (some [x, y]) := by rfl)
    (hs : swapsWithSole [.Tuple [.Name x px, .Name y py] kt pt] (.Tuple [a, b] k2 pt2) pos.line X.env = pure false := by rfl)
    (s1 : starEach (a :: [b]) X.env = (false, eval a X.env) :: starEach [b] X.env := by rfl) (s2 : starEach (b :: []) X.env = (false, eval b X.env) :: starEach [] X.env := by rfl) (ho1 : Φ.off i = true := by rfl) (ho2 : Φ.off j = true := by rfl) :
    QS G X Φ W (.Assign [.Tuple [.Name x px, .Name y py] kt pt] (.Tuple [a, b] k2 pt2) pos) (sPar i j ma mb) := by
  obtain ⟨ta, pa, ka⟩ := ha
  obtain ⟨tb, pb, kb⟩ := hb
  refine ⟨_, ps_par hc hN hi hj hij hx hy (pa_cons pa (pa_cons pb pa_nil s2) s1) hw hs, fun σ H B A ρ L D S q => ?_⟩
  refine ka σ H B A ρ L _ S (FP.flow S q fun v L1 B1 A1 H1 u x s r q1 => ?_)
  refine kb σ H1 B1 A1 ρ L1 _ s (FP.flow s q1 fun w L2 B2 A2 H2 z x2 s2 r2 q2 => ?_)
  exact ⟨u, z, rfl, q2 B2 A2 H2 _ Ext.refl ⟨Φ.keep _ _ _ _ ho2 (Φ.keep _ _ _ _ ho1 s2.phi), (s2.env.set i (r.mono x2.base x2.Pre)).set j r2, s2.ctx⟩⟩
end
end Dl

set_option Elab.async false
set_option linter.all false
set_option maxRecDepth 100000
/-! Sl: loops and comprehensions. -/
namespace Dl
open PySem PySem.Spec PyProof.Rows L2

/-- what is walked: at each later state the i-th turn yields the i-th datum -/
def ItOk (G : Cfg) (B : Hp) (A : List Addr) (src : Src) (J : It) : Prop := ∀ (i : Nat) (B' : Hp) (A' : List Addr) (L' : Led) (H' : Hp), Same B B' → Pre A A' → Ctx G B' A' L' H' →
  (i = src.len → src.fin L' = true → J.stop i H') ∧ ∀ x, src.get L' i = some x → J.go i H' ∧ ∀ v H2, J.yld i H' v H2 → ∃ B2, Ext B' A' H' B2 A' H2 ∧ Ctx G B2 A' L' H2 ∧ Rep G B2 x v
def RelJ (G : Cfg) : Hp → List Addr → Src → It → Prop := fun B A src J => ItOk G B A src J
def IR (G : Cfg) (Φ : Ph) (W : WX) (wi : TI) (m : DI) : Prop := ∀ (σ : L2.St) (H B : Hp) (A : List Addr) (ρ : Env) (L : Led) (R : It → Hp → Prop), StR G Φ B A ρ L σ H → RP G (RelJ G) (m ρ L) B A H R (fun c d H' => W c d σ H') → wi σ H R
def QI (G : Cfg) (X : Cx) (Φ : Ph) (W : WX) (tg e : Expr) (m : DI) : Prop := ∃ wi, PI X tg e wi ∧ IR G Φ W wi m
section
variable {G : Cfg} {B B' : Hp} {A A' : List Addr} {L' : Led} {H' : Hp}
/-- an item that stands -/
theorem yld_same (C : Ctx G B' A' L' H') {x : D} {v : V} {H2 : Hp} (e : H2 = H') (r : Rep G B' x v) : ∃ B2, Ext B' A' H' B2 A' H2 ∧ Ctx G B2 A' L' H2 ∧ Rep G B2 x v := by
  subst e
  exact ⟨B', Ext.refl, C, r⟩
theorem itOk_seqL {K : PySem.W.Frag} {a : Addr} {xs : List D} {vs : List V} (h : ∀ B' A' L' H', Same B B' → Pre A A' → Ctx G B' A' L' H' → SqL K H' a vs) (r : Reps G B xs vs) : ItOk G B A (.vals xs) (Itl K a) := fun i B' A' L' H' s p C => by
  have hs := h B' A' L' H' s p C
  refine ⟨fun e _ => ⟨vs, hs, ?_⟩, fun x hx => ?_⟩
  · rw [r.len, e]
    exact Nat.le_refl _
  · have hx' : xs[i]? = some x := hx
    obtain ⟨v, e1, e2⟩ := Reps.get r hx'
    refine ⟨⟨vs, v, hs, e1⟩, fun w H2 y => ?_⟩
    obtain ⟨e, y⟩ := y
    have e3 := y vs hs
    rw [e1] at e3
    cases e3
    exact yld_same C e (Rep.mono s _ _ e2)
theorem itOk_seqT {K : PySem.W.Frag} {a : Addr} {xs : List D} {vs : List V} (h : ∀ B' A' L' H', Same B B' → Pre A A' → Ctx G B' A' L' H' → SqT K H' a vs) (r : Reps G B xs vs) : ItOk G B A (.vals xs) (Itt K a) := fun i B' A' L' H' s p C => by
  have hs := h B' A' L' H' s p C
  refine ⟨fun e _ => ⟨vs, hs, ?_⟩, fun x hx => ?_⟩
  · rw [r.len, e]
    exact Nat.le_refl _
  · have hx' : xs[i]? = some x := hx
    obtain ⟨v, e1, e2⟩ := Reps.get r hx'
    refine ⟨⟨vs, v, hs, e1⟩, fun w H2 y => ?_⟩
    obtain ⟨e, y⟩ := y
    have e3 := y vs hs
    rw [e1] at e3
    cases e3
    exact yld_same C e (Rep.mono s _ _ e2)
end
section
variable {G : Cfg} {X : Cx} {Φ : Ph} {W : WX} {pos : Pos} {tg e : Expr} {m : DE}
theorem qi_list (h : QE G X Φ W e m) (hK : X.K = G.K := by rfl) : QI G X Φ W tg e (iL m) := by
  obtain ⟨te, pe, k⟩ := h
  refine ⟨_, pi_list pe, fun σ H B A ρ L R S q => k σ H B A ρ L _ S (RP.bind q fun v L1 B1 A1 H1 u x c r q1 => ?_)⟩
  cases v with
  | d x =>
    cases x with
    | lst xs =>
      obtain ⟨a, vs, e1, e2, e3⟩ := r
      exact ⟨a, e1, ⟨vs, SqL.of (c.sub _ _ e2)⟩, q1 B1 A1 H1 _ Ext.refl c (itOk_seqL (fun B' A' L' H' s p C => SqL.of (C.sub _ _ (s _ _ e2))) e3)⟩
    | slst xs =>
      obtain ⟨a, vs, e1, e2, e3⟩ := r
      exact ⟨a, e1, ⟨vs, by rw [hK]; exact sql_same c.sub e2⟩, q1 B1 A1 H1 _ Ext.refl c (itOk_seqL (fun B' A' L' H' s p C => by rw [hK]; exact sql_same C.sub (sql_same s e2)) e3)⟩
    | _ => exact q1.elim
  | loc n =>
    cases hc : L1[n]? with
    | none =>
      simp only [hc] at q1
      exact q1.elim
    | some d =>
      cases d with
      | lst xs =>
        simp only [hc] at q1
        obtain ⟨a, ha, eu⟩ := r
        obtain ⟨o, e3, vs, rfl, e5⟩ := c.cell ha hc
        refine ⟨a, eu, ⟨vs, SqL.of e3⟩, q1 B1 A1 H1 _ Ext.refl c fun i B' A' L' H' s p C => ⟨fun e f => ?_, fun x hx => ?_⟩⟩
        · have f1 : (match L'[n]? with | some (.lst ys) => ys.length == xs.length | _ => false) = true := f
          cases hc' : L'[n]? with
          | none =>
            rw [hc'] at f1
            cases f1
          | some d =>
            rw [hc'] at f1
            cases d with
            | lst ys =>
              obtain ⟨o, e3, vs', rfl, e6⟩ := C.cell (p.get ha) hc'
              refine ⟨vs', SqL.of e3, ?_⟩
              have f2 : (ys.length == xs.length) = true := f1
              have f3 : i = xs.length := e
              rw [e6.len, eq_of_beq f2, f3]
              exact Nat.le_refl _
            | _ => cases f1
        · have f1 : (match L'[n]? with | some (.lst ys) => if ys.length = xs.length then ys[i]? else none | _ => none) = some x := hx
          cases hc' : L'[n]? with
          | none =>
            rw [hc'] at f1
            cases f1
          | some d =>
            rw [hc'] at f1
            cases d with
            | lst ys =>
              have f2 : (if ys.length = xs.length then ys[i]? else none) = some x := f1
              by_cases hl : ys.length = xs.length
              · rw [if_pos hl] at f2
                obtain ⟨o, e3, vs', rfl, e6⟩ := C.cell (p.get ha) hc'
                obtain ⟨v, g1, g2⟩ := Reps.get e6 f2
                refine ⟨⟨vs', v, SqL.of e3, g1⟩, fun w H2 y => ?_⟩
                obtain ⟨e, y⟩ := y
                have e7 := y vs' (SqL.of e3)
                rw [g1] at e7
                cases e7
                exact yld_same C e g2
              · rw [if_neg hl] at f2
                cases f2
            | _ => cases f1
      | _ =>
        simp only [hc] at q1
        exact q1.elim
theorem qi_tup (h : QE G X Φ W e m) (hK : X.K = G.K := by rfl) : QI G X Φ W tg e (iT m) := by
  obtain ⟨te, pe, k⟩ := h
  refine ⟨_, pi_tup pe, fun σ H B A ρ L R S q => k σ H B A ρ L _ S (RP.bind q fun v L1 B1 A1 H1 u x c r q1 => ?_)⟩
  cases v with
  | d x =>
    cases x with
    | tup xs =>
      obtain ⟨a, vs, e1, e2, e3⟩ := r
      exact ⟨a, e1, ⟨vs, SqT.of (c.sub _ _ e2)⟩, q1 B1 A1 H1 _ Ext.refl c (itOk_seqT (fun B' A' L' H' s p C => SqT.of (C.sub _ _ (s _ _ e2))) e3)⟩
    | stup xs =>
      obtain ⟨a, vs, e1, e2, e3⟩ := r
      exact ⟨a, e1, ⟨vs, by rw [hK]; exact sqt_same c.sub e2⟩, q1 B1 A1 H1 _ Ext.refl c (itOk_seqT (fun B' A' L' H' s p C => by rw [hK]; exact sqt_same C.sub (sqt_same s e2)) e3)⟩
    | _ => exact q1.elim
  | loc n => exact q1.elim
theorem small_ok {i : Int} (h : small i = true) : -(2 ^ 62) ≤ i ∧ i < 2 ^ 62 := by
  unfold small at h
  rw [Bool.and_eq_true, decide_eq_true_eq, decide_eq_true_eq] at h
  exact h
theorem itOk_range {B : Hp} {A : List Addr} {lo : Int} {n : Nat} {xs : List D} (hl : xs.length = n) (hx : ∀ (i : Nat) x, xs[i]? = some x → x = .int (lo + i)) : ItOk G B A (.vals xs) (Itr lo n) := fun i B' A' L' H' s p C =>
  ⟨fun e _ => Nat.le_of_eq (by rw [← hl]; exact e.symm), fun x h => by
    have h' : xs[i]? = some x := h
    have hi : i < xs.length := (List.getElem?_eq_some_iff.mp h').1
    refine ⟨by rw [hl] at hi; exact hi, fun v H2 y => ?_⟩
    obtain ⟨e, y⟩ := y
    subst y
    rw [hx i x h']
    exact yld_same C e rfl⟩
theorem rangeL_len (lo hi : Int) : (rangeL lo hi).length = (hi - lo).toNat := by simp [rangeL]
theorem rangeL_get (lo hi : Int) (i : Nat) (x : D) (h : (rangeL lo hi)[i]? = some x) : x = .int (lo + i) := by
  unfold rangeL at h
  rw [List.getElem?_map] at h
  cases e : (List.range (hi - lo).toNat)[i]? with
  | none =>
    rw [e] at h
    cases h
  | some k =>
    rw [e] at h
    have h2 : D.int (lo + (k : Int)) = x := Option.some.inj h
    have h1 : k = i := by
      obtain ⟨z, e2⟩ := List.getElem?_eq_some_iff.mp e
      rw [List.getElem_range] at e2
      exact e2.symm
    rw [← h2, h1]
theorem qi_range1 {a : Expr} {ma : DE} {p : Pos} (ha : QE G X Φ W a ma) (hg : Gl X "range") (hm : X.mg "range" = none) (hs : starEach [a] X.env = [(false, eval a X.env)] := by rfl) : QI G X Φ W tg (.Call (.Name "range" p) [a] [] pos) (iRange1 ma) := by
  obtain ⟨ta, pa, k⟩ := ha
  refine ⟨_, pi_range1 hg hm (pa_cons pa pa_nil hs) hs, fun σ H B A ρ L R S q => k σ H B A ρ L _ S (RP.bind q fun v L1 B1 A1 H1 u x c r q1 => ?_)⟩
  cases v with
  | loc n => exact q1.elim
  | d y =>
    cases y with
    | int j =>
      obtain rfl : u = .int j := r
      have q2 : RP G (RelJ G) (if small j = true then .ok (.vals (rangeL 0 j)) L1 else .bad) B1 A1 H1 R (fun c d H' => W c d σ H') := q1
      by_cases hj : small j = true
      · rw [if_pos hj] at q2
        obtain ⟨h1, h2⟩ := small_ok hj
        exact ⟨j, rfl, h1, h2, q2 B1 A1 H1 _ Ext.refl c (itOk_range (by rw [rangeL_len, Int.sub_zero]) (rangeL_get 0 j))⟩
      · rw [if_neg hj] at q2
        exact q2.elim
    | _ => exact q1.elim
theorem qi_range2 {a b : Expr} {ma mb : DE} {p : Pos} (ha : QE G X Φ W a ma) (hb : QE G X Φ W b mb) (hg : Gl X "range") (hm : X.mg "range" = none) (hs : starEach [a, b] X.env = [(false, eval a X.env), (false, eval b X.env)] := by rfl) (hs2 : starEach [b] X.env = [(false, eval b X.env)] := by rfl) :
    QI G X Φ W tg (.Call (.Name "range" p) [a, b] [] pos) (iRange2 ma mb) := by
  obtain ⟨ta, pa, ka⟩ := ha
  obtain ⟨tb, pb, kb⟩ := hb
  refine ⟨_, pi_range2 hg hm (pa_cons pa (pa_cons pb pa_nil hs2) (by rw [hs, hs2])) hs hs2, fun σ H B A ρ L R S q => ka σ H B A ρ L _ S (RP.bind q fun v L1 B1 A1 H1 u x c r q1 => kb σ H1 B1 A1 ρ L1 _ (S.step x c) (RP.bind q1 fun w L2 B2 A2 H2 z x2 c2 r2 q2 => ?_))⟩
  cases v with
  | loc n => exact q2.elim
  | d y =>
    cases y with
    | int i =>
      obtain rfl : u = .int i := r
      cases w with
      | loc n => exact q2.elim
      | d y =>
        cases y with
        | int j =>
          obtain rfl : z = .int j := r2
          have q3 : RP G (RelJ G) (if (small i && small j) = true then .ok (.vals (rangeL i j)) L2 else .bad) B2 A2 H2 R (fun c d H' => W c d σ H') := q2
          by_cases hj : (small i && small j) = true
          · rw [if_pos hj] at q3
            obtain ⟨j1, j2⟩ := Bool.and_eq_true_iff.mp hj
            obtain ⟨h1, h2⟩ := small_ok j1
            obtain ⟨h3, h4⟩ := small_ok j2
            exact ⟨i, j, rfl, ⟨h1, h2, h3, h4⟩, q3 B2 A2 H2 _ Ext.refl c2 (itOk_range (rangeL_len i j) (rangeL_get i j))⟩
          · rw [if_neg hj] at q3
            exact q3.elim
        | _ => exact q2.elim
    | _ => exact q2.elim
/-! ### for -/
theorem bodyFP {f : Flow} {B : Hp} {A : List Addr} {H : Hp} {D : Ends} {N : L2.St → Hp → Prop} {k : Env → Led → Flow} (h : FP G Φ W (match f with
    | .next ρ2 L2 => k ρ2 L2
    | .cont ρ2 L2 => k ρ2 L2
    | .brk ρ2 L2 => .next ρ2 L2
    | f => f) B A H D) (q : ∀ ρ2 L2 B2 A2 H2 σ2, Ext B A H B2 A2 H2 → StR G Φ B2 A2 ρ2 L2 σ2 H2 → FP G Φ W (k ρ2 L2) B2 A2 H2 D → N σ2 H2) : FP G Φ W f B A H { D with nx := N, ct := N, bk := D.nx } := by
  cases f with
  | next ρ L => exact fun B' A' H' σ' x s => q ρ L B' A' H' σ' x s (FP.ext x h)
  | ret v L => exact h
  | brk ρ L => exact h
  | cont ρ L => exact fun B' A' H' σ' x s => q ρ L B' A' H' σ' x s (FP.ext x h)
  | exc c xs ρ L => exact h
  | bad => exact h
theorem qs_for {iter : Expr} {body : List Stmt} {mi : DI} {p : Pat} {t : DS} (hp : PassesOwn (model X.prog X.w) X.A X.env X.xe) (hc : X.calm = true) (hi : QI G X Φ W tg iter mi) (hg : QG G X tg p) (hb : QSs G X Φ W body t)
    (hs : ∀ x, foldedSetIterable iter X.env x = pure x := by intro _; rfl) (hoff : p.off Φ.off = true := by rfl) : QS G X Φ W (.For tg iter body [] pos) (sFor mi p t) := by
  obtain ⟨wi, pi, ki⟩ := hi
  obtain ⟨g, pg, kg⟩ := hg
  obtain ⟨tb, pb, kb⟩ := hb
  refine ⟨_, ps_for hp hc pi pg pb hs, fun σ H B A ρ L D S q => ki σ H B A ρ L _ S (FP.flow S q fun src L1 B1 A1 H1 J x1 s1 ok q1 => ?_)⟩
  refine ⟨fun i m σ' H' => ∃ B' A' ρ' L', Ext B1 A1 H1 B' A' H' ∧ StR G Φ B' A' ρ' L' σ' H' ∧ i + m = src.len ∧ FP G Φ W (forK src p t m i ρ' L') B' A' H' D, ⟨src.len, B1, A1, ρ, L1, Ext.refl, s1, Nat.zero_add _, q1⟩, ?_⟩
  rintro i m σ' H' ⟨B', A', ρ', L', x, s, e, f⟩
  obtain ⟨z1, z2⟩ := ok i B' A' L' H' x.base x.Pre s.ctx
  cases m with
  | zero =>
    have f1 : FP G Φ W (if src.fin L' = true then .next ρ' L' else .bad) B' A' H' D := f
    by_cases hf : src.fin L' = true
    · rw [if_pos hf] at f1
      exact .inl ⟨z1 e hf, f1 B' A' H' σ' Ext.refl s⟩
    · rw [if_neg hf] at f1
      exact f1.elim
  | succ k =>
    have f1 : FP G Φ W (match src.get L' i with
      | none => .bad
      | some v => match bindP p v ρ' with
        | none => .bad
        | some ρ1 => match t ρ1 L' with
          | .next ρ2 L2 => forK src p t k (i + 1) ρ2 L2
          | .cont ρ2 L2 => forK src p t k (i + 1) ρ2 L2
          | .brk ρ2 L2 => .next ρ2 L2
          | f => f) B' A' H' D := f
    cases e1 : src.get L' i with
    | none =>
      rw [e1] at f1
      exact f1.elim
    | some v =>
      rw [e1] at f1
      cases e2 : bindP p v ρ' with
      | none =>
        simp only [e2] at f1
        exact f1.elim
      | some ρ1 =>
        simp only [e2] at f1
        obtain ⟨go, yl⟩ := z2 v e1
        refine .inr ⟨go, _, fun _ _ n => n, fun w H2 y => ?_⟩
        obtain ⟨B2, x2, c2, r2⟩ := yl w H2 y
        refine kg Φ v w ρ' ρ1 σ' B2 H2 A' L' _ hoff (s.step x2 c2) r2 e2 fun σ1 S1 _ => ?_
        refine kb σ1 H2 B2 A' ρ1 L' _ S1 (bodyFP (FP.ext x2 f1) fun ρ3 L3 B3 A3 H3 σ3 x3 s3 f3 => ?_)
        exact ⟨k, Nat.lt_succ_self k, B3, A3, ρ3, L3, (x.trans x2).trans x3, s3, by omega, f3⟩
end
end Dl

set_option Elab.async false
set_option linter.all false
set_option maxRecDepth 100000
/-! Sc: while, comprehensions, texts walked. -/
namespace Dl
open PySem PySem.Spec PyProof.Rows L2
section
variable {G : Cfg} {X : Cx} {Φ : Ph} {W : WX} {pos : Pos} {tg e : Expr} {m : DE}
theorem qs_while {c : Expr} {body : List Stmt} {mc : DT} {t : DS} (hp : PassesOwn (model X.prog X.w) X.A X.env X.xe) (hc : QT G X Φ W c mc) (hb : QSs G X Φ W body t) : QS G X Φ W (.While c body [] pos) (sWhile mc t) := by
  obtain ⟨tc, pc, kc⟩ := hc
  obtain ⟨tb, pb, kb⟩ := hb
  refine ⟨_, ps_while hp pc pb, fun σ H B A ρ L D S q => ?_⟩
  refine ⟨fun m σ' H' => ∃ B' A' ρ' L', StR G Φ B' A' ρ' L' σ' H' ∧ FP G Φ W (whileK mc t m ρ' L') B' A' H' D, ⟨_, B, A, ρ, L, S, q⟩, ?_⟩
  rintro m σ' H' ⟨B', A', ρ', L', s, f⟩
  cases m with
  | zero => exact f.elim
  | succ k =>
    have f1 : FP G Φ W ((mc ρ' L').flow ρ' fun b L1 => if b = true then (match t ρ' L1 with
        | .next ρ2 L2 => whileK mc t k ρ2 L2
        | .cont ρ2 L2 => whileK mc t k ρ2 L2
        | .brk ρ2 L2 => .next ρ2 L2
        | f => f) else .next ρ' L1) B' A' H' D := f
    refine kc σ' H' B' A' ρ' L' _ s (FP.flow s f1 fun b L1 B1 A1 H1 b' x1 s1 r1 q1 => ?_)
    obtain rfl : b = b' := r1
    cases b with
    | true =>
      refine ⟨_, fun _ _ n => n, ?_⟩
      refine kb σ' H1 B1 A1 ρ' L1 _ s1 (bodyFP (k := whileK mc t k) q1 fun ρ3 L3 B3 A3 H3 σ3 x3 s3 f3 => ?_)
      exact ⟨k, Nat.lt_succ_self k, B3, A3, ρ3, L3, s3, f3⟩
    | false => exact q1 B1 A1 H1 σ' Ext.refl s1
theorem qi_str (h : QE G X Φ W e m) : QI G X Φ W tg e (iS m) := by
  obtain ⟨te, pe, k⟩ := h
  refine ⟨_, pi_str pe, fun σ H B A ρ L R S q => k σ H B A ρ L _ S (RP.bind q fun v L1 B1 A1 H1 u x c r q1 => ?_)⟩
  cases v with
  | loc n => exact q1.elim
  | d y =>
    cases y with
    | str s =>
      obtain rfl : u = .str (sOf s) := r
      refine ⟨sOf s, rfl, q1 B1 A1 H1 _ Ext.refl c fun i B' A' L' H' sm p C => ⟨fun e _ => ?_, fun x hx => ?_⟩⟩
      · have e1 : i = (signs s).length := e
        show (sOf s).cps.size ≤ i
        rw [e1]
        simp [sOf, signs]
      · have hx' : (signs s)[i]? = some x := hx
        unfold signs at hx'
        rw [List.getElem?_map] at hx'
        cases e : s[i]? with
        | none =>
          rw [e] at hx'
          cases hx'
        | some ch =>
          rw [e] at hx'
          have e2 : D.str [ch] = x := Option.some.inj hx'
          have hi : i < s.length := (List.getElem?_eq_some_iff.mp e).1
          refine ⟨by show i < (sOf s).cps.size; simpa [sOf] using hi, fun v H2 y => ?_⟩
          obtain ⟨e3, c', e4, e5⟩ := y
          refine yld_same C e3 ?_
          have e6 : (sOf s).cps[i]? = s[i]? := by simp [sOf]
          rw [e6, e] at e4
          have e7 : ch = c' := Option.some.inj e4
          rw [← e2, e5, ← e7]
          rfl
    | _ => exact q1.elim

/-! ### comprehensions -/
/-- the new list D stands beside what is told -/
theorem Ext.beside {B B' : Hp} {A A' : List Addr} {H H' : Hp} {D : Addr} {o : HO} (x : Ext B A H B' A' H') (n : H D = none) : Ext B A H B' A' (upd H' D o) :=
  ⟨x.base, x.pre, fun a u e h => by rw [upd_ne (ne_of_none e n)]; exact x.fr a u e h, fun a u e => by
    obtain ⟨o', e'⟩ := x.there a u e
    exact ⟨o', by rw [upd_ne (ne_of_none e n)]; exact e'⟩, x.grow⟩
theorem Ctx.beside {B : Hp} {A : List Addr} {L : Led} {H : Hp} {D : Addr} {o : HO} (C : Ctx G B A L H) (hB : B D = none) (hA : D ∉ A) : Ctx G B A L (upd H D o) :=
  ⟨C.len, fun a u e => by rw [upd_ne (ne_of_none e hB)]; exact C.sub a u e, C.nd, fun n a c ha hc => by
    obtain ⟨u, e, r⟩ := C.at_ n a c ha hc
    refine ⟨u, ?_, r⟩
    rw [upd_ne fun (z : a = D) => hA (by rw [← z]; exact List.mem_of_getElem? ha)]
    exact e, C.off, C.fz⟩
/-- D becomes a cell -/
theorem Ctx.adopt {B : Hp} {A : List Addr} {L : Led} {H : Hp} {D : Addr} {o : HO} {c : Cell} (C : Ctx G B A L H) (hD : H D = some o) (hB : B D = none) (hA : D ∉ A) (hc : CRep G B A c o) (hlv : c.live = true := by rfl) : Ctx G B (A ++ [D]) (L ++ [c]) H ∧ (A ++ [D])[L.length]? = some D := by
  have lst : ∀ {n : Nat} {a : Addr}, (A ++ [D])[n]? = some a → (n < A.length ∧ A[n]? = some a) ∨ (n = A.length ∧ a = D) := fun {n a} h => by
    by_cases q : n < A.length
    · rw [List.getElem?_append_left q] at h
      exact .inl ⟨q, h⟩
    · have q2 : n < (A ++ [D]).length := (List.getElem?_eq_some_iff.mp h).1
      rw [List.length_append, List.length_singleton] at q2
      have q3 : n = A.length := by omega
      subst q3
      rw [List.getElem?_append_right (Nat.le_refl _)] at h
      simp at h
      exact .inr ⟨rfl, h.symm⟩
  have nfz : ∀ (n : Nat) a d, (A ++ [D])[n]? = some a → (L ++ [c])[n]? = some (.fz d) → ∃ o, B a = some o := fun n a d ha hd => by
    rcases lst ha with ⟨q, ha⟩ | ⟨q, rfl⟩
    · rw [List.getElem?_append_left (by rw [← C.len]; exact q)] at hd
      exact C.fz n a d ha hd
    · subst q
      rw [C.len, List.getElem?_append_right (Nat.le_refl _)] at hd
      simp at hd
      rw [hd] at hlv
      cases hlv
  refine ⟨⟨by rw [List.length_append, List.length_append, C.len]; rfl, C.sub, ?_, fun n a c' ha hc' => ?_, fun n a c' ha hc' hd => ?_, nfz⟩, ?_⟩
  · rw [List.nodup_append]
    refine ⟨C.nd, by simp, fun a h b h' => ?_⟩
    rw [List.mem_singleton.mp h']
    exact fun q => hA (q ▸ h)
  · rcases lst ha with ⟨q, ha⟩ | ⟨q, rfl⟩
    · rw [List.getElem?_append_left (by rw [← C.len]; exact q)] at hc'
      obtain ⟨u, e, r⟩ := C.at_ n a c' ha hc'
      exact ⟨u, e, r.mono (fun _ _ e => e) ⟨[D], rfl⟩⟩
    · subst q
      rw [C.len, List.getElem?_append_right (Nat.le_refl _)] at hc'
      simp at hc'
      subst hc'
      exact ⟨o, hD, hc.mono (fun _ _ e => e) ⟨[a], rfl⟩⟩
  · rcases lst ha with ⟨q, ha⟩ | ⟨q, rfl⟩
    · rw [List.getElem?_append_left (by rw [← C.len]; exact q)] at hc'
      exact C.off n a c' ha hc' hd
    · exact hB
  · rw [← C.len, List.getElem?_append_right (Nat.le_refl _)]
    simp
/-- D becomes data -/
theorem Ctx.settle {B : Hp} {A : List Addr} {L : Led} {H : Hp} {D : Addr} {o : HO} (C : Ctx G B A L H) (hD : H D = some o) (hB : B D = none) (hA : D ∉ A) : Ctx G (upd B D o) A L H :=
  ⟨C.len, fun a u e => by
    by_cases z : a = D
    · subst z
      rw [upd_same] at e
      rw [hD, e]
    · rw [upd_ne z] at e
      exact C.sub a u e, C.nd, fun n a c ha hc => by
    obtain ⟨u, e, r⟩ := C.at_ n a c ha hc
    exact ⟨u, e, r.mono (fun b v z => by rw [upd_ne (ne_of_none z hB)]; exact z) (Pre.refl A)⟩, fun n a c ha hc hd => by
    rw [upd_ne fun (z : a = D) => hA (by rw [← z]; exact List.mem_of_getElem? ha)]
    exact C.off n a c ha hc hd, fun n a c ha hc => by
    obtain ⟨u, e⟩ := C.fz n a c ha hc
    exact ⟨u, by rw [upd_ne (ne_of_none e hB)]; exact e⟩⟩
theorem EnvR.wipe {B : Hp} {A : List Addr} {ρ : Env} {σ : L2.St} (e : EnvR G B A ρ σ) : ∀ vs : List Nat, EnvR G B A (Dl.wipe ρ vs) (L2.wipe σ vs)
  | [] => e
  | v :: vs => (EnvR.wipe e vs).forget v none

theorem wipe_wipe (σ : L2.St) (vs : List Nat) : L2.wipe (L2.wipe σ vs) vs = L2.wipe σ vs := by
  apply List.ext_getElem?
  intro j
  rw [wipe_get, wipe_get, L2.wipe_length]
  by_cases z : j ∈ vs ∧ j < σ.length
  · rw [if_pos z, if_pos z]
  · rw [if_neg z, if_neg z]
/-- the weakest readings -/
def eOf (G : Cfg) (Φ : Ph) (W : WX) (m : DE) : TE := fun σ H Q => ∃ B A ρ L, StR G Φ B A ρ L σ H ∧ RPV G (m ρ L) B A H Q (fun c d H' => W c d σ H')
def tOf (G : Cfg) (Φ : Ph) (W : WX) (m : DT) : TT := fun σ H Q => ∃ B A ρ L, StR G Φ B A ρ L σ H ∧ RPB G (m ρ L) B A H Q (fun c d H' => W c d σ H')
def gOf (G : Cfg) (p : Pat) : TG := fun v σ H Q => ∃ (Φ : Ph) (x : D) (ρ ρ1 : Env) (B : Hp) (A : List Addr) (L : Led), p.off Φ.off = true ∧ StR G Φ B A ρ L σ H ∧ Rep G B x v ∧ bindP p x ρ = some ρ1 ∧ (∀ σ1, StR G Φ B A ρ1 L σ1 H → (∀ own, p.inn own = true → L2.wipe σ1 own = L2.wipe σ own) → Q σ1 H)
theorem QE.can (h : QE G X Φ W e m) : PE X e (eOf G Φ W m) := by
  obtain ⟨te, p, k⟩ := h
  exact ⟨fun pins s σ H Q I ⟨B, A, ρ, L, S, q⟩ => p.run pins s σ H Q I (k σ H B A ρ L Q S q)⟩
theorem QT.can {t : DT} (h : QT G X Φ W e t) : PT X e (tOf G Φ W t) := by
  obtain ⟨te, p, k⟩ := h
  exact ⟨fun pins s σ H Q I ⟨B, A, ρ, L, S, q⟩ => p.run pins s σ H Q I (k σ H B A ρ L Q S q)⟩
theorem QG.can {p : Pat} (h : QG G X e p) : PG X e (gOf G p) := by
  obtain ⟨g, pg, k⟩ := h
  exact ⟨fun pins s σ H v u Q I r ⟨Φ, x, ρ, ρ1, B, A, L, ho, S, rx, e, q⟩ => pg.run pins s σ H v u Q I r (k Φ x v ρ ρ1 σ B H A L Q ho S rx e q)⟩
def NoW : WX := fun _ _ _ _ => False
/-- the tests of a block -/
def QTs (G : Cfg) (X : Cx) (Φ : Ph) (W : WX) (es : List Expr) (m : DT) : Prop := ∃ tt, PTs X es tt ∧ TR G Φ W tt m
theorem qts_nil : QTs G X Φ W [] tYes := ⟨_, pts_nil, fun σ H B A ρ L Q S q => q B A H true Ext.refl S.ctx rfl⟩
theorem qts_one {t : DT} (h : QT G X Φ W e t) : QTs G X Φ W [e] t := by
  obtain ⟨tt, p, k⟩ := h
  exact ⟨_, pts_one p, k⟩
theorem QTs.can {es : List Expr} {t : DT} (h : QTs G X Φ W es t) : PTs X es (tOf G Φ W t) := by
  obtain ⟨te, p, k⟩ := h
  exact ⟨fun pins s σ H Q I ⟨B, A, ρ, L, S, q⟩ => p.run pins s σ H Q I (k σ H B A ρ L Q S q)⟩
theorem Ph.wipe (Φ : Ph) {B : Hp} {σ : L2.St} (h : Φ.p B σ) : ∀ vs : List Nat, vs.all Φ.off = true → Φ.p B (L2.wipe σ vs)
  | [], _ => h
  | v :: vs, ho => by
    rw [List.all_cons, Bool.and_eq_true] at ho
    exact Φ.keep _ _ _ _ ho.1 (Ph.wipe Φ h vs ho.2)
theorem lc_read {wi : TI} {mi : DI} {p : Pat} {mc : DT} {me : DE} {vs : List Nat} (box : Bool) (ki : IR G Φ W wi mi) (hp : p.inn vs = true) (ho : p.off Φ.off = true) (hov : vs.all Φ.off = true) : ER G Φ W (tLc wi (gOf G p) (tOf G Φ NoW mc) (eOf G Φ NoW me) vs) (eComp box mi p vs mc me) := fun σ H B A ρ L Q S q => by
  refine ki σ H B A ρ L _ S (RP.bind q fun src L1 B1 A1 H1 J x1 c1 ok q1 => ?_)
  intro D hD
  have s1 := S.step x1 c1
  have hB1 : B1 D = none := by
    cases e : B1 D with
    | none => rfl
    | some o =>
      rw [c1.sub _ _ e] at hD
      cases hD
  have hA1 : D ∉ A1 := fun h => by
    obtain ⟨u, e⟩ := c1.mem h
    rw [hD] at e
    cases e
  let P (i k : Nat) (H' : Hp) : Prop := ∃ B' A' L' acc ws, Ext B1 A1 H1 B' A' H' ∧ Ctx G B' A' L' H' ∧ H' D = some (.lst ws) ∧ D ∉ A' ∧ B' D = none ∧ Reps G B' acc ws ∧ i + k = src.len ∧ RP G (RepR G) ((compK src p mc me (Dl.wipe ρ vs) k i acc L').bind fun ys L2 => mkL box ys L2) B1 A1 H1 Q (fun c d H' => W c d σ H')
  -- a step that leaves D
  have keep : ∀ {B' A' H' B2 A2 H2 ws}, H' D = some (.lst ws) → D ∉ A' → B' D = none → Ext B' A' H' B2 A2 H2 → H2 D = some (.lst ws) ∧ D ∉ A2 ∧ B2 D = none := fun {B' A' H' B2 A2 H2 ws} h1 h2 h3 x => by
    refine ⟨x.fr _ _ h1 h2, fun h => ?_, ?_⟩
    · obtain ⟨N, e, n⟩ := x.pre
      rw [e] at h
      rcases List.mem_append.mp h with h | h
      · exact h2 h
      · have := n D h
        rw [h1] at this
        cases this
    · cases e : B2 D with
      | none => rfl
      | some o =>
        rcases x.grow D o e with h | h | h | h
        · rw [h3] at h
          cases h
        · rw [h1] at h
          cases h
        · exact absurd h h2
        · obtain ⟨_, h⟩ := h
          rw [h1] at h
          cases h
  refine ⟨P, ⟨src.len, B1, A1, L1, [], [], (Ext.refl (B := B1) (A := A1) (H := H1)).beside hD, c1.beside hB1 hA1, upd_same, hA1, hB1, rfl, Nat.zero_add _, q1⟩, ?_⟩
  rintro i k H' ⟨B', A', L', acc, ws, x, c, hd, ha, hb, ra, ei, f⟩
  obtain ⟨z1, z2⟩ := ok i B' A' L' H' x.base x.Pre c
  cases k with
  | zero =>
    have f1 : RP G (RepR G) ((if src.fin L' = true then (.ok acc L' : Res (List Dl.D)) else .bad).bind fun ys L2 => mkL box ys L2) B1 A1 H1 Q (fun c d H' => W c d σ H') := f
    by_cases hf : src.fin L' = true
    · rw [if_pos hf] at f1
      refine .inl ⟨z1 ei hf, ?_⟩
      cases box with
      | true =>
        have f2 : RPV G (.ok (.loc L'.length) (L' ++ [.lst acc])) B1 A1 H1 Q (fun c d H' => W c d σ H') := f1
        obtain ⟨c2, g2⟩ := c.adopt hd hb ha (c := .lst acc) ⟨ws, rfl, ra⟩
        obtain ⟨N, eN, nN⟩ := x.pre
        refine f2 B' (A' ++ [D]) H' (.ref D) ⟨x.base, ⟨N ++ [D], by rw [eN, List.append_assoc], fun a h => ?_⟩, x.fr, x.there, x.grow⟩ c2 ⟨D, g2, rfl⟩
        rcases List.mem_append.mp h with h | h
        · exact nN a h
        · rw [List.mem_singleton.mp h]
          exact hD
      | false =>
        have f2 : RPV G (.ok (.d (.lst acc)) L') B1 A1 H1 Q (fun c d H' => W c d σ H') := f1
        have sm : Same B' (upd B' D (.lst ws)) := fun b v z => by rw [upd_ne (ne_of_none z hb)]; exact z
        refine f2 (upd B' D (.lst ws)) A' H' (.ref D) ⟨fun a o e => sm _ _ (x.base _ _ e), x.pre, x.fr, x.there, fun a o e => ?_⟩ (c.settle hd hb ha) ⟨D, ws, rfl, upd_same, Reps.mono sm _ _ ra⟩
        by_cases z : a = D
        · rw [z]
          exact .inr (.inl hD)
        · rw [upd_ne z] at e
          exact x.grow a o e
    · rw [if_neg hf] at f1
      exact f1.elim
  | succ k =>
    have f1 : RP G (RepR G) ((match src.get L' i with
      | none => (.bad : Res (List Dl.D))
      | some v => match bindP p v (Dl.wipe ρ vs) with
        | none => (.bad : Res (List Dl.D))
        | some ρ1 => match mc ρ1 L' with
          | .ok true L1 => (match me ρ1 L1 with
            | .ok (.d y) L2 => if acc.length < SZ then compK src p mc me (Dl.wipe ρ vs) k (i + 1) (acc ++ [y]) L2 else .bad
            | _ => .bad)
          | .ok false L1 => compK src p mc me (Dl.wipe ρ vs) k (i + 1) acc L1
          | _ => (.bad : Res (List Dl.D))).bind fun ys L2 => mkL box ys L2) B1 A1 H1 Q (fun c d H' => W c d σ H') := f
    cases e1 : src.get L' i with
    | none =>
      rw [e1] at f1
      exact f1.elim
    | some v =>
      rw [e1] at f1
      cases e2 : bindP p v (Dl.wipe ρ vs) with
      | none =>
        simp only [e2] at f1
        exact f1.elim
      | some ρ1 =>
        simp only [e2] at f1
        obtain ⟨go, yl⟩ := z2 v e1
        refine .inr ⟨go, P (i + 1) k, fun H3 h3 => ⟨k, Nat.lt_succ_self k, h3⟩, fun w H2 y => ?_⟩
        obtain ⟨B2, x2, c2, r2⟩ := yl w H2 y
        obtain ⟨hd2, ha2, hb2⟩ := keep hd ha hb x2
        have xx2 := x.trans x2
        have st2 : StR G Φ B2 A' (Dl.wipe ρ vs) L' (L2.wipe σ vs) H2 := ⟨Φ.wipe (Φ.mono _ _ _ xx2.base s1.phi) vs hov, (s1.env.mono xx2.base xx2.Pre).wipe vs, c2⟩
        refine ⟨Φ, v, Dl.wipe ρ vs, ρ1, B2, A', L', ho, st2, r2, e2, fun σ1 S1 w1 => ⟨by rw [w1 vs hp, wipe_wipe], ?_⟩⟩
        refine ⟨B2, A', ρ1, L', S1, ?_⟩
        cases e3 : mc ρ1 L' with
        | exc c xs L => rw [e3] at f1; exact f1.elim
        | bad => rw [e3] at f1; exact f1.elim
        | ok b L3 =>
          rw [e3] at f1
          intro B3 A3 H3 b' x3 c3 eb
          obtain rfl : b = b' := eb
          obtain ⟨hd3, ha3, hb3⟩ := keep hd2 ha2 hb2 x3
          cases b with
          | false => exact ⟨B3, A3, L3, acc, ws, xx2.trans x3, c3, hd3, ha3, hb3, Reps.mono (fun b v z => x3.base _ _ (x2.base _ _ z)) _ _ ra, by omega, f1⟩
          | true =>
            refine ⟨B3, A3, ρ1, L3, S1.step x3 c3, ?_⟩
            cases e4 : me ρ1 L3 with
            | exc c xs L => simp only [e4] at f1; exact f1.elim
            | bad => simp only [e4] at f1; exact f1.elim
            | ok u L4 =>
              simp only [e4] at f1
              intro B4 A4 H4 v4 x4 c4 r4
              cases u with
              | loc n => exact f1.elim
              | d y =>
                have f2 : RP G (RepR G) ((if acc.length < SZ then compK src p mc me (Dl.wipe ρ vs) k (i + 1) (acc ++ [y]) L4 else .bad).bind fun ys L2 => mkL box ys L2) B1 A1 H1 Q (fun c d H' => W c d σ H') := f1
                obtain ⟨hd4, ha4, hb4⟩ := keep hd3 ha3 hb3 x4
                have ra4 : Reps G B4 acc ws := Reps.mono (fun b v z => x4.base _ _ (x3.base _ _ (x2.base _ _ z))) _ _ ra
                by_cases hz : acc.length < SZ
                · rw [if_pos hz] at f2
                  refine ⟨ws, hd4, by rw [ra4.len]; exact hz, B4, A4, L4, acc ++ [y], ws ++ [v4], ((xx2.trans x3).trans x4).beside hD, c4.beside hb4 ha4, upd_same, ha4, hb4, Reps.append (Reps.cons r4 Reps.nil) ra4, by omega, f2⟩
                · rw [if_neg hz] at f2
                  exact f2.elim
/-- [elt for tg in iter if ..] -/
theorem qe_comp {elt iter : Expr} {ifs : List Expr} {scope : Scope} {own : List (PySem.Str × Nat)} {mi : DI} {p : Pat} {mc : DT} {me : DE} (box : Bool) (hc : X.calm = true) (hN : X.N.Nodup) (hi : QI G X Φ W tg iter mi) (ok : BlkOk X.N X.env.scope scope own)
    (hg : ∀ (s : Shared) (H : Hp) (C : Addr) (cl : List (PySem.Str × Addr)) (fp : List Addr), QG G (X.blk s H scope (compEnvC scope cl C X.env) fp) tg p) (ht : ∀ (s : Shared) (H : Hp) (C : Addr) (cl : List (PySem.Str × Addr)) (fp : List Addr), QTs G (X.blk s H scope (compEnvC scope cl C X.env) fp) Φ NoW ifs mc)
    (he : ∀ (s : Shared) (H : Hp) (C : Addr) (cl : List (PySem.Str × Addr)) (fp : List Addr), QE G (X.blk s H scope (compEnvC scope cl C X.env) fp) Φ NoW elt me) (hp : p.inn (own.map (·.2)) = true := by rfl) (ho : p.off Φ.off = true := by rfl) (hov : (own.map (·.2)).all Φ.off = true := by rfl) (hs : ∀ x, foldedSetIterable iter X.env x = pure x := by intro _; rfl) :
    QE G X Φ W (.ListComp elt [⟨tg, iter, ifs, 0⟩] scope pos) (eComp box mi p (own.map (·.2)) mc me) := by
  obtain ⟨wi, pi, ki⟩ := hi
  exact ⟨_, pe_lc hc hN pi ok (fun s H C cl fp => (hg s H C cl fp).can) (fun s H C cl fp => (ht s H C cl fp).can) (fun s H C cl fp => (he s H C cl fp).can) hs, lc_read box ki hp ho hov⟩
/-- y = [elt for tg in iter if ..] -/
theorem qs_comp {i : Nat} {y : PySem.Str} {py : Pos} {spos : Pos} {elt iter : Expr} {ifs : List Expr} {scope : Scope} {own : List (PySem.Str × Nat)} {mi : DI} {p : Pat} {mc : DT} {me : DE} (box : Bool) (hc : X.calm = true) (hN : X.N.Nodup) (hi : QI G X Φ W tg iter mi) (ok : BlkOk X.N X.env.scope scope own)
    (hg : ∀ (s : Shared) (H : Hp) (C : Addr) (cl : List (PySem.Str × Addr)) (fp : List Addr), QG G (X.blk s H scope (compEnvC scope cl C X.env) fp) tg p) (ht : ∀ (s : Shared) (H : Hp) (C : Addr) (cl : List (PySem.Str × Addr)) (fp : List Addr), QTs G (X.blk s H scope (compEnvC scope cl C X.env) fp) Φ NoW ifs mc)
    (he : ∀ (s : Shared) (H : Hp) (C : Addr) (cl : List (PySem.Str × Addr)) (fp : List Addr), QE G (X.blk s H scope (compEnvC scope cl C X.env) fp) Φ NoW elt me) (hp : p.inn (own.map (·.2)) = true := by rfl) (ho : p.off Φ.off = true := by rfl) (hov : (own.map (·.2)).all Φ.off = true := by rfl) (hoi : Φ.off i = true := by rfl) (hy : X.N[i]? = some y := by rfl) (hyl : X.env.scope.names.lookup y = some .local := by rfl)
    (hsw : swapsWith (.ListComp elt [⟨tg, iter, ifs, 0⟩] scope pos) (some (.Name y py)) spos.line X.env = pure true := by rfl) (hs : ∀ x, foldedSetIterable iter X.env x = pure x := by intro _; rfl) :
    QS G X Φ W (.Assign [.Name y py] (.ListComp elt [⟨tg, iter, ifs, 0⟩] scope pos) spos) (sAsg i (eComp box mi p (own.map (·.2)) mc me)) := by
  obtain ⟨wi, pi, ki⟩ := hi
  exact ⟨_, ps_setLc hc hN hy hyl hsw pi ok (fun s H C cl fp => (hg s H C cl fp).can) (fun s H C cl fp => (ht s H C cl fp).can) (fun s H C cl fp => (he s H C cl fp).can) hs, sr_asg (lc_read box ki hp ho hov) hoi⟩
end
end Dl

set_option Elab.async false
set_option linter.all false
set_option maxRecDepth 100000
/-! Sf: calls. -/
namespace Dl
open PySem PySem.Spec PyProof.Rows L2

/-! ### the cells of a call -/
theorem dedup_nd : ∀ (r s : List Nat), s.Nodup → (dedup s r).Nodup
  | [], s, h => h
  | n :: r, s, h => by
    unfold dedup
    by_cases z : n ∈ s
    · rw [if_pos z]
      exact dedup_nd r s h
    · rw [if_neg z]
      refine dedup_nd r _ ?_
      rw [List.nodup_append]
      exact ⟨h, by simp, fun a ha b hb => by
        rw [List.mem_singleton.mp hb]
        exact fun q => z (q ▸ ha)⟩
theorem dedup_pre : ∀ (r s : List Nat), ∃ t, dedup s r = s ++ t
  | [], s => ⟨[], by simp [dedup]⟩
  | n :: r, s => by
    unfold dedup
    by_cases z : n ∈ s
    · rw [if_pos z]
      exact dedup_pre r s
    · rw [if_neg z]
      obtain ⟨t, e⟩ := dedup_pre r (s ++ [n])
      exact ⟨n :: t, by rw [e, List.append_assoc]; rfl⟩
theorem dedup_new {k : Nat} : ∀ (r s t : List Nat), dedup (s ++ t) r = s ++ (dedup (s ++ t) r).drop s.length := fun r s t => by
  obtain ⟨u, e⟩ := dedup_pre r (s ++ t)
  rw [e, List.append_assoc, List.drop_left]
theorem reach_nd {L : Led} : ∀ (k : Nat) (s : List Nat), s.Nodup → (reach L k s).Nodup
  | 0, _, h => h
  | k + 1, s, h => reach_nd k _ (dedup_nd _ _ h)
theorem place_get {fp : List Nat} {n j : Nat} (h : place fp n = some j) : fp[j]? = some n := by
  unfold place at h
  rw [List.findIdx?_eq_some_iff_getElem] at h
  obtain ⟨h1, h2, _⟩ := h
  rw [List.getElem?_eq_getElem h1, eq_of_beq h2]
theorem picks_get {L : Led} : ∀ {fp : List Nat} {cs : List Cell}, picks L fp = some cs → cs.length = fp.length ∧ ∀ (j n : Nat), fp[j]? = some n → ∃ c, L[n]? = some c ∧ cs[j]? = some c
  | [], cs, h => by
    have e : [] = cs := Option.some.inj h
    rw [← e]
    exact ⟨rfl, fun j n e => by simp at e⟩
  | m :: r, cs, h => by
    have h1 : ((L[m]?).bind fun c => (picks L r).map (c :: ·)) = some cs := h
    cases e : L[m]? with
    | none =>
      rw [e] at h1
      cases h1
    | some c =>
      rw [e] at h1
      have h2 : (picks L r).map (c :: ·) = some cs := h1
      cases e2 : picks L r with
      | none =>
        rw [e2] at h2
        cases h2
      | some ds =>
        rw [e2] at h2
        have e3 : c :: ds = cs := Option.some.inj h2
        obtain ⟨l, g⟩ := picks_get (fp := r) e2
        rw [← e3]
        refine ⟨by rw [List.length_cons, List.length_cons, l], fun j n hj => ?_⟩
        cases j with
        | zero =>
          have e4 : m = n := Option.some.inj hj
          exact ⟨c, by rw [← e4]; exact e, rfl⟩
        | succ j => exact g j n hj
theorem crens_get {g : Nat → Option Nat} : ∀ {cs ds : List Cell}, crens g cs = some ds → ds.length = cs.length ∧ ∀ (j : Nat) d, ds[j]? = some d → ∃ c, cs[j]? = some c ∧ c.ren g = some d
  | [], ds, h => by
    have e : [] = ds := Option.some.inj h
    rw [← e]
    exact ⟨rfl, fun j n e => by simp at e⟩
  | c :: r, ds, h => by
    have h1 : ((c.ren g).bind fun y => (crens g r).map (y :: ·)) = some ds := h
    cases e : c.ren g with
    | none =>
      rw [e] at h1
      cases h1
    | some c' =>
      rw [e] at h1
      have h2 : (crens g r).map (c' :: ·) = some ds := h1
      cases e2 : crens g r with
      | none =>
        rw [e2] at h2
        cases h2
      | some es =>
        rw [e2] at h2
        have e3 : c' :: es = ds := Option.some.inj h2
        obtain ⟨l, k⟩ := crens_get (cs := r) e2
        rw [← e3]
        refine ⟨by rw [List.length_cons, List.length_cons, l], fun j d hj => ?_⟩
        cases j with
        | zero =>
          have e4 : c' = d := Option.some.inj hj
          exact ⟨c, rfl, by rw [← e4]; exact e⟩
        | succ j => exact k j d hj
section
variable {G : Cfg} {B : Hp} {A A2 : List Addr} {g : Nat → Option Nat}
theorem RepR.ren (h : ∀ n m a, g n = some m → A[n]? = some a → A2[m]? = some a) : ∀ {x y : Rv} {v : V}, x.ren g = some y → RepR G B A x v → RepR G B A2 y v
  | .d x, y, v, e, r => by
    have e1 : Rv.d x = y := Option.some.inj e
    rw [← e1]
    exact r
  | .loc n, y, v, e, ⟨a, ha, q⟩ => by
    have e1 : (g n).map Rv.loc = some y := e
    cases hg : g n with
    | none =>
      rw [hg] at e1
      cases e1
    | some m =>
      rw [hg] at e1
      have e2 : Rv.loc m = y := Option.some.inj e1
      rw [← e2]
      exact ⟨a, h n m a hg ha, q⟩
theorem RepRs.ren (h : ∀ n m a, g n = some m → A[n]? = some a → A2[m]? = some a) : ∀ {xs ys : List Rv} {vs : List V}, rens g xs = some ys → RepRs G B A xs vs → RepRs G B A2 ys vs
  | [], ys, vs, e, r => by
    have e1 : [] = ys := Option.some.inj e
    rw [← e1]
    exact r
  | x :: r, ys, _, e, ⟨v, ws, q, rx, t⟩ => by
    have e1 : ((x.ren g).bind fun y => (rens g r).map (y :: ·)) = some ys := e
    cases hx : x.ren g with
    | none =>
      rw [hx] at e1
      cases e1
    | some y =>
      rw [hx] at e1
      have e2 : (rens g r).map (y :: ·) = some ys := e1
      cases hr : rens g r with
      | none =>
        rw [hr] at e2
        cases e2
      | some zs =>
        rw [hr] at e2
        have e3 : y :: zs = ys := Option.some.inj e2
        rw [← e3]
        exact ⟨v, ws, q, rx.ren h hx, RepRs.ren h hr t⟩
theorem rens_len : ∀ {xs ys : List Rv}, rens g xs = some ys → ys.length = xs.length
  | [], ys, e => by
    have e1 : [] = ys := Option.some.inj e
    rw [← e1]
  | x :: r, ys, e => by
    have e1 : ((x.ren g).bind fun y => (rens g r).map (y :: ·)) = some ys := e
    cases hx : x.ren g with
    | none =>
      rw [hx] at e1
      cases e1
    | some y =>
      rw [hx] at e1
      have e2 : (rens g r).map (y :: ·) = some ys := e1
      cases hr : rens g r with
      | none =>
        rw [hr] at e2
        cases e2
      | some zs =>
        rw [hr] at e2
        have e3 : y :: zs = ys := Option.some.inj e2
        rw [← e3, List.length_cons, List.length_cons, rens_len hr]
theorem CRep.ren (h : ∀ n m a, g n = some m → A[n]? = some a → A2[m]? = some a) {c d : Cell} {o : HO} (e : c.ren g = some d) (r : CRep G B A c o) : CRep G B A2 d o := by
  cases c with
  | obj k xs =>
    have e1 : (rens g xs).map (Cell.obj k) = some d := e
    cases hx : rens g xs with
    | none =>
      rw [hx] at e1
      cases e1
    | some ys =>
      rw [hx] at e1
      have e2 : Cell.obj k ys = d := Option.some.inj e1
      obtain ⟨dx, vs, q, l, t⟩ := r
      rw [← e2]
      exact ⟨dx, vs, q, by rw [rens_len hx]; exact l, t.ren h hx⟩
  | rcd k xs =>
    have e1 : (rens g xs).map (Cell.rcd k) = some d := e
    cases hx : rens g xs with
    | none =>
      rw [hx] at e1
      cases e1
    | some ys =>
      rw [hx] at e1
      have e2 : Cell.rcd k ys = d := Option.some.inj e1
      obtain ⟨vs, q, l, t⟩ := r
      rw [← e2]
      exact ⟨vs, q, by rw [rens_len hx]; exact l, t.ren h hx⟩
  | seq xs =>
    have e1 : (rens g xs).map Cell.seq = some d := e
    cases hx : rens g xs with
    | none =>
      rw [hx] at e1
      cases e1
    | some ys =>
      rw [hx] at e1
      have e2 : Cell.seq ys = d := Option.some.inj e1
      obtain ⟨vs, q, t⟩ := r
      rw [← e2]
      exact ⟨vs, q, t.ren h hx⟩
  | lst xs =>
    have e2 : Cell.lst xs = d := Option.some.inj e
    rw [← e2]
    exact r
  | dK xs =>
    have e2 : Cell.dK xs = d := Option.some.inj e
    rw [← e2]
    exact r
  | dT xs =>
    have e2 : Cell.dT xs = d := Option.some.inj e
    rw [← e2]
    exact r
  | fz c =>
    obtain ⟨c2, h3, h4⟩ := Option.map_eq_some_iff.mp (show (c.ren g).map Cell.fz = some d from e)
    obtain ⟨od, w, q, r2⟩ := r
    rw [← h4]
    exact ⟨od, w, q, CRep.ren h h3 r2⟩
  | dead =>
    have e2 : Cell.dead = d := Option.some.inj e
    rw [← e2]
    exact True.intro
theorem Cell.ren_live {c d : Cell} (e : c.ren g = some d) (h : d.live = true) : c.live = true := by
  cases c with
  | fz c =>
    obtain ⟨zs, h3, h4⟩ := Option.map_eq_some_iff.mp (show (c.ren g).map Cell.fz = some d from e)
    rw [← h4] at h
    cases h
  | dead =>
    have e2 : Cell.dead = d := Option.some.inj e
    rw [← e2] at h
    cases h
  | _ => rfl
theorem Cell.ren_fz {c d : Cell} (e : c.ren g = some (.fz d)) : ∃ c', c = .fz c' := by
  cases c with
  | fz c => exact ⟨c, rfl⟩
  | obj k xs =>
    obtain ⟨zs, h3, h4⟩ := Option.map_eq_some_iff.mp (show (rens g xs).map (Cell.obj k) = some (.fz d) from e)
    cases h4
  | rcd k xs =>
    obtain ⟨zs, h3, h4⟩ := Option.map_eq_some_iff.mp (show (rens g xs).map (Cell.rcd k) = some (.fz d) from e)
    cases h4
  | seq xs =>
    obtain ⟨zs, h3, h4⟩ := Option.map_eq_some_iff.mp (show (rens g xs).map Cell.seq = some (.fz d) from e)
    cases h4
  | _ => cases e
end
theorem bind_some {α β : Type} {o : Option α} {k : α → Option β} {b : β} (h : o.bind k = some b) : ∃ a, o = some a ∧ k a = some b := by
  cases o with
  | none => cases h
  | some a => exact ⟨a, rfl, h⟩
theorem rens_imp {g g' : Nat → Option Nat} (h : ∀ n m, g n = some m → g' n = some m) : ∀ {xs ys : List Rv}, rens g xs = some ys → rens g' xs = some ys
  | [], _, e => e
  | x :: r, ys, e => by
    obtain ⟨y, h1, h2⟩ := bind_some e
    obtain ⟨zs, h3, h4⟩ := Option.map_eq_some_iff.mp h2
    show ((x.ren g').bind fun y => (rens g' r).map (y :: ·)) = some ys
    have h5 : x.ren g' = some y := by
      cases x with
      | d x => exact h1
      | loc n =>
        obtain ⟨m, h6, h7⟩ := Option.map_eq_some_iff.mp (show (g n).map Rv.loc = some y from h1)
        show (g' n).map Rv.loc = some y
        rw [h n m h6]
        exact congrArg some h7
    rw [h5, Option.bind_some, rens_imp h h3]
    exact congrArg some h4
theorem Cell.ren_imp {g g' : Nat → Option Nat} (h : ∀ n m, g n = some m → g' n = some m) {c d : Cell} (e : c.ren g = some d) : c.ren g' = some d := by
  cases c with
  | obj k xs =>
    obtain ⟨zs, h3, h4⟩ := Option.map_eq_some_iff.mp (show (rens g xs).map (Cell.obj k) = some d from e)
    show (rens g' xs).map (Cell.obj k) = some d
    rw [rens_imp h h3]
    exact congrArg some h4
  | rcd k xs =>
    obtain ⟨zs, h3, h4⟩ := Option.map_eq_some_iff.mp (show (rens g xs).map (Cell.rcd k) = some d from e)
    show (rens g' xs).map (Cell.rcd k) = some d
    rw [rens_imp h h3]
    exact congrArg some h4
  | seq xs =>
    obtain ⟨zs, h3, h4⟩ := Option.map_eq_some_iff.mp (show (rens g xs).map Cell.seq = some d from e)
    show (rens g' xs).map Cell.seq = some d
    rw [rens_imp h h3]
    exact congrArg some h4
  | lst xs => exact e
  | dK xs => exact e
  | dT xs => exact e
  | fz c =>
    obtain ⟨c2, h3, h4⟩ := Option.map_eq_some_iff.mp (show (c.ren g).map Cell.fz = some d from e)
    show (c.ren g').map Cell.fz = some d
    rw [Cell.ren_imp h h3]
    exact congrArg some h4
  | dead => exact e
theorem crens_imp {g g' : Nat → Option Nat} (h : ∀ n m, g n = some m → g' n = some m) : ∀ {xs ys : List Cell}, crens g xs = some ys → crens g' xs = some ys
  | [], _, e => e
  | x :: r, ys, e => by
    obtain ⟨y, h1, h2⟩ := bind_some e
    obtain ⟨zs, h3, h4⟩ := Option.map_eq_some_iff.mp h2
    show ((x.ren g').bind fun y => (crens g' r).map (y :: ·)) = some ys
    rw [Cell.ren_imp h h1, Option.bind_some, crens_imp h h3]
    exact congrArg some h4
def pickA (A : List Addr) (fp : List Nat) : List Addr := fp.map fun n => A.getD n 0
theorem getD_of {A : List Addr} {n : Nat} {a : Addr} (h : A[n]? = some a) : A.getD n 0 = a := by
  rw [List.getD_eq_getElem?_getD, h]
  rfl
section
variable {G : Cfg} {B : Hp} {A : List Addr} {L : Led} {H : Hp}
theorem pickA_get {fp : List Nat} {cs : List Cell} (C : Ctx G B A L H) (hp : picks L fp = some cs) {j : Nat} {a : Addr} (h : (pickA A fp)[j]? = some a) : ∃ n c, fp[j]? = some n ∧ A[n]? = some a ∧ L[n]? = some c ∧ cs[j]? = some c := by
  unfold pickA at h
  rw [List.getElem?_map] at h
  cases e : fp[j]? with
  | none =>
    rw [e] at h
    cases h
  | some n =>
    rw [e] at h
    obtain ⟨c, h1, h2⟩ := (picks_get hp).2 j n e
    obtain ⟨b, hb⟩ := C.addr h1
    have e2 : A.getD n 0 = a := Option.some.inj h
    rw [getD_of hb] at e2
    exact ⟨n, c, rfl, by rw [← e2]; exact hb, h1, h2⟩
theorem pickA_put {fp : List Nat} {j n : Nat} {a : Addr} (h : fp[j]? = some n) (ha : A[n]? = some a) : (pickA A fp)[j]? = some a := by
  unfold pickA
  rw [List.getElem?_map, h]
  exact congrArg some (getD_of ha)
theorem pickA_mem {fp : List Nat} {cs : List Cell} (C : Ctx G B A L H) (hp : picks L fp = some cs) {a : Addr} (h : a ∈ pickA A fp) : a ∈ A := by
  obtain ⟨j, hj⟩ := List.getElem?_of_mem h
  obtain ⟨n, c, _, h2, _, _⟩ := pickA_get C hp hj
  exact List.mem_of_getElem? h2
theorem place_ok {fp : List Nat} : ∀ n m a, place fp n = some m → A[n]? = some a → (pickA A fp)[m]? = some a := fun n m a h ha => pickA_put (place_get h) ha
theorem nodup_of_ix {α : Type} {l : List α} (h : ∀ (i j : Nat) a, l[i]? = some a → l[j]? = some a → i = j) : l.Nodup := by
  rw [List.nodup_iff_pairwise_ne]
  rw [List.pairwise_iff_getElem]
  intro i j hi hj hij e
  have := h i j l[i] (List.getElem?_eq_getElem hi) (by rw [List.getElem?_eq_getElem hj, e])
  omega
/-- some of the cells, by new numbers -/
theorem Ctx.pick (C : Ctx G B A L H) {fp : List Nat} {cs : List Cell} (nd : fp.Nodup) (h : (picks L fp).bind (crens (place fp)) = some cs) : Ctx G B (pickA A fp) cs H := by
  obtain ⟨ds, hp, hc⟩ := bind_some h
  obtain ⟨l1, g1⟩ := picks_get hp
  obtain ⟨l2, g2⟩ := crens_get hc
  refine ⟨by rw [l2, l1]; simp [pickA], C.sub, ?_, fun n a c ha hcc => ?_, fun n a c ha hcc hd => ?_, fun n a c ha hcc => ?_⟩
  · refine nodup_of_ix fun i j a hi hj => ?_
    obtain ⟨n, _, h1, h2, _, _⟩ := pickA_get C hp hi
    obtain ⟨m, _, h3, h4, _, _⟩ := pickA_get C hp hj
    have e : n = m := nd_ix C.nd h2 h4
    subst e
    exact nd_ix nd h1 h3
  · obtain ⟨m, d, h1, h2, h3, h4⟩ := pickA_get C hp ha
    obtain ⟨d', h5, h6⟩ := g2 n c hcc
    rw [h4] at h5
    cases h5
    obtain ⟨o, h7, h8⟩ := C.at_ m a d h2 h3
    exact ⟨o, h7, h8.ren place_ok h6⟩
  · obtain ⟨m, d, h1, h2, h3, h4⟩ := pickA_get C hp ha
    obtain ⟨d', h5, h6⟩ := g2 n c hcc
    rw [h4] at h5
    cases h5
    exact C.off m a d h2 h3 (Cell.ren_live h6 hd)
  · obtain ⟨m, d, h1, h2, h3, h4⟩ := pickA_get C hp ha
    obtain ⟨d', h5, h6⟩ := g2 n _ hcc
    rw [h4] at h5
    cases h5
    obtain ⟨c', rfl⟩ := Cell.ren_fz h6
    exact C.fz m a c' h2 h3
end
theorem writes_len : ∀ {fp : List Nat} {cs : List Cell} {L : Led}, (writes L fp cs).length = L.length
  | [], _, _ => by simp [writes]
  | _ :: _, [], _ => by simp [writes]
  | n :: r, c :: cs, L => by
    show (writes (L.set n c) r cs).length = L.length
    rw [writes_len, List.length_set]
theorem writes_out : ∀ {fp : List Nat} {cs : List Cell} {L : Led} {m : Nat}, m ∉ fp → (writes L fp cs)[m]? = L[m]?
  | [], _, _, _, _ => by simp [writes]
  | _ :: _, [], _, _, _ => by simp [writes]
  | n :: r, c :: cs, L, m, h => by
    show (writes (L.set n c) r cs)[m]? = L[m]?
    rw [writes_out fun q => h (List.mem_cons_of_mem _ q), List.getElem?_set_ne]
    exact fun q => h (by rw [q]; exact List.mem_cons_self)
theorem writes_in : ∀ {fp : List Nat} {cs : List Cell} {L : Led} {j m : Nat} {d : Cell}, fp.Nodup → cs.length = fp.length → fp[j]? = some m → (writes L fp cs)[m]? = some d → cs[j]? = some d
  | [], _, _, j, m, d, _, _, h, _ => by simp at h
  | _ :: _, [], _, _, _, _, _, h, _, _ => by cases h
  | n :: r, c :: cs, L, j, m, d, nd, l, hj, h => by
    have h1 : (writes (L.set n c) r cs)[m]? = some d := h
    have nd1 := List.nodup_cons.mp nd
    cases j with
    | zero =>
      have e : n = m := Option.some.inj hj
      subst e
      rw [writes_out nd1.1] at h1
      have hn : n < (L.set n c).length := (List.getElem?_eq_some_iff.mp h1).1
      rw [List.length_set] at hn
      rw [List.getElem?_set_self hn] at h1
      exact h1
    | succ j => exact writes_in (fp := r) (j := j) nd1.2 (Nat.succ.inj l) hj h1
section
variable {G : Cfg} {B B' : Hp} {A N : List Addr} {L L1 L2 : Led} {H H' : Hp} {fp : List Nat} {cs : List Cell}
theorem Ext.up (C : Ctx G B A L H) (hp : picks L fp = some cs) (x : Ext B (pickA A fp) H B' (pickA A fp ++ N) H') : Ext B A H B' (A ++ N) H' := by
  obtain ⟨M, e, n⟩ := x.pre
  have e1 : N = M := List.append_cancel_left e
  subst e1
  exact ⟨x.base, ⟨N, rfl, n⟩, fun a o e h => x.fr a o e fun q => h (pickA_mem C hp q), x.there, fun a o e => by
    rcases x.grow a o e with q | q | q | q
    · exact .inl q
    · exact .inr (.inl q)
    · exact .inr (.inr (.inl (pickA_mem C hp q)))
    · exact .inr (.inr (.inr q))⟩
theorem back_ok (C : Ctx G B A L H) (hp : picks L fp = some cs) : ∀ n m a, back fp L.length n = some m → (pickA A fp ++ N)[n]? = some a → (A ++ N)[m]? = some a := fun n m a h ha => by
  unfold back at h
  by_cases q : n < fp.length
  · rw [if_pos q] at h
    rw [List.getElem?_append_left (by simpa [pickA] using q)] at ha
    obtain ⟨n', c, h1, h2, _, _⟩ := pickA_get C hp ha
    rw [h] at h1
    cases h1
    rw [List.getElem?_append_left (List.getElem?_eq_some_iff.mp h2).1]
    exact h2
  · rw [if_neg q] at h
    have e : L.length + (n - fp.length) = m := Option.some.inj h
    rw [List.getElem?_append_right (by simpa [pickA] using Nat.le_of_not_lt q)] at ha
    have l : (pickA A fp).length = fp.length := by simp [pickA]
    rw [l] at ha
    rw [← e, List.getElem?_append_right (by rw [C.len]; omega), C.len, Nat.add_sub_cancel_left]
    exact ha
/-- behind a call -/
theorem Ctx.behind (C : Ctx G B A L H) (nd : fp.Nodup) (hp : picks L fp = some cs) (x : Ext B (pickA A fp) H B' (pickA A fp ++ N) H') (C' : Ctx G B' (pickA A fp ++ N) L1 H') (hc : crens (back fp L.length) L1 = some L2) (hl : fp.length ≤ L1.length) :
    Ctx G B' (A ++ N) (writes L fp (L2.take fp.length) ++ L2.drop fp.length) H' := by
  obtain ⟨M, e, nN⟩ := x.pre
  have e1 : N = M := List.append_cancel_left e
  subst e1
  obtain ⟨l2, g2⟩ := crens_get hc
  have lp : (pickA A fp).length = fp.length := by simp [pickA]
  have lN : N.length + fp.length = L1.length := by
    have := C'.len
    rw [List.length_append, lp] at this
    omega
  have lt : (L2.take fp.length).length = fp.length := by
    rw [List.length_take]
    omega
  -- a cell of the new ledger comes from the callee's, or stands
  have key : ∀ n a d, (A ++ N)[n]? = some a → (writes L fp (L2.take fp.length) ++ L2.drop fp.length)[n]? = some d → (∃ (j : Nat) (c : Cell), (pickA A fp ++ N)[j]? = some a ∧ L1[j]? = some c ∧ c.ren (back fp L.length) = some d) ∨ (A[n]? = some a ∧ L[n]? = some d ∧ a ∉ pickA A fp) := fun n a d ha hd => by
    by_cases q : n < A.length
    · rw [List.getElem?_append_left q] at ha
      rw [List.getElem?_append_left (by rw [writes_len, ← C.len]; exact q)] at hd
      by_cases z : n ∈ fp
      · obtain ⟨j, hj⟩ := List.getElem?_of_mem z
        have h1 := writes_in nd lt hj hd
        have hjl : j < fp.length := (List.getElem?_eq_some_iff.mp hj).1
        rw [List.getElem?_take_of_lt hjl] at h1
        obtain ⟨c, h2, h3⟩ := g2 j d h1
        refine .inl ⟨j, c, ?_, h2, h3⟩
        rw [List.getElem?_append_left (by rw [lp]; exact hjl)]
        exact pickA_put hj ha
      · rw [writes_out z] at hd
        refine .inr ⟨ha, hd, fun q => ?_⟩
        obtain ⟨j, hj⟩ := List.getElem?_of_mem q
        obtain ⟨m, c, h1, h2, _, _⟩ := pickA_get C hp hj
        have e := nd_ix C.nd h2 ha
        rw [e] at h1
        exact z (List.mem_of_getElem? h1)
    · rw [List.getElem?_append_right (Nat.le_of_not_lt q)] at ha
      rw [List.getElem?_append_right (by rw [writes_len, ← C.len]; exact Nat.le_of_not_lt q), writes_len, ← C.len, List.getElem?_drop] at hd
      obtain ⟨c, h2, h3⟩ := g2 _ d hd
      refine .inl ⟨_, c, ?_, h2, h3⟩
      rw [List.getElem?_append_right (by rw [lp]; omega), lp, Nat.add_sub_cancel_left]
      exact ha
  refine ⟨?_, C'.sub, ?_, fun n a d ha hd => ?_, fun n a d ha hd hdd => ?_, fun n a d ha hd => ?_⟩
  · rw [List.length_append, List.length_append, writes_len, List.length_drop, C.len]
    omega
  · rw [List.nodup_append]
    refine ⟨C.nd, ?_, fun a ha b hb e => ?_⟩
    · have := C'.nd
      rw [List.nodup_append] at this
      exact this.2.1
    · subst e
      obtain ⟨o, e⟩ := C.mem ha
      rw [nN a hb] at e
      cases e
  · rcases key n a d ha hd with ⟨j, c, h1, h2, h3⟩ | ⟨h1, h2, h3⟩
    · obtain ⟨o, h4, h5⟩ := C'.at_ j a c h1 h2
      exact ⟨o, h4, h5.ren (back_ok C hp) h3⟩
    · obtain ⟨o, h4, h5⟩ := C.at_ n a d h1 h2
      exact ⟨o, x.fr a o h4 h3, h5.mono x.base ⟨N, rfl⟩⟩
  · rcases key n a d ha hd with ⟨j, c, h1, h2, h3⟩ | ⟨h1, h2, h3⟩
    · exact C'.off j a c h1 h2 (Cell.ren_live h3 hdd)
    · have h4 := C.off n a d h1 h2 hdd
      obtain ⟨o, h5, h6⟩ := C.at_ n a d h1 h2
      cases e : B' a with
      | none => rfl
      | some u =>
        rcases x.grow a u e with q | q | q | ⟨xs, q⟩
        · rw [h4] at q
          cases q
        · rw [h5] at q
          cases q
        · exact absurd q h3
        · rw [h5] at q
          cases q
          exact (CRep.notTup h6 hdd).elim
  · rcases key n a _ ha hd with ⟨j, c, h1, h2, h3⟩ | ⟨h1, h2, h3⟩
    · obtain ⟨c', rfl⟩ := Cell.ren_fz h3
      exact C'.fz j a c' h1 h2
    · exact (C.fz n a d h1 h2).imp fun o e => x.base _ _ e
end
/-- what a def promises: n values -/
def toSp (G : Cfg) (n : Nat) (f : Fn) : Sp := fun vs H Q E => vs.length = n ∧ ∃ B A L args, RepRs G B A args vs ∧ Ctx G B A L H ∧ RPV G (f args L) B A H Q E
section
variable {G : Cfg} {B : Hp} {A : List Addr} {L : Led} {H : Hp} {Q : VK} {E : XK} {f : Fn} {n : Nat}
/-- the caller's call is the callee's run -/
theorem call_sp {args : List Rv} {vs : List V} (hn : vs.length = n) (C : Ctx G B A L H) (r : RepRs G B A args vs) (h : RPV G (callF f args L) B A H Q E) : toSp G n f vs H Q E := by
  unfold callF at h
  generalize hfp : reach L 3 (dedup [] (args.flatMap Rv.locs)) = fp at h
  have nd : fp.Nodup := by
    rw [← hfp]
    exact reach_nd _ _ (dedup_nd _ _ (by simp))
  dsimp only at h
  cases ha : rens (place fp) args with
  | none =>
    rw [ha] at h
    exact h.elim
  | some as =>
    cases hc : (picks L fp).bind (crens (place fp)) with
    | none =>
      rw [ha, hc] at h
      exact h.elim
    | some cs =>
      rw [ha, hc] at h
      obtain ⟨ds, hp, hcr⟩ := bind_some hc
      refine ⟨hn, B, pickA A fp, cs, as, r.ren place_ok ha, C.pick nd hc, ?_⟩
      dsimp only at h
      have lcs : cs.length = fp.length := by rw [(crens_get hcr).1, (picks_get hp).1]
      cases hf : f as cs with
      | bad =>
        rw [hf] at h
        exact h.elim
      | ok v L1 =>
        rw [hf] at h
        dsimp only at h
        intro B' A' H' b x C' rv
        cases h1 : v.ren (back fp L.length) with
        | none =>
          rw [h1] at h
          exact h.elim
        | some w =>
          cases h2 : crens (back fp L.length) L1 with
          | none =>
            rw [h1, h2] at h
            exact h.elim
          | some L2 =>
            rw [h1, h2] at h
            dsimp only at h
            by_cases hl : fp.length ≤ L1.length
            · rw [if_pos hl] at h
              obtain ⟨N, eN, _⟩ := x.pre
              subst eN
              exact h B' (A ++ N) H' b (x.up C hp) (C.behind nd hp x C' h2 hl) (rv.ren (back_ok C hp) h1)
            · rw [if_neg hl] at h
              exact h.elim
      | exc c xs L1 =>
        rw [hf] at h
        dsimp only at h
        intro B' A' H' cls d x C' rx
        cases h2 : crens (back fp L.length) L1 with
        | none =>
          rw [h2] at h
          exact h.elim
        | some L2 =>
          rw [h2] at h
          dsimp only at h
          by_cases hl : fp.length ≤ L1.length
          · rw [if_pos hl] at h
            obtain ⟨N, eN, _⟩ := x.pre
            subst eN
            exact h B' (A ++ N) H' cls d (x.up C hp) (C.behind nd hp x C' h2 hl) rx
          · rw [if_neg hl] at h
            exact h.elim
end

section
variable {G : Cfg} {B B' : Hp} {A A' : List Addr} {L L1 : Led} {H H' : Hp} {Q : VK} {E : XK}
theorem pickA_range {A N : List Addr} : pickA (A ++ N) (List.range A.length) = A := by
  apply List.ext_getElem?
  intro i
  unfold pickA
  rw [List.getElem?_map]
  by_cases h : i < A.length
  · rw [List.getElem?_range h]
    show some ((A ++ N).getD i 0) = A[i]?
    rw [getD_of (a := A[i]) (by rw [List.getElem?_append_left h]; exact List.getElem?_eq_getElem h)]
    exact (List.getElem?_eq_getElem h).symm
  · rw [List.getElem?_eq_none (by simpa using h), List.getElem?_eq_none (by simpa using h)]
    rfl
theorem reach_pre {L : Led} : ∀ (k : Nat) (s : List Nat), ∃ t, reach L k s = s ++ t
  | 0, s => ⟨[], by simp [reach]⟩
  | k + 1, s => by
    have key : ∀ r, ∃ t, reach L k (dedup s r) = s ++ t := fun r => by
      obtain ⟨t, e⟩ := dedup_pre r s
      obtain ⟨u, e2⟩ := reach_pre (L := L) k (s ++ t)
      exact ⟨t ++ u, by rw [e, e2, List.append_assoc]⟩
    exact key _
theorem leave_pre {L : Led} (k : Nat) (r : List Nat) : ∃ t, reach L 3 (dedup (List.range k) r) = List.range k ++ t := by
  obtain ⟨t, e⟩ := dedup_pre r (List.range k)
  obtain ⟨u, e2⟩ := reach_pre (L := L) 3 (List.range k ++ t)
  exact ⟨t ++ u, by rw [e, e2, List.append_assoc]⟩
/-- what a def leaves -/
theorem leave_ok {v : Rv} {u : V} {t : List Nat} {cs : List Cell} (hk : A.length = L.length) (x : Ext B A H B' A' H') (C : Ctx G B' A' L1 H') (nd : (List.range L.length ++ t).Nodup) (h : (picks L1 (List.range L.length ++ t)).bind (crens (place (List.range L.length ++ t))) = some cs) :
    Ext B A H B' (pickA A' (List.range L.length ++ t)) H' ∧ Ctx G B' (pickA A' (List.range L.length ++ t)) cs H' := by
  refine ⟨?_, C.pick nd h⟩
  obtain ⟨N, eN, nN⟩ := x.pre
  have e1 : pickA A' (List.range L.length ++ t) = A ++ pickA A' t := by
    unfold pickA
    rw [List.map_append]
    have := pickA_range (A := A) (N := N)
    unfold pickA at this
    rw [eN, ← hk, this]
  obtain ⟨ds, hp, _⟩ := bind_some h
  refine ⟨x.base, ⟨pickA A' t, e1, fun a ha => ?_⟩, x.fr, x.there, x.grow⟩
  obtain ⟨j, hj⟩ := List.getElem?_of_mem ha
  have h0 : (pickA A' (List.range L.length ++ t))[A.length + j]? = some a := by
    rw [e1, List.getElem?_append_right (Nat.le_add_right _ _), Nat.add_sub_cancel_left]
    exact hj
  obtain ⟨n, c, h1, h2, h3, h4⟩ := pickA_get C hp h0
  have lr : (List.range L.length).length = A.length := by rw [List.length_range, hk]
  rw [List.getElem?_append_right (by omega), lr, Nat.add_sub_cancel_left] at h1
  have hn : n ∉ List.range L.length := fun q => by
    rw [List.nodup_append] at nd
    exact nd.2.2 n q n (List.mem_of_getElem? h1) rfl
  rw [List.mem_range] at hn
  rw [eN, List.getElem?_append_right (by omega)] at h2
  exact nN a (List.mem_of_getElem? h2)
theorem leave_ret {v : Rv} {u : V} (hk : A.length = L.length) (x : Ext B A H B' A' H') (C : Ctx G B' A' L1 H') (r : RepR G B' A' v u) (h : RPV G (leave L.length v L1) B A H Q E) : Q u H' := by
  unfold leave at h
  obtain ⟨t, et⟩ := leave_pre (L := L1) L.length v.locs
  have nd : (List.range L.length ++ t).Nodup := by
    rw [← et]
    exact reach_nd _ _ (dedup_nd _ _ List.nodup_range)
  rw [et] at h
  dsimp only at h
  cases h1 : v.ren (place (List.range L.length ++ t)) with
  | none =>
    rw [h1] at h
    exact h.elim
  | some w =>
    cases h2 : (picks L1 (List.range L.length ++ t)).bind (crens (place (List.range L.length ++ t))) with
    | none =>
      rw [h1, h2] at h
      exact h.elim
    | some cs =>
      rw [h1, h2] at h
      obtain ⟨y, c⟩ := leave_ok (u := u) (v := v) hk x C nd h2
      exact h B' _ H' u y c (r.ren place_ok h1)
theorem leave_exc {c : Nat} {xs : List D} {cls : Value} {d : Option Addr} (hk : A.length = L.length) (x : Ext B A H B' A' H') (C : Ctx G B' A' L1 H') (r : XRep G B' c xs cls d) (h : RPV G (leaveX L.length c xs L1) B A H Q E) : E cls d H' := by
  unfold leaveX at h
  obtain ⟨t, et⟩ := reach_pre (L := L1) 3 (List.range L.length)
  have nd : (List.range L.length ++ t).Nodup := by
    rw [← et]
    exact reach_nd _ _ List.nodup_range
  rw [et] at h
  cases h2 : (picks L1 (List.range L.length ++ t)).bind (crens (place (List.range L.length ++ t))) with
  | none =>
    rw [h2] at h
    exact h.elim
  | some cs =>
    rw [h2] at h
    obtain ⟨y, c⟩ := leave_ok (v := .d .non) (u := .non) hk x C nd h2
    exact h B' _ H' cls d y c r
theorem start_env {args : List Rv} {vs : List V} {n : Nat} (r : RepRs G B A args vs) {N : List PySem.Str} (hN : N.length = n) : EnvR G B A (args.map some ++ List.replicate (n - args.length) none) (start N vs) := by
  have l := r.len
  refine ⟨by unfold L2.start; simp [l, hN], fun i v h => ?_⟩
  unfold L2.start
  by_cases q : i < args.length
  · rw [List.getElem?_append_left (by simpa using q), List.getElem?_map] at h
    cases e : args[i]? with
    | none =>
      rw [e] at h
      cases h
    | some y =>
      rw [e] at h
      have e2 : some y = some v := Option.some.inj h
      cases e2
      obtain ⟨u, h1, h2⟩ := r.get e
      refine ⟨u, ?_, h2⟩
      rw [List.getElem?_append_left (by simpa [l] using q), List.getElem?_map, h1]
      rfl
  · rw [List.getElem?_append_right (by simpa using q), List.getElem?_replicate] at h
    split at h
    · cases h
    · cases h
end
/-- what a clause's body may lean on -/
structure CO (X : Cx) (W : WX) (k : Nat) : Prop where
  nd : X.N.Nodup
  calm : X.calm = true
  room : Room k X.A
  own : PassesOwn (model X.prog X.w) X.A X.env X.xe
  tk : Takes X W
theorem CO.pas {X : Cx} {W : WX} {k : Nat} (c : CO X W k) : ∀ σ, PassesAt (L2.CX X.prog X.w) X σ (WE W σ) := fun σ => passAt c.tk σ
section
variable {P : Program} {w : World} {K : PySem.W.Frag} {mg : PySem.Str → Option Value} {base : Heap} {x qual : PySem.Str} {params : Arguments} {body : List Stmt} {scope : Scope} {dvs : List V} {kws : List (PySem.Str × V)} {f : Addr} {fd : FuncData}
/-- a def's promise, by its body -/
theorem def_ok {G : Cfg} {N ps : List PySem.Str} {k : Nat} {m : DS} (F : FunD K x qual params body scope dvs kws f fd) (S : FnScope N ps scope)
    (hb : ∀ (cdv : Value) (A : Around) (outer : List PySem.Env) (s : Shared) (H : Hp) (E : XK), CO (cxOf (L2.CX P w) P w K mg base N qual scope f cdv A outer s H E) (fun cls d _ H' => E cls d H') k →
      QSs G (cxOf (L2.CX P w) P w K mg base N qual scope f cdv A outer s H E) Ph.yes (fun cls d _ H' => E cls d H') body m) :
    FnOk P w K mg base (L2.CX P w) (k + 1) f fd ps (toSp G ps.length (defF N.length ps.length m)) := by
  refine FunD.ok F S (fun vs H Q E h => h.1) fun cdv A outer s H vs Q E hr hsp => ?_
  have tk : Takes (cxOf (L2.CX P w) P w K mg base N qual scope f cdv A outer s H E) (fun cls d _ H' => E cls d H') := takes_of rfl rfl rfl rfl
  have co : CO (cxOf (L2.CX P w) P w K mg base N qual scope f cdv A outer s H E) (fun cls d _ H' => E cls d H') k := ⟨S.nd, rfl, hr, passes_of rfl, tk⟩
  obtain ⟨ts, ps', kk⟩ := hb cdv A outer s H E co
  refine ⟨ts, ps', ?_⟩
  obtain ⟨hl, B, AA, L, args, r, C, q⟩ := hsp
  unfold defF at q
  have la : args.length = ps.length := by rw [← r.len]; exact hl
  rw [if_pos la] at q
  refine kk (start N vs) H B AA (args.map some ++ List.replicate (N.length - ps.length) none) L _ ⟨trivial, by rw [← la]; exact start_env r rfl, C⟩ ?_
  cases hm : m (args.map some ++ List.replicate (N.length - ps.length) none) L with
  | next ρ1 L1 =>
    rw [hm] at q
    exact fun B' A' H' σ' x s => leave_ret C.len x s.ctx (show RepR _ _ _ (.d .non) V.non from rfl) q
  | ret v L1 =>
    rw [hm] at q
    exact fun B' A' H' u x c r => leave_ret C.len x c r q
  | brk ρ1 L1 =>
    rw [hm] at q
    exact q.elim
  | cont ρ1 L1 =>
    rw [hm] at q
    exact q.elim
  | exc c xs ρ1 L1 =>
    rw [hm] at q
    exact fun B' A' H' σ' cls d x s rx => leave_exc C.len x s.ctx rx q
  | bad =>
    rw [hm] at q
    exact q.elim
end
end Dl

set_option Elab.async false
set_option linter.all false
set_option maxRecDepth 100000
/-! Sg: call sites. -/
namespace L2
open PySem PySem.Spec PyProof.Rows
section
variable {X : Cx} {CX : CXT} {k n : Nat} {f C : Addr} {fd : FuncData} {ps ks : List PySem.Str} {sp : Sp} {dvs : List V} {ds : List Value} {E : St → XK} {x m : PySem.Str} {p pos apos : Pos} {e o : Expr} {es : List Expr} {kws : List Keyword} {ta : TE} {t tk : TA}
def tMethQ (C : Addr) (m : PySem.Str) (sp : Sp) (dvs : List V) (E : St → XK) (ta : TE) (t : TA) : TE := fun σ H Q => ta σ H fun x H1 => ∃ a dx fs, x = .ref a ∧ H1 a = some (.ins C dx fs) ∧ fs.lookup m = none ∧
  t σ H1 fun vs H2 => sp (x :: (vs ++ dvs)) H2 Q (E σ)
def tMakeQ (C : Addr) (sp : Sp) (dvs : List V) (E : St → XK) (t : TA) : TE := fun σ H Q => t σ H fun vs H1 => ∀ x dx, H1 x = none → H1 dx = none → dx ≠ x →
  sp (.ref x :: (vs ++ dvs)) (upd (upd H1 dx (.own x)) x (.ins C dx [])) (fun v H2 => v = .non ∧ Q (.ref x) H2) (E σ)
theorem pe_callQ0 (F : FnOk X.prog X.w X.K X.mg X.base CX k f fd ps sp) (hr : Room k X.A) (hg : Gl X x) (hm : X.mg x = some (.ref f)) (hk : PySem.W.keepIn X.K (.ref f) = true) (hb : Binds X.K fd ps ds) (hd : Vals dvs ds) (hx : ∀ σ, PassesAt CX X σ (E σ))
    (hdb : (x == ("__debug__" : PySem.Str)) = false := by decide) : PE X (.Call (.Name x p) [] [] pos) (tCallSD sp dvs E tNil) := by
  refine ⟨fun pins s σ H Q I h => ?_⟩
  refine wpAny_Call_Name_kw (ld_glob I hg hm ?_ hdb)
  exact PySem.W.callWith_K0 I.kIn hk (run_fnSD (us := []) F hr hb hd (hx σ) I .nil h)
theorem pe_methQ {pl : Sem Bool} (he : PE X o ta) (c : Cls X.K C) (hm : Meth X.K C m f) (F : FnOk X.prog X.w X.K X.mg X.base CX k f fd ps sp) (hr : Room k X.A) (hb : Binds X.K fd ps ds) (hd : Vals dvs ds) (hx : ∀ σ, PassesAt CX X σ (E σ)) (ha : PA X (e :: es) t)
    (hst : starEach (e :: es) X.env = (false, eval e X.env) :: starEach es X.env := by rfl) (hpl : (backTo pos (starEach es X.env)).any (·.1) = false := by rfl)
    (ht : eval (.Call (.Attribute o m apos) (e :: es) [] pos) X.env = (do
      let ov ← eval o X.env
      standAt apos.atName
      let (f, first) ← holding [ov] (getMethod ov m pl)
      callWith pos f first (backTo pos (starEach (e :: es) X.env)) (backToKw pos (keywordEach [] X.env))) := by rfl) :
    PE X (.Call (.Attribute o m apos) (e :: es) [] pos) (tMethQ C m sp dvs E ta t) := by
  refine ⟨fun pins s σ H Q I h => ?_⟩
  refine PySem.W.methodCall_KW (pl := pl) (thn (he.run pins s σ H _ I h) fun u s1 ⟨x, H1, I1, rx, a, dx, fs, ex, ea, l, q⟩ => ?_) ht
  subst ex
  obtain rfl : u = Value.ref a := rx
  refine getmeth_ok I1 ea c hm l ?_
  refine PySem.W.callWith_K (first := [.ref a]) (h₀ := X.base) I.ok.mod.kin hm.kp (thn (ha.run pos pins s1 σ H1 _ I1 q) fun us s2 ⟨vs, H2, I2, r, q2⟩ => ⟨I2.kIn, ?_⟩) hst hpl
  exact run_fnSD (us := .ref a :: us) (vs := .ref a :: vs) F hr hb hd (hx σ) I2 (.cons rfl r) q2
theorem pe_methQ0 {pl : Sem Bool} (he : PE X o ta) (c : Cls X.K C) (hm : Meth X.K C m f) (F : FnOk X.prog X.w X.K X.mg X.base CX k f fd ps sp) (hr : Room k X.A) (hb : Binds X.K fd ps ds) (hd : Vals dvs ds) (hx : ∀ σ, PassesAt CX X σ (E σ))
    (ht : eval (.Call (.Attribute o m apos) [] [] pos) X.env = (do
      let ov ← eval o X.env
      standAt apos.atName
      let (f, first) ← holding [ov] (getMethod ov m pl)
      callWith pos f first (backTo pos (starEach [] X.env)) (backToKw pos (keywordEach [] X.env))) := by rfl) :
    PE X (.Call (.Attribute o m apos) [] [] pos) (tMethQ C m sp dvs E ta tNil) := by
  refine ⟨fun pins s σ H Q I h => ?_⟩
  refine PySem.W.methodCall_KW (pl := pl) (thn (he.run pins s σ H _ I h) fun u s1 ⟨x, H1, I1, rx, a, dx, fs, ex, ea, l, q⟩ => ?_) ht
  subst ex
  obtain rfl : u = Value.ref a := rx
  refine getmeth_ok I1 ea c hm l ?_
  exact PySem.W.callWith_K0 (first := [.ref a]) I1.kIn hm.kp (run_fnSD (us := [.ref a]) (vs := [.ref a]) F hr hb hd (hx σ) I1 (.cons rfl .nil) q)
theorem run_makeQ {pins : List (Addr × Obj)} {σ : St} {H : Hp} {s : Shared} {Q : VK} {us : List Value} {vs : List V} (M : Mk X.K C f) (F : FnOk X.prog X.w X.K X.mg X.base CX k f fd ps sp) (hr : Room (k + 1) X.A) (hb : Binds X.K fd ps ds) (hd : Vals dvs ds)
    (hx : PassesAt CX X σ (E σ)) (I : Inv X pins σ H s) (r : Vals vs us)
    (h : ∀ x dx, H x = none → H dx = none → dx ≠ x → sp (.ref x :: (vs ++ dvs)) (upd (upd H dx (.own x)) x (.ins C dx [])) (fun v H2 => v = .non ∧ Q (.ref x) H2) (E σ)) :
    wpAny (model X.prog X.w) X.A (call (.ref C) us) (EP X pins σ Q) X.xe s := by
  have hq := h (s.heap.objs.size + 1) s.heap.objs.size (I.hok.fresh (Nat.le_succ _)) (I.hok.fresh (Nat.le_refl _)) (Nat.ne_of_lt (Nat.lt_succ_self _))
  have I2 := Inv.made (C := C) I
  have r2 : Vals (V.ref (s.heap.objs.size + 1) :: (vs ++ dvs)) (Value.ref (s.heap.objs.size + 1) :: (us ++ ds)) := .cons rfl (r.append hd)
  have hl : (Value.ref (s.heap.objs.size + 1) :: us ++ ds).length = ps.length := by
    have e := r2.length
    rw [F.len _ _ _ _ hq] at e
    exact e.symm
  refine wpAny_call (make_map (f := f) I.kIn M.makes M.init (beq_iff_eq.mp M.fn) (codeAny_mono (F.run _ X.stack _ _ ⟨Value.ref (s.heap.objs.size + 1) :: us, []⟩ (Value.ref (s.heap.objs.size + 1) :: (us ++ ds)) _ _ (E σ) (hr.make C us [])
    (I2.env0.make C us []) (hb _ (Value.ref (s.heap.objs.size + 1) :: us) I2.kIn hl) r2 hq) fun r s' hq' => ?_))
  cases r with
  | error e => exact hx pins _ _ e s' I2 hq'
  | ok fl =>
    cases fl with
    | ret u =>
      obtain ⟨v, H', I3, rv, ev, q3⟩ := I2.after hq'
      subst ev
      exact ⟨rv, ⟨V.ref (s.heap.objs.size + 1), H', I3, rfl, q3⟩⟩
    | next => exact False.elim hq'
    | brk => exact False.elim hq'
    | cont => exact False.elim hq'
theorem pe_makeQ (M : Mk X.K C f) (F : FnOk X.prog X.w X.K X.mg X.base CX k f fd ps sp) (hr : Room (k + 1) X.A) (hg : Gl X x) (hm : X.mg x = some (.ref C)) (hb : Binds X.K fd ps ds) (hd : Vals dvs ds) (hx : ∀ σ, PassesAt CX X σ (E σ))
    (ha : PA X (e :: es) t) (hdb : (x == ("__debug__" : PySem.Str)) = false := by decide) (he : starEach (e :: es) X.env = (false, eval e X.env) :: starEach es X.env := by rfl) (hpl : (backTo pos (starEach es X.env)).any (·.1) = false := by rfl) :
    PE X (.Call (.Name x p) (e :: es) [] pos) (tMakeQ C sp dvs E t) := by
  refine ⟨fun pins s σ H Q I h => ?_⟩
  refine wpAny_Call_Name_kw (ld_glob I hg hm ?_ hdb)
  refine PySem.W.callWith_K (h₀ := X.base) I.ok.mod.kin M.kp (thn (ha.run pos pins s σ H _ I h) fun us s1 ⟨vs, H1, I1, r, q⟩ => ⟨I1.kIn, ?_⟩) he hpl
  exact run_makeQ M F hr hb hd (hx σ) I1 r q
theorem pe_makeQ0 (M : Mk X.K C f) (F : FnOk X.prog X.w X.K X.mg X.base CX k f fd ps sp) (hr : Room (k + 1) X.A) (hg : Gl X x) (hm : X.mg x = some (.ref C)) (hb : Binds X.K fd ps ds) (hd : Vals dvs ds) (hx : ∀ σ, PassesAt CX X σ (E σ))
    (hdb : (x == ("__debug__" : PySem.Str)) = false := by decide) : PE X (.Call (.Name x p) [] [] pos) (tMakeQ C sp dvs E tNil) := by
  refine ⟨fun pins s σ H Q I h => ?_⟩
  refine wpAny_Call_Name_kw (ld_glob I hg hm ?_ hdb)
  exact PySem.W.callWith_K0 I.kIn M.kp (run_makeQ (us := []) M F hr hb hd (hx σ) I .nil h)
variable {g : List Value → List Value → List Value} {gV : List V → List V → List V}
def tMakeKQ (C : Addr) (n m : Nat) (sp : Sp) (gV : List V → List V → List V) (E : St → XK) (t tk : TA) : TE := fun σ H Q => t σ H fun vs H1 => tk σ H1 fun zs H2 => vs.length = n ∧ zs.length = m ∧ ∀ x dx, H2 x = none → H2 dx = none → dx ≠ x →
  sp (gV (.ref x :: vs) zs) (upd (upd H2 dx (.own x)) x (.ins C dx [])) (fun v H3 => v = .non ∧ Q (.ref x) H3) (E σ)
def tCallKQ (n m : Nat) (sp : Sp) (gV : List V → List V → List V) (E : St → XK) (t tk : TA) : TE := fun σ H Q => t σ H fun vs H1 => tk σ H1 fun zs H2 => vs.length = n ∧ zs.length = m ∧ sp (gV vs zs) H2 Q (E σ)
theorem run_makeKQ {pins : List (Addr × Obj)} {σ : St} {H : Hp} {s : Shared} {Q : VK} {us ws : List Value} {vs zs : List V} (M : Mk X.K C f) (F : FnOk X.prog X.w X.K X.mg X.base CX k f fd ps sp) (hr : Room (k + 1) X.A) (hb : KBn X.K fd ps (n + 1) ks g gV) (hx : PassesAt CX X σ (E σ))
    (I : Inv X pins σ H s) (r : Vals vs us) (rz : Vals zs ws) (l1 : vs.length = n) (l2 : zs.length = ks.length)
    (h : ∀ x dx, H x = none → H dx = none → dx ≠ x → sp (gV (.ref x :: vs) zs) (upd (upd H dx (.own x)) x (.ins C dx [])) (fun v H2 => v = .non ∧ Q (.ref x) H2) (E σ)) :
    wpAny (model X.prog X.w) X.A (call (.ref C) us (ks.zip ws)) (EP X pins σ Q) X.xe s := by
  have hq := h (s.heap.objs.size + 1) s.heap.objs.size (I.hok.fresh (Nat.le_succ _)) (I.hok.fresh (Nat.le_refl _)) (Nat.ne_of_lt (Nat.lt_succ_self _))
  have I2 := Inv.made (C := C) I
  have r2 : Vals (V.ref (s.heap.objs.size + 1) :: vs) (Value.ref (s.heap.objs.size + 1) :: us) := .cons rfl r
  refine wpAny_call (make_map (f := f) I.kIn M.makes M.init (beq_iff_eq.mp M.fn) (codeAny_mono (F.run _ X.stack _ _ ⟨Value.ref (s.heap.objs.size + 1) :: us, ks.zip ws⟩ (g (Value.ref (s.heap.objs.size + 1) :: us) ws) _ _ (E σ) (hr.make C us (ks.zip ws))
    (I2.env0.make C us (ks.zip ws)) (hb.to _ (Value.ref (s.heap.objs.size + 1) :: us) ws I2.kIn (by rw [List.length_cons, ← r.length, l1]) (by rw [← rz.length]; exact l2)) (hb.rel r2 rz) hq) fun r s' hq' => ?_))
  cases r with
  | error e => exact hx pins _ _ e s' I2 hq'
  | ok fl =>
    cases fl with
    | ret u =>
      obtain ⟨v, H', I3, rv, ev, q3⟩ := I2.after hq'
      subst ev
      exact ⟨rv, ⟨V.ref (s.heap.objs.size + 1), H', I3, rfl, q3⟩⟩
    | next => exact False.elim hq'
    | brk => exact False.elim hq'
    | cont => exact False.elim hq'
theorem pe_makeKQ (M : Mk X.K C f) (F : FnOk X.prog X.w X.K X.mg X.base CX k f fd ps sp) (hr : Room (k + 1) X.A) (hg : Gl X x) (hm : X.mg x = some (.ref C)) (hb : KBn X.K fd ps (n + 1) ks g gV) (hx : ∀ σ, PassesAt CX X σ (E σ)) (ha : PA X (e :: es) t) (hkw : PK X kws tk)
    (hall : (backToKw pos (keywordEach kws X.env)).all (·.1.isSome) = true := by rfl) (hks : (backToKw pos (keywordEach kws X.env)).filterMap (·.1) = ks := by rfl) (hdb : (x == ("__debug__" : PySem.Str)) = false := by decide)
    (he : starEach (e :: es) X.env = (false, eval e X.env) :: starEach es X.env := by rfl) (hpl : ((backTo pos (starEach (e :: es) X.env)).any (·.1) || (backToKw pos (keywordEach kws X.env)).any (·.1.isNone)) = false := by rfl) :
    PE X (.Call (.Name x p) (e :: es) kws pos) (tMakeKQ C n ks.length sp gV E t tk) := by
  refine ⟨fun pins s σ H Q I h => ?_⟩
  refine wpAny_Call_Name_kw (ld_glob I hg hm ?_ hdb)
  refine PySem.W.callWith_KW (h₀ := X.base) I.ok.mod.kin M.kp hall (thn (ha.run pos pins s σ H _ I h) fun us s1 ⟨vs, H1, I1, r, q⟩ => ?_) hpl he
  refine thn (hkw.run pos pins s1 σ H1 _ I1 q) fun ws s2 ⟨zs, H2, I2, rz, l1, l2, q2⟩ => ⟨I2.kIn, ?_⟩
  rw [hks]
  exact run_makeKQ M F hr hb (hx σ) I2 r rz l1 l2 q2
theorem run_callKQ {pins : List (Addr × Obj)} {σ : St} {H : Hp} {s : Shared} {Q : VK} {us ws : List Value} {vs zs : List V} (F : FnOk X.prog X.w X.K X.mg X.base CX k f fd ps sp) (hr : Room k X.A) (hb : KBn X.K fd ps n ks g gV) (hx : PassesAt CX X σ (E σ))
    (I : Inv X pins σ H s) (r : Vals vs us) (rz : Vals zs ws) (l1 : vs.length = n) (l2 : zs.length = ks.length) (h : sp (gV vs zs) H Q (E σ)) : wpAny (model X.prog X.w) X.A (call (.ref f) us (ks.zip ws)) (EP X pins σ Q) X.xe s := by
  refine wpAny_call (codeAny_mono (F.run X.A X.stack s H ⟨us, ks.zip ws⟩ (g us ws) (gV vs zs) Q (E σ) hr I.env0 (hb.to s us ws I.kIn (by rw [← r.length]; exact l1) (by rw [← rz.length]; exact l2)) (hb.rel r rz) h) fun r s' hq => ?_)
  cases r with
  | error e => exact hx pins H s e s' I hq
  | ok fl =>
    cases fl with
    | ret u => exact I.after hq
    | next => exact False.elim hq
    | brk => exact False.elim hq
    | cont => exact False.elim hq
theorem pe_callKQ (F : FnOk X.prog X.w X.K X.mg X.base CX k f fd ps sp) (hr : Room k X.A) (hg : Gl X x) (hm : X.mg x = some (.ref f)) (hk : PySem.W.keepIn X.K (.ref f) = true) (hb : KBn X.K fd ps n ks g gV) (hx : ∀ σ, PassesAt CX X σ (E σ))
    (ha : PA X (e :: es) t) (hkw : PK X kws tk) (hall : (backToKw pos (keywordEach kws X.env)).all (·.1.isSome) = true := by rfl) (hks : (backToKw pos (keywordEach kws X.env)).filterMap (·.1) = ks := by rfl)
    (hdb : (x == ("__debug__" : PySem.Str)) = false := by decide) (he : starEach (e :: es) X.env = (false, eval e X.env) :: starEach es X.env := by rfl)
    (hpl : ((backTo pos (starEach (e :: es) X.env)).any (·.1) || (backToKw pos (keywordEach kws X.env)).any (·.1.isNone)) = false := by rfl) :
    PE X (.Call (.Name x p) (e :: es) kws pos) (tCallKQ n ks.length sp gV E t tk) := by
  refine ⟨fun pins s σ H Q I h => ?_⟩
  refine wpAny_Call_Name_kw (ld_glob I hg hm ?_ hdb)
  refine PySem.W.callWith_KW (h₀ := X.base) I.ok.mod.kin hk hall (thn (ha.run pos pins s σ H _ I h) fun us s1 ⟨vs, H1, I1, r, q⟩ => ?_) hpl he
  refine thn (hkw.run pos pins s1 σ H1 _ I1 q) fun ws s2 ⟨zs, H2, I2, rz, l1, l2, q2⟩ => ⟨I2.kIn, ?_⟩
  rw [hks]
  exact run_callKQ F hr hb (hx σ) I2 r rz l1 l2 q2
end
end L2

set_option Elab.async false
set_option linter.all false
set_option maxRecDepth 100000
/-! Sh: call sites, over data. -/
namespace Dl
open PySem PySem.Spec PyProof.Rows L2

section
variable {G : Cfg} {B : Hp} {A : List Addr} {L : Led} {H : Hp} {Q : VK} {E : XK} {f : Fn} {n : Nat}
theorem RepRs.append {ys : List Rv} {ws : List V} (t : RepRs G B A ys ws) : ∀ {xs : List Rv} {vs : List V}, RepRs G B A xs vs → RepRs G B A (xs ++ ys) (vs ++ ws)
  | [], _, r => by
    have e : _ = [] := r
    rw [e]
    exact t
  | x :: r, _, ⟨v, us, e, q, z⟩ => by
    rw [e]
    exact ⟨v, us ++ ws, rfl, q, RepRs.append t z⟩
theorem RepRs.data : ∀ {xs : List D} {vs : List V}, Reps G B xs vs → RepRs G B A (xs.map .d) vs
  | [], _, r => r
  | x :: r, _, ⟨v, us, e, q, z⟩ => ⟨v, us, e, q, RepRs.data z⟩
/-- defaults, as data -/
def DvOk (G : Cfg) (dv : List D) (dvs : List V) : Prop := ∀ B, Reps G B dv dvs
theorem callD_sp {args : List Rv} {vs dvs : List V} {dv : List D} (C : Ctx G B A L H) (r : RepRs G B A args vs) (hd : DvOk G dv dvs) (h : RPV G (callD f n dv args L) B A H Q E) : toSp G n f (vs ++ dvs) H Q E := by
  unfold callD at h
  by_cases z : args.length + dv.length = n
  · rw [if_pos z] at h
    exact call_sp (by rw [List.length_append, r.len, (hd B).len]; exact z) C (RepRs.append (RepRs.data (hd B)) r) h
  · rw [if_neg z] at h
    exact h.elim
theorem Same.upd_new {B : Hp} {p : Addr} {o : HO} (h : B p = none) : Same B (upd B p o) := fun b v z => by rw [upd_ne (ne_of_none z h)]; exact z
theorem CRep.cut {N : List Addr} {c d : Cell} {o : HO} (h : c.ren (fun n => if n < A.length then some n else none) = some d) (r : CRep G B (A ++ N) c o) : CRep G B A d o := r.ren (fun n m a e ha => by
  by_cases q : n < A.length
  · rw [if_pos q] at e
    cases e
    rw [List.getElem?_append_left q] at ha
    exact ha
  · rw [if_neg q] at e
    cases e) h
/-- C(..) -/
theorem make_sp {imm : Bool} {c : Nat} {args : List Rv} {vs : List V} (hn : vs.length + 1 = n) (C : Ctx G B A L H) (r : RepRs G B A args vs) (h : RPV G (makeF imm c f args L) B A H Q E) :
    ∀ x dx, H x = none → H dx = none → dx ≠ x → toSp G n f (.ref x :: vs) (upd (upd H dx (.own x)) x (.ins (G.cl c) dx [])) (fun v H2 => v = .non ∧ Q (.ref x) H2) E := fun x dx hx hdx ne => by
  obtain ⟨c1, x1, _⟩ := C.newB (o := .own x) hdx
  have hx1 : upd H dx (.own x) x = none := by
    rw [upd_ne (Ne.symm ne)]
    exact hx
  obtain ⟨c2, x2, g2⟩ := c1.newA (o := .ins (G.cl c) dx []) (c := .obj c []) hx1 ⟨dx, [], by rw [List.zip_nil_right], Nat.zero_le _, rfl⟩
  have x12 := x1.trans x2
  refine call_sp (args := .loc L.length :: args) (by rw [List.length_cons]; exact hn) c2 ⟨.ref x, vs, rfl, ⟨x, g2, rfl⟩, r.mono x12.base x12.Pre⟩ ?_
  unfold makeF at h
  refine RP.mono (Q := fun v H2 => v = .non ∧ Q (.ref x) H2) ?_ fun b H' q => q
  cases hc : callF f (.loc L.length :: args) (L ++ [.obj c []]) with
  | bad =>
    rw [hc] at h
    exact h.elim
  | exc k xs L1 =>
    rw [hc] at h
    have h2 : RPV G (.exc k xs L1) B A H Q E := h
    exact fun B' A' H' cls d y cc rx => h2 B' A' H' cls d (x12.trans y) cc rx
  | ok v L1 =>
    rw [hc] at h
    intro B' A' H' b y cc rv
    cases v with
    | loc m => exact h.elim
    | d v =>
      cases v with
      | non =>
        refine ⟨rv, ?_⟩
        obtain ⟨N, eN, nN⟩ := y.pre
        have gx : A'[L.length]? = some x := by
          rw [eN]
          exact Pre.get (A := A ++ [x]) ⟨N, rfl⟩ g2
        cases imm with
        | false =>
          have h2 : RPV G (.ok (.loc L.length) L1) B A H Q E := h
          exact h2 B' A' H' (.ref x) (x12.trans y) cc ⟨x, gx, rfl⟩
        | true =>
          have h2 : RPV G (match L1[L.length]? with
            | some (.obj c' xs) => (match pures xs with
              | some ds => (match crens (fun n => if n < L.length then some n else none) (L1.take L.length) with
                | some L2 => if L1.length = L.length + 1 then .ok (.d (.obj c' ds)) L2 else .bad
                | none => .bad)
              | none => .bad)
            | _ => (.bad : Res Rv)) B A H Q E := h
          cases e1 : L1[L.length]? with
          | none =>
            rw [e1] at h2
            exact h2.elim
          | some cell =>
            rw [e1] at h2
            cases cell with
            | obj c' xs =>
              dsimp only at h2
              cases e2 : pures xs with
              | none =>
                rw [e2] at h2
                exact h2.elim
              | some ds =>
                rw [e2] at h2
                dsimp only at h2
                cases e3 : crens (fun n => if n < L.length then some n else none) (L1.take L.length) with
                | none =>
                  rw [e3] at h2
                  exact h2.elim
                | some L2 =>
                  rw [e3] at h2
                  dsimp only at h2
                  by_cases hl : L1.length = L.length + 1
                  · rw [if_pos hl] at h2
                    have lN : N = [] := by
                      have := cc.len
                      rw [eN, List.length_append, List.length_append, List.length_singleton, C.len] at this
                      exact List.length_eq_zero_iff.mp (by omega)
                    rw [lN, List.append_nil] at eN
                    subst eN
                    obtain ⟨o, e4, dx', vs', e5, e6, e7⟩ := cc.at_ _ _ _ gx e1
                    have hB' : B' x = none := cc.off _ _ _ gx e1 (rfl)
                    have sm := Same.upd_new (o := o) hB'
                    have hxA : x ∉ A := fun z => by
                      obtain ⟨u, e⟩ := C.mem z
                      rw [hx] at e
                      cases e
                    obtain ⟨l2, gg⟩ := crens_get e3
                    have y2 := x12.trans y
                    refine h2 (upd B' x o) A H' (.ref x) ⟨fun a u e => sm _ _ (y2.base _ _ e), ⟨[], by simp, fun _ h => nomatch h⟩, y2.fr, y2.there, fun a u e => ?_⟩ ⟨?_, ?_, C.nd, fun m a d ha hd => ?_, fun m a d ha hd hdd => ?_, fun m a d ha hd => ?_⟩ ⟨x, dx', vs', rfl, ?_, ?_, ?_⟩
                    · by_cases z : a = x
                      · rw [z]
                        exact .inr (.inl hx)
                      · rw [upd_ne z] at e
                        exact y2.grow a u e
                    · rw [l2, List.length_take, hl, C.len]
                      omega
                    · intro a u e
                      by_cases z : a = x
                      · subst z
                        rw [upd_same] at e
                        rw [e4, e]
                      · rw [upd_ne z] at e
                        exact cc.sub a u e
                    · obtain ⟨c0, h3, h4⟩ := gg m d hd
                      have hm : m < A.length := (List.getElem?_eq_some_iff.mp ha).1
                      rw [List.getElem?_take_of_lt (by rw [← C.len]; exact hm)] at h3
                      obtain ⟨u, h5, h6⟩ := cc.at_ m a c0 (by rw [List.getElem?_append_left hm]; exact ha) h3
                      rw [← C.len] at h4
                      exact ⟨u, h5, (h6.cut h4).mono sm (Pre.refl A)⟩
                    · obtain ⟨c0, h3, h4⟩ := gg m d hd
                      have hm : m < A.length := (List.getElem?_eq_some_iff.mp ha).1
                      rw [List.getElem?_take_of_lt (by rw [← C.len]; exact hm)] at h3
                      rw [upd_ne fun (z : a = x) => hxA (by rw [← z]; exact List.mem_of_getElem? ha)]
                      exact cc.off m a c0 (by rw [List.getElem?_append_left hm]; exact ha) h3 (Cell.ren_live h4 hdd)
                    · obtain ⟨c0, h3, h4⟩ := gg m _ hd
                      have hm : m < A.length := (List.getElem?_eq_some_iff.mp ha).1
                      rw [List.getElem?_take_of_lt (by rw [← C.len]; exact hm)] at h3
                      obtain ⟨c', rfl⟩ := Cell.ren_fz h4
                      exact (cc.fz m a c' (by rw [List.getElem?_append_left hm]; exact ha) h3).imp fun o e => sm _ _ e
                    · rw [upd_same, e5]
                    · rw [← (e7.pure e2).len, e7.len]
                      exact e6
                    · exact Reps.mono sm _ _ (e7.pure e2)
                  · rw [if_neg hl] at h2
                    exact h2.elim
            | _ => exact h2.elim
      | _ => exact h.elim
end
/-- a def that may be called by its name, with these defaults -/
structure CalD (G : Cfg) (P : Program) (w : World) (K : PySem.W.Frag) (mg : PySem.Str → Option Value) (base : Heap) (k : Nat) (x : PySem.Str) (fn : Fn) (n : Nat) (dv : List D) : Prop where
  ex : ∃ (f : Addr) (fd : FuncData) (ps : List PySem.Str) (ds : List Value) (dvs : List V), FnOk P w K mg base (L2.CX P w) k f fd ps (toSp G n fn) ∧ mg x = some (.ref f) ∧ PySem.W.keepIn K (.ref f) = true ∧ Binds K fd ps ds ∧ Vals dvs ds ∧ DvOk G dv dvs
/-- a method of the class c -/
structure MetD (G : Cfg) (P : Program) (w : World) (K : PySem.W.Frag) (mg : PySem.Str → Option Value) (base : Heap) (k : Nat) (c : Nat) (m : PySem.Str) (fn : Fn) (n : Nat) (dv : List D) : Prop where
  ex : ∃ (f : Addr) (fd : FuncData) (ps : List PySem.Str) (ds : List Value) (dvs : List V), FnOk P w K mg base (L2.CX P w) k f fd ps (toSp G n fn) ∧ Cls K (G.cl c) ∧ Meth K (G.cl c) m f ∧ Binds K fd ps ds ∧ Vals dvs ds ∧ DvOk G dv dvs
  nm : m ∉ G.nm c
/-- a class that may be made by its name; fn: its __init__ -/
structure MakD (G : Cfg) (P : Program) (w : World) (K : PySem.W.Frag) (mg : PySem.Str → Option Value) (base : Heap) (k : Nat) (x : PySem.Str) (c : Nat) (fn : Fn) (n : Nat) (dv : List D) : Prop where
  ex : ∃ (f : Addr) (fd : FuncData) (ps : List PySem.Str) (ds : List Value) (dvs : List V), FnOk P w K mg base (L2.CX P w) k f fd ps (toSp G n fn) ∧ Mk K (G.cl c) f ∧ mg x = some (.ref (G.cl c)) ∧ Binds K fd ps ds ∧ Vals dvs ds ∧ DvOk G dv dvs
/-- how keywords put the values in order -/
def GOk (G : Cfg) (gD : List Rv → List Rv → List Rv) (gV : List V → List V → List V) : Prop := ∀ (B : Hp) (A : List Addr) (xs ys : List Rv) (vs zs : List V), RepRs G B A xs vs → RepRs G B A ys zs → RepRs G B A (gD xs ys) (gV vs zs)
def GMk (G : Cfg) (gD : List Rv → List Rv → List Rv) (gV : List V → List V → List V) : Prop := ∀ (v : V) (vs zs : List V), ∃ rest, gV (v :: vs) zs = v :: rest ∧ ∀ (B : Hp) (A : List Addr) (xs ys : List Rv), RepRs G B A xs vs → RepRs G B A ys zs → RepRs G B A (gD xs ys) rest
/-- so many values -/
def AL (m : DA) (i : Nat) : Prop := ∀ ρ L xs L', m ρ L = .ok xs L' → xs.length = i
theorem al_nil : AL aN 0 := fun ρ L xs L' h => by
  cases h
  rfl
theorem al_cons {e : DE} {m : DA} {i : Nat} (h : AL m i) : AL (aC e m) (i + 1) := fun ρ L xs L' e1 => by
  have e2 : ((e ρ L).bind fun x L1 => (m ρ L1).bind fun xs L2 => Res.ok (x :: xs) L2) = .ok xs L' := e1
  cases h1 : e ρ L with
  | bad => rw [h1] at e2; cases e2
  | exc c xs L => rw [h1] at e2; cases e2
  | ok x L1 =>
    rw [h1, Res.bind_ok] at e2
    cases h2 : m ρ L1 with
    | bad => rw [h2] at e2; cases e2
    | exc c xs L => rw [h2] at e2; cases e2
    | ok ys L2 =>
      rw [h2, Res.bind_ok] at e2
      cases e2
      rw [List.length_cons, h _ _ _ _ h2]
structure CalK (G : Cfg) (P : Program) (w : World) (K : PySem.W.Frag) (mg : PySem.Str → Option Value) (base : Heap) (k : Nat) (x : PySem.Str) (fn : Fn) (n i : Nat) (ks : List PySem.Str) (gD : List Rv → List Rv → List Rv) : Prop where
  ex : ∃ (f : Addr) (fd : FuncData) (ps : List PySem.Str) (g : List Value → List Value → List Value) (gV : List V → List V → List V), FnOk P w K mg base (L2.CX P w) k f fd ps (toSp G n fn) ∧ mg x = some (.ref f) ∧ PySem.W.keepIn K (.ref f) = true ∧ KBn K fd ps i ks g gV ∧ GOk G gD gV
structure MakK (G : Cfg) (P : Program) (w : World) (K : PySem.W.Frag) (mg : PySem.Str → Option Value) (base : Heap) (k : Nat) (x : PySem.Str) (c : Nat) (fn : Fn) (n i : Nat) (ks : List PySem.Str) (gD : List Rv → List Rv → List Rv) : Prop where
  ex : ∃ (f : Addr) (fd : FuncData) (ps : List PySem.Str) (g : List Value → List Value → List Value) (gV : List V → List V → List V), FnOk P w K mg base (L2.CX P w) k f fd ps (toSp G n fn) ∧ Mk K (G.cl c) f ∧ mg x = some (.ref (G.cl c)) ∧ KBn K fd ps (i + 1) ks g gV ∧ GMk G gD gV
/-- the values of the keywords -/
def QK (G : Cfg) (X : Cx) (Φ : Ph) (W : WX) (kws : List Keyword) (m : DA) : Prop := ∃ t, PK X kws t ∧ AR G Φ W t m
theorem lookup_zip_none {α : Type} {m : PySem.Str} : ∀ {ns : List PySem.Str} {vs : List α}, m ∉ ns → (ns.zip vs).lookup m = none
  | [], _, _ => rfl
  | n :: r, [], _ => rfl
  | n :: r, v :: vs, h => by
    have e : (m == n) = false := by
      rw [beq_eq_false_iff_ne]
      exact fun q => h (by rw [q]; exact List.mem_cons_self)
    show ((n, v) :: r.zip vs).lookup m = none
    rw [List.lookup_cons, e]
    exact lookup_zip_none fun q => h (List.mem_cons_of_mem _ q)
/-- an instance's object -/
theorem clsOf_at {G : Cfg} {B : Hp} {A : List Addr} {L : Led} {H : Hp} {x : Rv} {u : V} {c : Nat} (C : Ctx G B A L H) (r : RepR G B A x u) (h : clsOf L x = some c) : ∃ a dx vs, u = .ref a ∧ H a = some (.ins (G.cl c) dx ((G.nm c).zip vs)) := by
  cases x with
  | d x =>
    cases x with
    | obj c' xs =>
      obtain ⟨a, dx, vs, e1, e2, e3, e4⟩ := r
      have e5 : c' = c := Option.some.inj h
      subst e5
      exact ⟨a, dx, vs, e1, C.sub _ _ e2⟩
    | _ => cases h
  | loc n =>
    have h1 : (match L[n]? with | some (.obj c _) => some c | _ => none) = some c := h
    cases e : L[n]? with
    | none =>
      rw [e] at h1
      cases h1
    | some cell =>
      rw [e] at h1
      cases cell with
      | obj c' xs =>
        have e5 : c' = c := Option.some.inj h1
        subst e5
        obtain ⟨a, ha, eu⟩ := r
        obtain ⟨o, e1, dx, vs, e2, _, _⟩ := C.cell ha e
        exact ⟨a, dx, vs, eu, by rw [e1, e2]⟩
      | _ => cases h1
section
variable {G : Cfg} {X : Cx} {Φ : Ph} {W : WX} {k j n i c : Nat} {x m : PySem.Str} {fn : Fn} {dv : List D} {p pos apos kpos : Pos} {e o : Expr} {es : List Expr} {kws : List Keyword} {ma mk : DA} {mo me : DE} {ks : List PySem.Str} {gD : List Rv → List Rv → List Rv} {nm : Option PySem.Str}
theorem qk_nil : QK G X Φ W [] aN := ⟨_, pk_nil, ar_nil⟩
theorem qk_cons (ha : QE G X Φ W e me) (hr : QK G X Φ W kws mk) : QK G X Φ W (⟨nm, e, kpos⟩ :: kws) (aC me mk) := by
  obtain ⟨t, p, k⟩ := ha
  obtain ⟨t', p', k'⟩ := hr
  exact ⟨_, pk_cons p p', ar_cons k k'⟩
theorem qe_call (c : CalD G X.prog X.w X.K X.mg X.base k x fn n dv) (hr : Room j X.A) (hx : ∀ σ, PassesAt (L2.CX X.prog X.w) X σ (WE W σ)) (hk : k ≤ j) (hg : Gl X x) (ha : QA G X Φ W (e :: es) ma) (hdb : (x == ("__debug__" : PySem.Str)) = false := by decide)
    (he : starEach (e :: es) X.env = (false, eval e X.env) :: starEach es X.env := by rfl) (hpl : (backTo pos (starEach es X.env)).any (·.1) = false := by rfl) : QE G X Φ W (.Call (.Name x p) (e :: es) [] pos) (eN (callD fn n dv) ma) := by
  obtain ⟨f, fd, ps, ds, dvs, F, hm, kp, hb, hd, hv⟩ := c.ex
  obtain ⟨t, pa, ka⟩ := ha
  exact ⟨_, pe_callSD F (hr.mono hk) hg hm kp hb hd hx pa hdb he hpl, fun σ H B A ρ L Q S q => ka σ H B A ρ L _ S (RP.bind q fun xs L1 B1 A1 H1 us x1 c1 r1 q1 => callD_sp c1 r1 hv q1)⟩
theorem qe_call0 (c : CalD G X.prog X.w X.K X.mg X.base k x fn n dv) (hr : Room j X.A) (hx : ∀ σ, PassesAt (L2.CX X.prog X.w) X σ (WE W σ)) (hk : k ≤ j) (hg : Gl X x) (hdb : (x == ("__debug__" : PySem.Str)) = false := by decide) : QE G X Φ W (.Call (.Name x p) [] [] pos) (eN (callD fn n dv) aN) := by
  obtain ⟨f, fd, ps, ds, dvs, F, hm, kp, hb, hd, hv⟩ := c.ex
  exact ⟨_, pe_callQ0 F (hr.mono hk) hg hm kp hb hd hx hdb, fun σ H B A ρ L Q S q => callD_sp (args := []) (vs := []) S.ctx rfl hv q⟩
theorem qe_callk (c : CalK G X.prog X.w X.K X.mg X.base k x fn n i ks gD) (hr : Room j X.A) (hx : ∀ σ, PassesAt (L2.CX X.prog X.w) X σ (WE W σ)) (hk : k ≤ j) (hg : Gl X x) (ha : QA G X Φ W (e :: es) ma) (hkw : QK G X Φ W kws mk)
    (la : AL ma i) (lk : AL mk ks.length)
    (hall : (backToKw pos (keywordEach kws X.env)).all (·.1.isSome) = true := by rfl) (hks : (backToKw pos (keywordEach kws X.env)).filterMap (·.1) = ks := by rfl)
    (hdb : (x == ("__debug__" : PySem.Str)) = false := by decide) (he : starEach (e :: es) X.env = (false, eval e X.env) :: starEach es X.env := by rfl)
    (hpl : ((backTo pos (starEach (e :: es) X.env)).any (·.1) || (backToKw pos (keywordEach kws X.env)).any (·.1.isNone)) = false := by rfl) : QE G X Φ W (.Call (.Name x p) (e :: es) kws pos) (callK fn n gD ma mk) := by
  obtain ⟨f, fd, ps, g, gV, F, hm, kp, hb, hv⟩ := c.ex
  obtain ⟨t, pa, ka⟩ := ha
  obtain ⟨tk, pk, kk⟩ := hkw
  refine ⟨_, pe_callKQ F (hr.mono hk) hg hm kp hb hx pa pk hall hks hdb he hpl, fun σ H B A ρ L Q S q => ?_⟩
  have q' : RPV G ((ma ρ L).bind fun xs L1 => (mk ρ L1).bind fun ys L2 => if (gD xs ys).length = n then callF fn (gD xs ys) L2 else .bad) B A H Q (fun c d H' => W c d σ H') := q
  refine ka σ H B A ρ L _ S ?_
  cases e1 : ma ρ L with
  | bad => rw [e1] at q'; exact q'.elim
  | exc c xs L1 => rw [e1] at q'; exact q'
  | ok xs L1 =>
    rw [e1] at q'
    intro B1 A1 H1 us x1 c1 r1
    have q2 := RP.ext x1 q'
    refine kk σ H1 B1 A1 ρ L1 _ (S.step x1 c1) ?_
    have q3 : RPV G ((mk ρ L1).bind fun ys L2 => if (gD xs ys).length = n then callF fn (gD xs ys) L2 else .bad) B1 A1 H1 Q (fun c d H' => W c d σ H') := q2
    cases e2 : mk ρ L1 with
    | bad => rw [e2] at q3; exact q3.elim
    | exc c xs L1 => rw [e2] at q3; exact q3
    | ok ys L2 =>
      rw [e2] at q3
      intro B2 A2 H2 zs x2 c2 r2
      have q4 := RP.ext x2 q3
      refine ⟨by rw [r1.len]; exact la _ _ _ _ e1, by rw [r2.len]; exact lk _ _ _ _ e2, ?_⟩
      have q5 : RPV G (if (gD xs ys).length = n then callF fn (gD xs ys) L2 else .bad) B2 A2 H2 Q (fun c d H' => W c d σ H') := q4
      by_cases z : (gD xs ys).length = n
      · rw [if_pos z] at q5
        have rr := hv B2 A2 xs ys us zs (r1.mono x2.base x2.Pre) r2
        exact call_sp (by rw [rr.len]; exact z) c2 rr q5
      · rw [if_neg z] at q5
        exact q5.elim
theorem er_meth {to : TE} {ta : TA} {dvs : List V} (hv : DvOk G dv dvs) (hm : m ∉ G.nm c) (ko : ER G Φ W to mo) (ka : AR G Φ W ta ma) : ER G Φ W (tMethQ (G.cl c) m (toSp G n fn) dvs (WE W) to ta) (methD c fn n dv mo ma) := fun σ H B A ρ L Q S q =>
  ko σ H B A ρ L _ S (RP.bind q fun x L1 B1 A1 H1 u x1 c1 r1 q1 => by
    by_cases hc : clsOf L1 x = some c
    · rw [if_pos hc] at q1
      obtain ⟨a, dx, vs, e1, e2⟩ := clsOf_at c1 r1 hc
      refine ⟨a, dx, _, e1, e2, lookup_zip_none hm, ?_⟩
      exact ka σ H1 B1 A1 ρ L1 _ (S.step x1 c1) (RP.bind q1 fun xs L2 B2 A2 H2 us x2 c2 r2 q2 => callD_sp (args := x :: xs) (vs := u :: us) c2 ⟨u, us, rfl, r1.mono x2.base x2.Pre, r2⟩ hv q2)
    · rw [if_neg hc] at q1
      exact q1.elim)
theorem qe_meth {pl : Sem Bool} (ho : QE G X Φ W o mo) (cm : MetD G X.prog X.w X.K X.mg X.base k c m fn n dv) (hr : Room j X.A) (hx : ∀ σ, PassesAt (L2.CX X.prog X.w) X σ (WE W σ)) (hk : k ≤ j) (ha : QA G X Φ W (e :: es) ma)
    (hst : starEach (e :: es) X.env = (false, eval e X.env) :: starEach es X.env := by rfl) (hpl : (backTo pos (starEach es X.env)).any (·.1) = false := by rfl)
    (ht : eval (.Call (.Attribute o m apos) (e :: es) [] pos) X.env = (do
      let ov ← eval o X.env
      standAt apos.atName
      let (f, first) ← holding [ov] (getMethod ov m pl)
      callWith pos f first (backTo pos (starEach (e :: es) X.env)) (backToKw pos (keywordEach [] X.env))) := by rfl) :
    QE G X Φ W (.Call (.Attribute o m apos) (e :: es) [] pos) (methD c fn n dv mo ma) := by
  obtain ⟨f, fd, ps, ds, dvs, F, hc, hm, hb, hd, hv⟩ := cm.ex
  obtain ⟨to, po, ko⟩ := ho
  obtain ⟨t, pa, ka⟩ := ha
  exact ⟨_, pe_methQ po hc hm F (hr.mono hk) hb hd hx pa hst hpl ht, er_meth hv cm.nm ko ka⟩
theorem qe_meth0 {pl : Sem Bool} (ho : QE G X Φ W o mo) (cm : MetD G X.prog X.w X.K X.mg X.base k c m fn n dv) (hr : Room j X.A) (hx : ∀ σ, PassesAt (L2.CX X.prog X.w) X σ (WE W σ)) (hk : k ≤ j)
    (ht : eval (.Call (.Attribute o m apos) [] [] pos) X.env = (do
      let ov ← eval o X.env
      standAt apos.atName
      let (f, first) ← holding [ov] (getMethod ov m pl)
      callWith pos f first (backTo pos (starEach [] X.env)) (backToKw pos (keywordEach [] X.env))) := by rfl) :
    QE G X Φ W (.Call (.Attribute o m apos) [] [] pos) (methD c fn n dv mo aN) := by
  obtain ⟨f, fd, ps, ds, dvs, F, hc, hm, hb, hd, hv⟩ := cm.ex
  obtain ⟨to, po, ko⟩ := ho
  exact ⟨_, pe_methQ0 po hc hm F (hr.mono hk) hb hd hx ht, er_meth hv cm.nm ko ar_nil⟩
theorem makeD_sp {imm : Bool} {B : Hp} {A : List Addr} {L : Led} {H : Hp} {Q : VK} {E : XK} {args : List Rv} {vs dvs : List V} (C : Ctx G B A L H) (r : RepRs G B A args vs) (hd : DvOk G dv dvs) (h : RPV G (makeD imm c fn n dv args L) B A H Q E) :
    ∀ x dx, H x = none → H dx = none → dx ≠ x → toSp G n fn (.ref x :: (vs ++ dvs)) (upd (upd H dx (.own x)) x (.ins (G.cl c) dx [])) (fun v H2 => v = .non ∧ Q (.ref x) H2) E := by
  unfold makeD at h
  by_cases z : args.length + dv.length + 1 = n
  · rw [if_pos z] at h
    exact make_sp (by rw [List.length_append, r.len, (hd B).len]; exact z) C (RepRs.append (RepRs.data (hd B)) r) h
  · rw [if_neg z] at h
    exact h.elim
theorem qe_make (imm : Bool) (cm : MakD G X.prog X.w X.K X.mg X.base k x c fn n dv) (hr : Room j X.A) (hx : ∀ σ, PassesAt (L2.CX X.prog X.w) X σ (WE W σ)) (hk : k + 1 ≤ j) (hg : Gl X x) (ha : QA G X Φ W (e :: es) ma) (hdb : (x == ("__debug__" : PySem.Str)) = false := by decide)
    (he : starEach (e :: es) X.env = (false, eval e X.env) :: starEach es X.env := by rfl) (hpl : (backTo pos (starEach es X.env)).any (·.1) = false := by rfl) : QE G X Φ W (.Call (.Name x p) (e :: es) [] pos) (eN (makeD imm c fn n dv) ma) := by
  obtain ⟨f, fd, ps, ds, dvs, F, M, hm, hb, hd, hv⟩ := cm.ex
  obtain ⟨t, pa, ka⟩ := ha
  exact ⟨_, pe_makeQ M F (hr.mono hk) hg hm hb hd hx pa hdb he hpl, fun σ H B A ρ L Q S q => ka σ H B A ρ L _ S (RP.bind q fun xs L1 B1 A1 H1 us x1 c1 r1 q1 => makeD_sp c1 r1 hv q1)⟩
theorem qe_make0 (imm : Bool) (cm : MakD G X.prog X.w X.K X.mg X.base k x c fn n dv) (hr : Room j X.A) (hx : ∀ σ, PassesAt (L2.CX X.prog X.w) X σ (WE W σ)) (hk : k + 1 ≤ j) (hg : Gl X x) (hdb : (x == ("__debug__" : PySem.Str)) = false := by decide) : QE G X Φ W (.Call (.Name x p) [] [] pos) (eN (makeD imm c fn n dv) aN) := by
  obtain ⟨f, fd, ps, ds, dvs, F, M, hm, hb, hd, hv⟩ := cm.ex
  exact ⟨_, pe_makeQ0 M F (hr.mono hk) hg hm hb hd hx hdb, fun σ H B A ρ L Q S q => makeD_sp (args := []) (vs := []) S.ctx rfl hv q⟩
theorem qe_makek (imm : Bool) (cm : MakK G X.prog X.w X.K X.mg X.base k x c fn n i ks gD) (hr : Room j X.A) (hx : ∀ σ, PassesAt (L2.CX X.prog X.w) X σ (WE W σ)) (hk : k + 1 ≤ j) (hg : Gl X x) (ha : QA G X Φ W (e :: es) ma) (hkw : QK G X Φ W kws mk)
    (la : AL ma i) (lk : AL mk ks.length)
    (hall : (backToKw pos (keywordEach kws X.env)).all (·.1.isSome) = true := by rfl) (hks : (backToKw pos (keywordEach kws X.env)).filterMap (·.1) = ks := by rfl)
    (hdb : (x == ("__debug__" : PySem.Str)) = false := by decide) (he : starEach (e :: es) X.env = (false, eval e X.env) :: starEach es X.env := by rfl)
    (hpl : ((backTo pos (starEach (e :: es) X.env)).any (·.1) || (backToKw pos (keywordEach kws X.env)).any (·.1.isNone)) = false := by rfl) : QE G X Φ W (.Call (.Name x p) (e :: es) kws pos) (makeK imm c fn n gD ma mk) := by
  obtain ⟨f, fd, ps, g, gV, F, M, hm, hb, hv⟩ := cm.ex
  obtain ⟨t, pa, ka⟩ := ha
  obtain ⟨tk, pk, kk⟩ := hkw
  refine ⟨_, pe_makeKQ M F (hr.mono hk) hg hm hb hx pa pk hall hks hdb he hpl, fun σ H B A ρ L Q S q => ?_⟩
  have q' : RPV G ((ma ρ L).bind fun xs L1 => (mk ρ L1).bind fun ys L2 => if (gD xs ys).length + 1 = n then makeF imm c fn (gD xs ys) L2 else .bad) B A H Q (fun c d H' => W c d σ H') := q
  refine ka σ H B A ρ L _ S ?_
  cases e1 : ma ρ L with
  | bad => rw [e1] at q'; exact q'.elim
  | exc c xs L1 => rw [e1] at q'; exact q'
  | ok xs L1 =>
    rw [e1] at q'
    intro B1 A1 H1 us x1 c1 r1
    have q2 := RP.ext x1 q'
    refine kk σ H1 B1 A1 ρ L1 _ (S.step x1 c1) ?_
    have q3 : RPV G ((mk ρ L1).bind fun ys L2 => if (gD xs ys).length + 1 = n then makeF imm c fn (gD xs ys) L2 else .bad) B1 A1 H1 Q (fun c d H' => W c d σ H') := q2
    cases e2 : mk ρ L1 with
    | bad => rw [e2] at q3; exact q3.elim
    | exc c xs L1 => rw [e2] at q3; exact q3
    | ok ys L2 =>
      rw [e2] at q3
      intro B2 A2 H2 zs x2 c2 r2
      have q4 := RP.ext x2 q3
      refine ⟨by rw [r1.len]; exact la _ _ _ _ e1, by rw [r2.len]; exact lk _ _ _ _ e2, ?_⟩
      have q5 : RPV G (if (gD xs ys).length + 1 = n then makeF imm c fn (gD xs ys) L2 else .bad) B2 A2 H2 Q (fun c d H' => W c d σ H') := q4
      by_cases z : (gD xs ys).length + 1 = n
      · rw [if_pos z] at q5
        intro x dx hx1 hx2 ne
        obtain ⟨rest, er, hr2⟩ := hv (.ref x) us zs
        have rr := hr2 B2 A2 xs ys (r1.mono x2.base x2.Pre) r2
        rw [er]
        exact make_sp (by rw [rr.len]; exact z) c2 rr q5 x dx hx1 hx2 ne
      · rw [if_neg z] at q5
        exact q5.elim
end
end Dl

set_option Elab.async false
set_option linter.all false
set_option maxRecDepth 100000
/-! Si: fields, constants, stores, displays. -/
namespace Dl
open PySem PySem.Spec PyProof.Rows L2

theorem lookup_zip {α : Type} {f : PySem.Str} : ∀ {ns : List PySem.Str} {vs : List α} {i : Nat} {v : α}, ns.Nodup → ns[i]? = some f → vs[i]? = some v → (ns.zip vs).lookup f = some v
  | [], _, i, _, _, h, _ => by simp at h
  | _ :: _, [], i, _, _, _, h => by simp at h
  | n :: r, w :: vs, 0, v, nd, h, hv => by
    have e : n = f := Option.some.inj h
    have e2 : w = v := Option.some.inj hv
    show ((n, w) :: r.zip vs).lookup f = some v
    rw [List.lookup_cons, e, beq_self_eq_true, e2]
  | n :: r, w :: vs, i + 1, v, nd, h, hv => by
    have h' : r[i]? = some f := h
    have hv' : vs[i]? = some v := hv
    have e : (f == n) = false := by
      rw [beq_eq_false_iff_ne]
      exact fun q => (List.nodup_cons.mp nd).1 (by rw [← q]; exact List.mem_of_getElem? h')
    show ((n, w) :: r.zip vs).lookup f = some v
    rw [List.lookup_cons, e]
    exact lookup_zip (List.nodup_cons.mp nd).2 h' hv'
theorem putF_zip {f : PySem.Str} {v : V} : ∀ {ns : List PySem.Str} {vs : List V} {i : Nat}, ns.Nodup → ns[i]? = some f → i < vs.length → putF f v (ns.zip vs) = ns.zip (vs.set i v)
  | [], _, i, _, h, _ => by simp at h
  | _ :: _, [], i, _, _, h => by simp at h
  | n :: r, w :: vs, 0, nd, h, _ => by
    have e : n = f := Option.some.inj h
    show (if n = f then (n, v) :: r.zip vs else (n, w) :: putF f v (r.zip vs)) = _
    rw [if_pos e]
    rfl
  | n :: r, w :: vs, i + 1, nd, h, hi => by
    have h' : r[i]? = some f := h
    have e : ¬ n = f := fun q => (List.nodup_cons.mp nd).1 (by rw [q]; exact List.mem_of_getElem? h')
    show (if n = f then (n, v) :: r.zip vs else (n, w) :: putF f v (r.zip vs)) = _
    rw [if_neg e, putF_zip (List.nodup_cons.mp nd).2 h' (by rw [List.length_cons] at hi; omega)]
    rfl
theorem putF_new {f : PySem.Str} {v : V} : ∀ {ns : List PySem.Str} {vs : List V}, ns.Nodup → ns[vs.length]? = some f → putF f v (ns.zip vs) = ns.zip (vs ++ [v])
  | [], _, _, h => by simp at h
  | n :: r, [], nd, h => by
    have e : n = f := Option.some.inj h
    rw [e]
    show [(f, v)] = (f, v) :: r.zip []
    rw [List.zip_nil_right]
  | n :: r, w :: vs, nd, h => by
    have h' : r[vs.length]? = some f := h
    have e : ¬ n = f := fun q => (List.nodup_cons.mp nd).1 (by rw [q]; exact List.mem_of_getElem? h')
    show (if n = f then (n, v) :: r.zip vs else (n, w) :: putF f v (r.zip vs)) = _
    rw [if_neg e, putF_new (List.nodup_cons.mp nd).2 h']
    rfl
/-- a field: where it stands in each class -/
structure FldOk (G : Cfg) (K : PySem.W.Frag) (f : PySem.Str) (t : List (Nat × Nat)) : Prop where
  ok : ∀ c i, ix2 t c = some i → Cls K (G.cl c) ∧ NoAttr K (G.cl c) f ∧ (G.nm c)[i]? = some f ∧ (G.nm c).Nodup ∧ (G.nm c).length < 900
theorem fldOk_nil {G : Cfg} {K : PySem.W.Frag} {f : PySem.Str} : FldOk G K f [] := ⟨fun c i h => by cases h⟩
theorem fldOk_cons {G : Cfg} {K : PySem.W.Frag} {f : PySem.Str} {t : List (Nat × Nat)} {c i : Nat} (hc : Cls K (G.cl c)) (hn : NoAttr K (G.cl c) f) (h1 : (G.nm c)[i]? = some f) (h2 : (G.nm c).Nodup) (h3 : (G.nm c).length < 900) (h : FldOk G K f t) : FldOk G K f ((c, i) :: t) := ⟨fun c' i' e => by
  have e1 : (if c = c' then some i else ix2 t c') = some i' := e
  by_cases q : c = c'
  · rw [if_pos q] at e1
    cases e1
    subst q
    exact ⟨hc, hn, h1, h2, h3⟩
  · rw [if_neg q] at e1
    exact h.ok c' i' e1⟩
theorem Reps.rget {G : Cfg} {B : Hp} {xs : List D} {vs : List V} (r : Reps G B xs vs) {i : Nat} {x : D} (h : xs[i]? = some x) : ∃ v, vs[i]? = some v ∧ Rep G B x v := Reps.get r h
section
variable {G : Cfg} {X : Cx} {Φ : Ph} {W : WX} {pos pos' : Pos} {e o : Expr} {f : PySem.Str} {t : List (Nat × Nat)} {m mo : DE}
theorem er_fld {te : TE} (F : FldOk G X.K f t) (k : ER G Φ W te m) : ER G Φ W (tFld X.K te f) (e1 (attrV t) m) := fun σ H B A ρ L Q S q =>
  k σ H B A ρ L _ S (RP.bind q fun x L1 B1 A1 H1 u x1 c1 r1 q1 => by
    cases x with
    | d x =>
      cases x with
      | obj c xs =>
        have q2 : RPV G (match (ix2 t c).bind (xs[·]?) with | some v => .ok (.d v) L1 | none => (.bad : Res Rv)) B1 A1 H1 Q (fun c d H' => W c d σ H') := q1
        cases e1 : (ix2 t c).bind (xs[·]?) with
        | none =>
          rw [e1] at q2
          exact q2.elim
        | some v =>
          rw [e1] at q2
          obtain ⟨i, h1, h2⟩ := bind_some e1
          obtain ⟨a, dx, vs, e2, e3, e4, e5⟩ := r1
          obtain ⟨w, h3, h4⟩ := Reps.rget e5 h2
          obtain ⟨f1, f2, f3, f4, f5⟩ := F.ok c i h1
          exact ⟨a, _, dx, _, w, e2, c1.sub _ _ e3, f1, f2, lookup_zip f4 f3 h3, q2 B1 A1 H1 w Ext.refl c1 h4⟩
      | _ => exact q1.elim
    | loc n =>
      have q2 : RPV G (match L1[n]? with | some (.obj c xs) => (match (ix2 t c).bind (xs[·]?) with | some v => .ok v L1 | none => .bad) | _ => (.bad : Res Rv)) B1 A1 H1 Q (fun c d H' => W c d σ H') := q1
      cases e0 : L1[n]? with
      | none =>
        rw [e0] at q2
        exact q2.elim
      | some cell =>
        rw [e0] at q2
        cases cell with
        | obj c xs =>
          dsimp only at q2
          cases e1 : (ix2 t c).bind (xs[·]?) with
          | none =>
            rw [e1] at q2
            exact q2.elim
          | some v =>
            rw [e1] at q2
            obtain ⟨i, h1, h2⟩ := bind_some e1
            obtain ⟨a, ha, eu⟩ := r1
            obtain ⟨o, h3, dx, vs, h4, h5, h6⟩ := c1.cell ha e0
            obtain ⟨w, h7, h8⟩ := h6.get h2
            obtain ⟨f1, f2, f3, f4, f5⟩ := F.ok c i h1
            exact ⟨a, _, dx, _, w, eu, by rw [h3, h4], f1, f2, lookup_zip f4 f3 h7, q2 B1 A1 H1 w Ext.refl c1 h8⟩
        | _ => exact q2.elim)
/-- e.f -/
theorem qe_fld (F : FldOk G X.K f t) (h : QE G X Φ W e m) (hb : attributeBase e f X.env (eval e X.env) = eval e X.env := by rfl) : QE G X Φ W (.Attribute e f pos) (e1 (attrV t) m) := by
  obtain ⟨te, p, k⟩ := h
  exact ⟨_, pe_fld p hb, er_fld F k⟩
/-- o.f = e -/
theorem qs_fld (F : FldOk G X.K f t) (ho : QE G X Φ W o mo) (h : QE G X Φ W e m) (hs : swapsWith e (some (.Attribute o f pos')) pos.line X.env = pure false := by rfl) : QS G X Φ W (.Assign [.Attribute o f pos'] e pos) (sAttr t mo m) := by
  obtain ⟨te, p, k⟩ := h
  obtain ⟨to, po, ko⟩ := ho
  refine ⟨_, ps_fld po p hs, fun σ H B A ρ L D S q => k σ H B A ρ L _ S (FP.flow S q fun v L1 B1 A1 H1 u x1 s1 r1 q1 => ?_)⟩
  refine ko σ H1 B1 A1 ρ L1 _ s1 (FP.flow s1 q1 fun x L2 B2 A2 H2 w x2 s2 r2 q2 => ?_)
  have r1' := r1.mono x2.base x2.Pre
  cases x with
  | d x => exact q2.elim
  | loc n =>
    have q3 : FP G Φ W ((match L2[n]? with | some (.obj c xs) => (match ix2 t c with | some i => if i < xs.length then (.ok () (L2.set n (.obj c (xs.set i v))) : Res Unit) else if i = xs.length then .ok () (L2.set n (.obj c (xs ++ [v]))) else .bad | none => (.bad : Res Unit)) | _ => (.bad : Res Unit)).flow ρ fun _ L3 => .next ρ L3) B2 A2 H2 D := q2
    cases e0 : L2[n]? with
    | none =>
      rw [e0] at q3
      exact q3.elim
    | some cell =>
      rw [e0] at q3
      cases cell with
      | obj c xs =>
        dsimp only at q3
        cases e1 : ix2 t c with
        | none =>
          rw [e1] at q3
          exact q3.elim
        | some i =>
          rw [e1] at q3
          dsimp only at q3
          obtain ⟨a, ha, eu⟩ := r2
          obtain ⟨ob, h3, dx, vs, h4, h5, h6⟩ := s2.ctx.cell ha e0
          obtain ⟨f1, f2, f3, f4, f5⟩ := F.ok c i e1
          have lv := h6.len
          have hz : ((G.nm c).zip vs).length < 1000 := by
            rw [List.length_zip]
            omega
          have hi : i < (G.nm c).length := (List.getElem?_eq_some_iff.mp f3).1
          refine ⟨a, _, dx, _, eu, by rw [h3, h4], f1, f2, hz, ?_⟩
          by_cases z : i < xs.length
          · rw [if_pos z] at q3
            rw [putF_zip f4 f3 (by rw [lv]; exact z)]
            obtain ⟨c4, x4⟩ := s2.ctx.put (c' := .obj c (xs.set i v)) ha e0 rfl ⟨dx, vs.set i u, rfl, by rw [List.length_set]; exact h5, RepRs.set r1' i h6⟩
            exact q3 B2 A2 _ σ x4 (s2.step x4 c4)
          · rw [if_neg z] at q3
            by_cases z2 : i = xs.length
            · rw [if_pos z2] at q3
              rw [putF_new f4 (by rw [lv, ← z2]; exact f3)]
              obtain ⟨c4, x4⟩ := s2.ctx.put (c' := .obj c (xs ++ [v])) ha e0 rfl ⟨dx, vs ++ [u], rfl, by rw [List.length_append, List.length_singleton]; omega, RepRs.append (ys := [v]) (ws := [u]) ⟨u, [], rfl, r1', rfl⟩ h6⟩
              exact q3 B2 A2 _ σ x4 (s2.step x4 c4)
            · rw [if_neg z2] at q3
              exact q3.elim
      | _ => exact q3.elim
/-- a constant of a class or of the module -/
structure GloD (G : Cfg) (mg : PySem.Str → Option Value) (x : PySem.Str) (d : D) : Prop where
  ex : ∃ (v : V) (u : Value), mg x = some u ∧ RelV v u ∧ ∀ B, Rep G B d v
theorem qe_glo {x : PySem.Str} {d : D} (g : GloD G X.mg x d) (hg : Gl X x) (hd : (x == ("__debug__" : PySem.Str)) = false := by decide) : QE G X Φ W (.Name x pos) (cE d) := by
  obtain ⟨v, u, h1, h2, h3⟩ := g.ex
  exact ⟨_, pe_glob hg h1 h2 hd, fun σ H B A ρ L Q S q => q B A H v Ext.refl S.ctx (h3 B)⟩
structure ConD (G : Cfg) (K : PySem.W.Frag) (c : Nat) (f : PySem.Str) (d : D) : Prop where
  ex : ∃ (mc : Value) (v : V) (u : Value), ClX.CRead K (G.cl c) mc ∧ ClX.CVal K (G.cl c) mc f v u ∧ ∀ B, Rep G B d v
/-- C.f, C a class by its name -/
theorem qe_con {x : PySem.Str} {p : Pos} {c : Nat} {d : D} (g : GloD G X.mg x (.cls c)) (k : ConD G X.K c f d) (hg : Gl X x) (hd : (x == ("__debug__" : PySem.Str)) = false := by decide) (hb : attributeBase (.Name x p) f X.env (eval (.Name x p) X.env) = eval (.Name x p) X.env := by rfl) : QE G X Φ W (.Attribute (.Name x p) f pos) (cE d) := by
  obtain ⟨v, u, h1, h2, h3⟩ := g.ex
  obtain ⟨mc, v', u', h4, h5, h6⟩ := k.ex
  have e : v = .ref (G.cl c) := h3 (fun _ => none)
  subst e
  exact ⟨_, ClX.pe_cval (pe_glob hg h1 h2 hd) hb, fun σ H B A ρ L Q S q => ⟨G.cl c, mc, v', u', rfl, h4, h5, q B A H v' Ext.refl S.ctx (h6 B)⟩⟩
end
end Dl

set_option Elab.async false
set_option linter.all false
set_option maxRecDepth 100000
/-! Sj: item stores, dict displays, methods of lists. -/
namespace Dl
open PySem PySem.Spec PyProof.Rows L2

section
variable {G : Cfg} {B : Hp} {A : List Addr}
theorem KVs.any {q : Key} : ∀ {kvs : List (Key × D)} {ws : List (L2.Key × V)}, KVs G B kvs ws → (ws.any fun p => decide (p.1 = kOf q)) = kvs.any fun p => decide (p.1 = q)
  | [], _, r => by
    have e : _ = [] := r
    rw [e]
    rfl
  | p :: r, _, ⟨v, ws, e, _, t⟩ => by
    rw [e, List.any_cons, List.any_cons, KVs.any t]
    congr 1
    exact decide_eq_decide.mpr ⟨kOf_inj, fun z => by rw [z]⟩
theorem KVs.append1 {q : Key} {d : D} {v : V} (hd : Rep G B d v) : ∀ {kvs : List (Key × D)} {ws : List (L2.Key × V)}, KVs G B kvs ws → KVs G B (kvs ++ [(q, d)]) (ws ++ [(kOf q, v)])
  | [], _, r => by
    have e : _ = [] := r
    rw [e]
    exact ⟨v, [], rfl, hd, rfl⟩
  | p :: r, _, ⟨w, ws, e, h, t⟩ => by
    rw [e]
    exact ⟨w, _, rfl, h, KVs.append1 hd t⟩
theorem KVs.mapPut {q : Key} {d : D} {v : V} (hd : Rep G B d v) : ∀ {kvs : List (Key × D)} {ws : List (L2.Key × V)}, KVs G B kvs ws → KVs G B (kvs.map fun p => if p.1 = q then (p.1, d) else p) (ws.map fun p => if p.1 = kOf q then (p.1, v) else p)
  | [], _, r => by
    have e : _ = [] := r
    rw [e]
    exact rfl
  | p :: r, _, ⟨w, ws, e, h, t⟩ => by
    rw [e, List.map_cons, List.map_cons]
    by_cases z : p.1 = q
    · rw [if_pos z, if_pos (by rw [z])]
      exact ⟨v, _, rfl, hd, KVs.mapPut hd t⟩
    · rw [if_neg z, if_neg fun y => z (kOf_inj y)]
      exact ⟨w, _, rfl, h, KVs.mapPut hd t⟩
theorem KVs.put {q : Key} {d : D} {v : V} {kvs : List (Key × D)} {ws : List (L2.Key × V)} (hd : Rep G B d v) (r : KVs G B kvs ws) : KVs G B (Dl.put kvs q d) (putK ws (kOf q) v) := by
  unfold Dl.put putK
  rw [KVs.any r]
  by_cases z : (kvs.any fun p => decide (p.1 = q)) = true
  · rw [if_pos z, if_pos z]
    exact KVs.mapPut hd r
  · rw [if_neg z, if_neg z]
    exact KVs.append1 hd r
theorem KVs.len : ∀ {kvs : List (Key × D)} {ws : List (L2.Key × V)}, KVs G B kvs ws → ws.length = kvs.length
  | [], _, r => by
    have e : _ = [] := r
    rw [e]
    rfl
  | p :: r, _, ⟨v, ws, e, _, t⟩ => by rw [e, List.length_cons, List.length_cons, KVs.len t]
theorem mapK_inj {a b : List Key} (h : a.map kOf = b.map kOf) : a = b := List.map_inj_right (fun _ _ => kOf_inj) |>.mp h
theorem KTs.any {q : List Key} : ∀ {kvs : List (List Key × D)} {ws : List (List L2.Key × V)}, KTs G B kvs ws → (ws.any fun p => decide (p.1 = q.map kOf)) = kvs.any fun p => decide (p.1 = q)
  | [], _, r => by
    have e : _ = [] := r
    rw [e]
    rfl
  | p :: r, _, ⟨v, ws, e, _, t⟩ => by
    rw [e, List.any_cons, List.any_cons, KTs.any t]
    congr 1
    exact decide_eq_decide.mpr ⟨mapK_inj, fun z => by rw [z]⟩
theorem KTs.append1 {q : List Key} {d : D} {v : V} (hd : Rep G B d v) : ∀ {kvs : List (List Key × D)} {ws : List (List L2.Key × V)}, KTs G B kvs ws → KTs G B (kvs ++ [(q, d)]) (ws ++ [(q.map kOf, v)])
  | [], _, r => by
    have e : _ = [] := r
    rw [e]
    exact ⟨v, [], rfl, hd, rfl⟩
  | p :: r, _, ⟨w, ws, e, h, t⟩ => by
    rw [e]
    exact ⟨w, _, rfl, h, KTs.append1 hd t⟩
theorem KTs.mapPut {q : List Key} {d : D} {v : V} (hd : Rep G B d v) : ∀ {kvs : List (List Key × D)} {ws : List (List L2.Key × V)}, KTs G B kvs ws → KTs G B (kvs.map fun p => if p.1 = q then (p.1, d) else p) (ws.map fun p => if p.1 = q.map kOf then (p.1, v) else p)
  | [], _, r => by
    have e : _ = [] := r
    rw [e]
    exact rfl
  | p :: r, _, ⟨w, ws, e, h, t⟩ => by
    rw [e, List.map_cons, List.map_cons]
    by_cases z : p.1 = q
    · rw [if_pos z, if_pos (by rw [z])]
      exact ⟨v, _, rfl, hd, KTs.mapPut hd t⟩
    · rw [if_neg z, if_neg fun y => z (mapK_inj y)]
      exact ⟨w, _, rfl, h, KTs.mapPut hd t⟩
theorem KTs.put {q : List Key} {d : D} {v : V} {kvs : List (List Key × D)} {ws : List (List L2.Key × V)} (hd : Rep G B d v) (r : KTs G B kvs ws) : KTs G B (Dl.put kvs q d) (putK ws (q.map kOf) v) := by
  unfold Dl.put putK
  rw [KTs.any r]
  by_cases z : (kvs.any fun p => decide (p.1 = q)) = true
  · rw [if_pos z, if_pos z]
    exact KTs.mapPut hd r
  · rw [if_neg z, if_neg z]
    exact KTs.append1 hd r
theorem KTs.len : ∀ {kvs : List (List Key × D)} {ws : List (List L2.Key × V)}, KTs G B kvs ws → ws.length = kvs.length
  | [], _, r => by
    have e : _ = [] := r
    rw [e]
    rfl
  | p :: r, _, ⟨v, ws, e, _, t⟩ => by rw [e, List.length_cons, List.length_cons, KTs.len t]
/-- a record's entry -/
theorem any_zip {s : Txt} : ∀ {ks : List Txt} {vs : List V}, ks.length = vs.length → (((ks.map fun k => (Sum.inr (sOf k) : L2.Key)).zip vs).any fun p => decide (p.1 = Sum.inr (sOf s))) = decide (s ∈ ks)
  | [], [], _ => rfl
  | k :: ks, v :: vs, h => by
    rw [List.map_cons, List.zip_cons_cons, List.any_cons, any_zip (Nat.succ.inj h)]
    by_cases z : s = k
    · subst z
      simp
    · have z2 : ¬ (Sum.inr (sOf k) : L2.Key) = Sum.inr (sOf s) := fun q => z (sOf_inj (Sum.inr.inj q)).symm
      simp [z, z2]
theorem rcd_put {s : Txt} {w : Rv} {v : V} (hw : RepR G B A w v) : ∀ {ks : List Txt} {xs : List Rv} {vs : List V}, ks.length = xs.length → RepRs G B A xs vs →
    ∃ us, putK ((ks.map fun k => (Sum.inr (sOf k) : L2.Key)).zip vs) (Sum.inr (sOf s)) v = (((rput ks xs s w).1.map fun k => (Sum.inr (sOf k) : L2.Key)).zip us) ∧ (rput ks xs s w).1.length = (rput ks xs s w).2.length ∧ RepRs G B A (rput ks xs s w).2 us := fun {ks xs vs} hl r => by
  unfold putK rput
  rw [any_zip (by rw [hl, r.len])]
  by_cases z : s ∈ ks
  · rw [if_pos (by simpa using z), if_pos z]
    have key : ∀ {ks : List Txt} {xs : List Rv} {vs : List V}, ks.length = xs.length → RepRs G B A xs vs → ∃ us, (((ks.map fun k => (Sum.inr (sOf k) : L2.Key)).zip vs).map fun p => if p.1 = Sum.inr (sOf s) then (p.1, v) else p) = (ks.map fun k => (Sum.inr (sOf k) : L2.Key)).zip us ∧
        ks.length = (List.zipWith (fun k x => if k = s then w else x) ks xs).length ∧ RepRs G B A (List.zipWith (fun k x => if k = s then w else x) ks xs) us := by
      intro ks
      induction ks with
      | nil =>
        intro xs vs hl r
        exact ⟨[], rfl, by simp, by simp [RepRs]⟩
      | cons k ks ih =>
        intro xs vs hl r
        cases xs with
        | nil => cases hl
        | cons x xs =>
          obtain ⟨u, ws, e, h, t⟩ := r
          obtain ⟨us, e1, e2, e3⟩ := ih (Nat.succ.inj hl) t
          rw [e, List.map_cons, List.zip_cons_cons, List.map_cons, e1, List.zipWith_cons_cons]
          by_cases q : k = s
          · subst q
            rw [if_pos rfl, if_pos rfl]
            exact ⟨v :: us, rfl, by rw [List.length_cons, List.length_cons, e2], ⟨v, us, rfl, hw, e3⟩⟩
          · rw [if_neg fun (y : (Sum.inr (sOf k) : L2.Key) = Sum.inr (sOf s)) => q (sOf_inj (Sum.inr.inj y)), if_neg q]
            exact ⟨u :: us, rfl, by rw [List.length_cons, List.length_cons, e2], ⟨u, us, rfl, h, e3⟩⟩
    exact key hl r
  · rw [if_neg (by simpa using z), if_neg z]
    refine ⟨vs ++ [v], ?_, by rw [List.length_append, List.length_append, hl]; rfl, RepRs.append (ys := [w]) (ws := [v]) ⟨v, [], rfl, hw, rfl⟩ r⟩
    rw [List.map_append, List.zip_append (by rw [List.length_map, hl, r.len])]
    rfl
end
/-! ### o[i] = v -/
def rSet : V → V → V → Hp → (Hp → Prop) → Prop := fun o i v H Q => rSetL o i v H Q ∨ ∃ a H', o = .ref a ∧ DPut H a i v H' ∧ Q H'
section
variable {G : Cfg} {X : Cx} {Φ : Ph} {W : WX} {pos pos' : Pos} {e o i : Expr} {m mo mi : DE}
theorem pset (hu : X.A.units + 64 < cLine) : PSet X rSet := by
  intro pins s σ H o i v ov iv u Q I ro ri rv h
  rcases h with h | ⟨a, H', e, g, q⟩
  · exact set_list pins s σ H o i v ov iv u Q I ro ri rv h
  · subst e
    obtain rfl : ov = Value.ref a := ro
    exact d_setItem (by omega) I g ri rv fun s4 I4 => ⟨H', I4, q⟩
theorem keyOf_rep {B : Hp} {k : D} {q : Key} {u : V} (h : keyOf k = some q) (r : Rep G B k u) : u = kV (kOf q) := by
  cases k with
  | int i =>
    cases h
    exact r
  | str s =>
    cases h
    exact r
  | _ => cases h
theorem keysOf_rep {B : Hp} : ∀ {ks : List D} {q : List Key} {us : List V}, keysOf ks = some q → Reps G B ks us → us = (q.map kOf).map kV
  | [], q, us, h, r => by
    cases h
    exact r
  | x :: xs, q, us, h, ⟨v, ws, e, h1, h2⟩ => by
    obtain ⟨k, h3, h4⟩ := bind_some (show ((keyOf x).bind fun k => (keysOf xs).map (k :: ·)) = some q from h)
    obtain ⟨ks, h5, h6⟩ := Option.map_eq_some_iff.mp h4
    rw [e, ← h6, keyOf_rep h3 h1, keysOf_rep h5 h2]
    rfl
theorem setV_ok {x y v : Rv} {u z w : V} {B : Hp} {A : List Addr} {L : Led} {H : Hp} {Q : Hp → Prop} {E : XK} (C : Ctx G B A L H) (rx : RepR G B A x u) (ry : RepR G B A y z) (rv : RepR G B A v w)
    (h : RP G (fun _ _ (_ : Unit) (_ : Unit) => True) (setV x y v L) B A H (fun _ H' => Q H') E) : rSet u z w H Q := by
  cases x with
  | d x => exact h.elim
  | loc n =>
    cases y with
    | loc m => exact h.elim
    | d k =>
      obtain ⟨a, ha, eu⟩ := rx
      cases e0 : L[n]? with
      | none =>
        simp only [setV, e0] at h
        exact h.elim
      | some cell =>
        cases cell with
        | lst xs =>
          cases v with
          | loc m =>
            simp only [setV, e0] at h
            exact h.elim
          | d d =>
            cases k with
            | int i =>
              simp only [setV, e0] at h
              cases e1 : ixN xs.length i with
              | none =>
                rw [e1] at h
                exact h.elim
              | some j =>
                rw [e1] at h
                obtain ⟨ob, h3, vs, h4, h5⟩ := C.cell ha e0
                obtain ⟨c4, x4⟩ := C.put (c' := .lst (xs.set j d)) ha e0 rfl ⟨vs.set j w, rfl, Reps.set rv j h5⟩
                refine .inl ⟨a, vs, i, j, eu, ry, by rw [h3, h4], ?_, h B A _ () x4 c4 trivial⟩
                rw [h5.len]
                exact e1
            | _ =>
              simp only [setV, e0] at h
              exact h.elim
        | dK kvs =>
          cases v with
          | loc m =>
            simp only [setV, e0] at h
            exact h.elim
          | d d =>
            simp only [setV, e0] at h
            cases e1 : keyOf k with
            | none =>
              rw [e1] at h
              exact h.elim
            | some q =>
              rw [e1] at h
              dsimp only at h
              by_cases hz : kvs.length < SZ
              · rw [if_pos hz] at h
                obtain ⟨ob, h3, ws, h4, h5⟩ := C.cell ha e0
                obtain ⟨c4, x4⟩ := C.put (c' := .dK (put kvs q d)) ha e0 rfl ⟨putK ws (kOf q) w, rfl, KVs.put rv h5⟩
                refine .inr ⟨a, _, eu, ?_, h B A _ () x4 c4 trivial⟩
                rw [keyOf_rep e1 ry]
                exact DPut.k (by rw [h3, h4]) (by rw [h5.len]; exact hz)
              · rw [if_neg hz] at h
                exact h.elim
        | dT kvs =>
          cases v with
          | loc m =>
            simp only [setV, e0] at h
            exact h.elim
          | d d =>
            cases k with
            | tup ks =>
              simp only [setV, e0] at h
              cases e1 : keysOf ks with
              | none =>
                rw [e1] at h
                exact h.elim
              | some q =>
                rw [e1] at h
                dsimp only at h
                by_cases hz : kvs.length < SZ
                · rw [if_pos hz] at h
                  obtain ⟨ob, h3, ws, h4, h5⟩ := C.cell ha e0
                  obtain ⟨b, us, e2, e3, e4⟩ := ry
                  obtain ⟨c4, x4⟩ := C.put (c' := .dT (put kvs q d)) ha e0 rfl ⟨putK ws (q.map kOf) w, rfl, KTs.put rv h5⟩
                  refine .inr ⟨a, _, eu, ?_, h B A _ () x4 c4 trivial⟩
                  rw [e2]
                  exact DPut.t (by rw [h3, h4]) (by rw [C.sub _ _ e3, keysOf_rep e1 e4]) (by rw [h5.len]; exact hz)
                · rw [if_neg hz] at h
                  exact h.elim
            | _ =>
              simp only [setV, e0] at h
              exact h.elim
        | rcd ks xs =>
          cases k with
          | str s =>
            simp only [setV, e0] at h
            by_cases hz : ks.length < 100
            · rw [if_pos hz] at h
              obtain ⟨ob, h3, vs, h4, h5, h6⟩ := C.cell ha e0
              obtain ⟨us, g1, g2, g3⟩ := rcd_put (s := s) rv h5 h6
              obtain ⟨c4, x4⟩ := C.put (c' := .rcd (rput ks xs s v).1 (rput ks xs s v).2) ha e0 rfl ⟨us, rfl, g2, g3⟩
              refine .inr ⟨a, _, eu, ?_, h B A _ () x4 c4 trivial⟩
              have e2 : z = kV (Sum.inr (sOf s)) := ry
              rw [e2, ← g1]
              exact DPut.k (by rw [h3, h4]) (by rw [List.length_zip, List.length_map, h6.len, h5]; exact Nat.lt_of_le_of_lt (Nat.min_le_left _ _) (Nat.lt_of_lt_of_le (by rw [← h5]; exact hz) (by decide)))
            · rw [if_neg hz] at h
              exact h.elim
          | _ =>
            simp only [setV, e0] at h
            exact h.elim
        | seq xs =>
          cases k with
          | int i =>
            simp only [setV, e0] at h
            cases e1 : ixN xs.length i with
            | none =>
              rw [e1] at h
              exact h.elim
            | some j =>
              rw [e1] at h
              obtain ⟨ob, h3, vs, h4, h5⟩ := C.cell ha e0
              obtain ⟨c4, x4⟩ := C.put (c' := .seq (xs.set j v)) ha e0 rfl ⟨vs.set j w, rfl, RepRs.set rv j h5⟩
              refine .inl ⟨a, vs, i, j, eu, ry, by rw [h3, h4], ?_, h B A _ () x4 c4 trivial⟩
              rw [h5.len]
              exact e1
          | _ =>
            simp only [setV, e0] at h
            exact h.elim
        | obj c xs =>
          simp only [setV, e0] at h
          exact h.elim
        | fz c =>
          simp only [setV, e0] at h
          exact h.elim
        | dead =>
          simp only [setV, e0] at h
          exact h.elim
theorem qs_set (hu : X.A.units + 64 < cLine) (ho : QE G X Φ W o mo) (hi : QE G X Φ W i mi) (h : QE G X Φ W e m) (hs : swapsWithSole [.Subscript o i pos'] e pos.line X.env = pure false := by rfl) (hw : swappedStores [.Subscript o i pos'] e X.env = pure none := by rfl)
    (h1 : (assignEach [.Subscript o i pos'] X.env).map (·.2) = [assign (.Subscript o i pos') X.env] := by rfl)
    (ha : ∀ v, assign (.Subscript o i pos') X.env v = (do
      let ov ← holding [v] (eval o X.env)
      let iv ← holding [v, ov] (eval i X.env)
      standAt pos'
      holding [v, ov, iv] (setItem ov iv v)
      release [v, ov, iv] []) := by intro _; rfl) : QS G X Φ W (.Assign [.Subscript o i pos'] e pos) (sSet setV mo mi m) := by
  obtain ⟨te, p, k⟩ := h
  obtain ⟨to, po, ko⟩ := ho
  obtain ⟨ti, pi, ki⟩ := hi
  refine ⟨_, ps_asg p (pg_sub po pi (pset hu) ha) hs hw h1, fun σ H B A ρ L D S q => k σ H B A ρ L _ S (FP.flow S q fun v L1 B1 A1 H1 u x1 s1 r1 q1 => ?_)⟩
  refine ko σ H1 B1 A1 ρ L1 _ s1 (FP.flow s1 q1 fun x L2 B2 A2 H2 w x2 s2 r2 q2 => ?_)
  refine ki σ H2 B2 A2 ρ L2 _ s2 (FP.flow s2 q2 fun y L3 B3 A3 H3 z x3 s3 r3 q3 => ?_)
  refine setV_ok s3.ctx (r2.mono x3.base x3.Pre) r3 ((r1.mono x2.base x2.Pre).mono x3.base x3.Pre) (Q := fun H' => D.nx σ H') (FP.flow (W := W) (σ := σ) (Q := fun _ H' => D.nx σ H') s3 q3 fun _ L4 B4 A4 H4 _ x4 s4 _ q4 => ?_)
  exact q4 B4 A4 H4 σ Ext.refl s4
end
/-! ### {k: v, ..} -/
theorem Ext.under {B B' : Hp} {A A' : List Addr} {H H' : Hp} {p : Addr} {o : HO} (x : Ext B A (upd H p o) B' A' H') (n : H p = none) : Ext B A H B' A' H' := by
  obtain ⟨N, e, nN⟩ := x.pre
  have up : ∀ a u, H a = some u → upd H p o a = some u := fun a u h => by
    rw [upd_ne (ne_of_none h n)]
    exact h
  have dn : ∀ a, upd H p o a = none → H a = none := fun a h => by
    by_cases z : a = p
    · rw [z]
      exact n
    · rw [upd_ne z] at h
      exact h
  exact ⟨x.base, ⟨N, e, fun a h => dn a (nN a h)⟩, fun a u h q => x.fr a u (up a u h) q, fun a u h => x.there a u (up a u h), fun a u h => by
    rcases x.grow a u h with q | q | q | ⟨xs, q⟩
    · exact .inl q
    · exact .inr (.inl (dn a q))
    · exact .inr (.inr (.inl q))
    · by_cases z : a = p
      · rw [z]
        exact .inr (.inl n)
      · rw [upd_ne z] at q
        exact .inr (.inr (.inr ⟨xs, q⟩))⟩
theorem Ext.keep {B B' : Hp} {A A' : List Addr} {H H' : Hp} {p : Addr} {o : HO} (x : Ext B A H B' A' H') (h1 : H p = some o) (h2 : p ∉ A) (h3 : B p = none) (h4 : ∀ xs, o ≠ .tup xs := by intro _ z; cases z) : H' p = some o ∧ p ∉ A' ∧ B' p = none := by
  refine ⟨x.fr _ _ h1 h2, fun h => ?_, ?_⟩
  · obtain ⟨N, e, n⟩ := x.pre
    rw [e] at h
    rcases List.mem_append.mp h with h | h
    · exact h2 h
    · have := n p h
      rw [h1] at this
      cases this
  · cases e : B' p with
    | none => rfl
    | some o =>
      rcases x.grow p o e with h | h | h | ⟨xs, h⟩
      · rw [h3] at h
        cases h
      · rw [h1] at h
        cases h
      · exact absurd h h2
      · rw [h1] at h
        exact absurd (Option.some.inj h) (h4 xs)
def PPR (G : Cfg) (Φ : Ph) (W : WX) (trs : List (TE × TE)) (ks : List Txt) (m : DA) : Prop := ∀ (σ : L2.St) (H B : Hp) (A : List Addr) (ρ : Env) (L : Led) (Q : List (V × V) → Hp → Prop), StR G Φ B A ρ L σ H → RPA G (m ρ L) B A H (fun vs H' => vs.length = ks.length → Q ((ks.map fun k => V.str (sOf k)).zip vs) H') (fun c d H' => W c d σ H') → tPairs trs σ H Q
def QP (G : Cfg) (X : Cx) (Φ : Ph) (W : WX) (pos : Pos) (keys : List (Option Expr)) (values : List Expr) (ks : List Txt) (m : DA) : Prop := ∃ trs, PPs X pos keys values trs ∧ PPR G Φ W trs ks m
section
variable {G : Cfg} {X : Cx} {Φ : Ph} {W : WX} {pos pos' : Pos} {e k v : Expr} {m mv : DE} {ks : List Txt} {keys : List (Option Expr)} {values : List Expr} {mr : DA}
theorem qp_nil : QP G X Φ W pos [] [] [] aN := ⟨_, pps_nil, fun σ H B A ρ L Q S q => q B A H [] Ext.refl S.ctx rfl rfl⟩
theorem qp_cons {s : Txt} (hk : QE G X Φ W k (cE (.str s))) (hv : QE G X Φ W v mv) (hr : QP G X Φ W pos keys values ks mr) : QP G X Φ W pos (some k :: keys) (v :: values) (s :: ks) (aC mv mr) := by
  obtain ⟨tk, pk, kk⟩ := hk
  obtain ⟨tv, pv, kv⟩ := hv
  obtain ⟨tr, pr, kr⟩ := hr
  refine ⟨_, pps_cons pk pv pr, fun σ H B A ρ L Q S q => ?_⟩
  refine kk σ H B A ρ L _ S fun B0 A0 H0 x x0 c0 (r0 : x = .str (sOf s)) => ?_
  have q0 := RP.ext x0 q
  refine kv σ H0 B0 A0 ρ L _ (S.step x0 c0) (RP.bind q0 fun y L1 B1 A1 H1 u x1 c1 r1 q1 => ?_)
  refine kr σ H1 B1 A1 ρ L1 _ ((S.step x0 c0).step x1 c1) (RP.bind q1 fun ys L2 B2 A2 H2 us x2 c2 r2 q2 => ?_)
  intro hl
  have q3 := q2 B2 A2 H2 (u :: us) Ext.refl c2 ⟨u, us, rfl, r1.mono x2.base x2.Pre, r2⟩ (by rw [List.length_cons, List.length_cons, hl])
  rw [r0]
  exact q3
theorem putK_out {k : L2.Key} {v : V} {kvs : List (L2.Key × V)} (h : k ∉ kvs.map (·.1)) : putK kvs k v = kvs ++ [(k, v)] := by
  unfold putK
  rw [if_neg]
  intro q
  rw [List.any_eq_true] at q
  obtain ⟨p, h1, h2⟩ := q
  exact h (by rw [← of_decide_eq_true h2]; exact List.mem_map.mpr ⟨p, h1, rfl⟩)
theorem merge_nd : ∀ {more kvs : List (L2.Key × V)}, ((kvs ++ more).map (·.1)).Nodup → mergeK kvs more = kvs ++ more
  | [], kvs, _ => by simp [mergeK]
  | p :: r, kvs, h => by
    have h1 : p.1 ∉ kvs.map (·.1) := fun q => by
      rw [List.map_append, List.nodup_append] at h
      exact h.2.2 _ q _ (List.mem_map.mpr ⟨p, List.mem_cons_self, rfl⟩) rfl
    show mergeK (putK kvs p.1 p.2) r = _
    rw [putK_out h1, merge_nd (by rw [List.append_assoc]; exact h), List.append_assoc]
    rfl
theorem qe_disp (h : QP G X Φ W pos keys values ks mr) (hall : keys.all (·.isSome) = true := by rfl) (hl : keys.length = values.length := by rfl) (h0 : keys ≠ [] := by intro z; cases z) (h15 : keys.length ≤ 15 := by decide) : QE G X Φ W (.Dict keys values pos) (eN (dictV ks) mr) := by
  obtain ⟨trs, pp, kk⟩ := h
  refine ⟨_, pe_disp pp hall hl h0 h15, fun σ H B A ρ L Q S q p hp => ?_⟩
  have C := S.ctx
  have hB : B p = none := by
    cases e : B p with
    | none => rfl
    | some o =>
      rw [C.sub _ _ e] at hp
      cases hp
  have hA : p ∉ A := fun h => by
    obtain ⟨u, e⟩ := C.mem h
    rw [hp] at e
    cases e
  refine kk σ (upd H p (.dK [])) B A ρ L _ ⟨S.phi, S.env, C.beside hB hA⟩ ?_
  have q' : RPV G ((mr ρ L).bind (dictV ks)) B A H Q (fun c d H' => W c d σ H') := q
  cases e1 : mr ρ L with
  | bad => rw [e1] at q'; exact q'.elim
  | exc c xs L1 =>
    rw [e1] at q'
    exact fun B' A' H' cls d x cc r => q' B' A' H' cls d (x.under hp) cc r
  | ok xs L1 =>
    rw [e1] at q'
    intro B1 A1 H1 us x1 c1 r1 hlen
    obtain ⟨g1, g2, g3⟩ := x1.keep (p := p) upd_same hA hB
    refine ⟨g1, (ks.map fun k => (Sum.inr (sOf k) : L2.Key)).zip us, ?_, ?_, ?_⟩
    · clear q' kk
      have : ∀ (ks : List Txt) (us : List V), (ks.map fun k => V.str (sOf k)).zip us = ((ks.map fun k => (Sum.inr (sOf k) : L2.Key)).zip us).map fun kv => (kV kv.1, kv.2) := by
        intro ks
        induction ks with
        | nil => intro us; rfl
        | cons k ks ih =>
          intro us
          cases us with
          | nil => rfl
          | cons u us =>
            rw [List.map_cons, List.zip_cons_cons, List.map_cons, List.zip_cons_cons, List.map_cons, ih us]
            rfl
      exact this ks us
    · rw [List.length_zip, List.length_map]
      have q2 : RPV G (if ks.length = xs.length ∧ ks.Nodup ∧ ks.length ≤ 15 then .ok (.loc L1.length) (L1 ++ [.rcd ks xs]) else .bad) B A H Q (fun c d H' => W c d σ H') := q'
      by_cases z : ks.length = xs.length ∧ ks.Nodup ∧ ks.length ≤ 15
      · exact Nat.le_trans (Nat.min_le_left _ _) z.2.2
      · rw [if_neg z] at q2
        exact q2.elim
    · have q2 : RPV G (if ks.length = xs.length ∧ ks.Nodup ∧ ks.length ≤ 15 then .ok (.loc L1.length) (L1 ++ [.rcd ks xs]) else .bad) B A H Q (fun c d H' => W c d σ H') := q'
      by_cases z : ks.length = xs.length ∧ ks.Nodup ∧ ks.length ≤ 15
      · rw [if_pos z] at q2
        have nd : ((([] : List (L2.Key × V)) ++ (ks.map fun k => (Sum.inr (sOf k) : L2.Key)).zip us).map (·.1)).Nodup := by
          rw [List.nil_append, List.map_fst_zip (by rw [List.length_map, hlen]; exact Nat.le_refl _)]
          rw [List.nodup_iff_pairwise_ne, List.pairwise_map]
          refine List.Pairwise.imp (fun h q => h (sOf_inj (Sum.inr.inj q))) (List.nodup_iff_pairwise_ne.mp z.2.1)
        rw [merge_nd nd, List.nil_append]
        have y1 := (x1.under hp).beside (o := .dK ((ks.map fun k => (Sum.inr (sOf k) : L2.Key)).zip us)) hp
        obtain ⟨N, eN, nN⟩ := y1.pre
        have cb := c1.beside (o := .dK ((ks.map fun k => (Sum.inr (sOf k) : L2.Key)).zip us)) g3 g2
        obtain ⟨c2, g4⟩ := cb.adopt upd_same g3 g2 (c := .rcd ks xs) ⟨us, rfl, z.1, r1⟩
        refine q2 B1 (A1 ++ [p]) _ (.ref p) ⟨y1.base, ⟨N ++ [p], by rw [eN, List.append_assoc], fun a h => ?_⟩, y1.fr, y1.there, y1.grow⟩ c2 ⟨p, g4, rfl⟩
        rcases List.mem_append.mp h with h | h
        · exact nN a h
        · rw [List.mem_singleton.mp h]
          exact hp
      · rw [if_neg z] at q2
        exact q2.elim
/-! ### methods of lists -/
/-- o.m(e) on a list's cell -/
def m1V (f : V2) (o : DE) (a : DA) : DE := fun ρ L => (o ρ L).bind fun x L1 => if (itemsL L1 x).isSome = true then (a ρ L1).bind fun xs L2 => (match xs with
  | [y] => f x y L2
  | _ => .bad) else .bad
def m0V (f : V1) (o : DE) : DE := fun ρ L => (o ρ L).bind fun x L1 => if (itemsL L1 x).isSome = true then f x L1 else .bad
theorem listTy {B : Hp} {A : List Addr} {L : Led} {H : Hp} {x : Rv} {u : V} {K : PySem.W.Frag} (C : Ctx G B A L H) (r : RepR G B A x u) (h : (itemsL L x).isSome = true) : tyV K "list" u H := by
  cases x with
  | d x =>
    cases x with
    | lst xs =>
      obtain ⟨a, vs, e1, e2, e3⟩ := r
      rw [e1]
      exact .inl ⟨rfl, vs, SqL.of (C.sub _ _ e2)⟩
    | _ => cases h
  | loc n =>
    obtain ⟨a, ha, eu⟩ := r
    have h1 : (match L[n]? with | some (.lst xs) => some xs | _ => none).isSome = true := h
    cases e0 : L[n]? with
    | none =>
      rw [e0] at h1
      cases h1
    | some cell =>
      rw [e0] at h1
      cases cell with
      | lst xs =>
        obtain ⟨ob, h3, vs, h4, h5⟩ := C.cell ha e0
        rw [eu]
        exact .inl ⟨rfl, vs, SqL.of (by rw [h3, h4])⟩
      | _ => cases h1
/-- xs.append(e) -/
theorem qe_append {o : Expr} {mo : DE} {apos : Pos} (ho : QE G X Φ W o mo) (ha : QE G X Φ W e m) (hbase : attributeBase o "append" X.env (eval o X.env) = eval o X.env := by rfl)
    (hfew : ((backTo pos (starEach [e] X.env)).all (fun x => !x.1) && (backToKw pos (keywordEach [] X.env)).all (fun x => x.1.isSome)
      && decide (([e] : List Expr).length + ([] : List Keyword).length + (if ([] : List Keyword).isEmpty then 0 else 1) < 30)) = true := by rfl)
    (hline : (apos.endLine == pos.line) = true := by rfl) (hs : starEach [e] X.env = (false, eval e X.env) :: starEach [] X.env := by rfl) (hplain : (backTo pos (starEach [] X.env)).any (·.1) = false := by rfl) :
    QE G X Φ W (.Call (.Attribute o "append" apos) [e] [] pos) (m1V appV mo (aC m aN)) := by
  obtain ⟨to, po, ko⟩ := ho
  obtain ⟨te, pe, k⟩ := ha
  refine ⟨_, pe_bm PySem.F.plainAttrs_list PySem.F.slot_list_append PySem.F.type_list_append mt_append po (pa_cons pe pa_nil hs) hbase hfew hline hs hplain, fun σ H B A ρ L Q S q => ?_⟩
  refine ko σ H B A ρ L _ S (RP.bind q fun x L1 B1 A1 H1 u x1 c1 r1 q1 => ?_)
  by_cases ht : (itemsL L1 x).isSome = true
  · rw [if_pos ht] at q1
    refine ⟨listTy c1 r1 ht, ?_⟩
    refine ar_cons k ar_nil σ H1 B1 A1 ρ L1 _ (S.step x1 c1) (RP.bind q1 fun xs L2 B2 A2 H2 us x2 c2 r2 q2 => ?_)
    cases xs with
    | nil => exact q2.elim
    | cons y ys =>
      cases ys with
      | cons _ _ => exact q2.elim
      | nil =>
        obtain ⟨w, ws, e1, ry, e2⟩ := r2
        have e3 : ws = [] := e2
        subst e3
        have q3 : RPV G (appV x y L2) B2 A2 H2 Q (fun c d H' => W c d σ H') := q2
        cases x with
        | d x => exact q3.elim
        | loc n =>
          cases y with
          | loc z => exact q3.elim
          | d y =>
            obtain ⟨a, ha, eu⟩ := r1.mono x2.base x2.Pre
            have q4 : RPV G (match L2[n]? with | some (.lst xs) => if xs.length < SZ then .ok (.d .non) (L2.set n (.lst (xs ++ [y]))) else .bad | _ => (.bad : Res Rv)) B2 A2 H2 Q (fun c d H' => W c d σ H') := q3
            cases e0 : L2[n]? with
            | none =>
              rw [e0] at q4
              exact q4.elim
            | some cell =>
              rw [e0] at q4
              cases cell with
              | lst zs =>
                dsimp only at q4
                by_cases hz : zs.length < SZ
                · rw [if_pos hz] at q4
                  obtain ⟨ob, h3, vs, h4, h5⟩ := c2.cell ha e0
                  obtain ⟨c4, x4⟩ := c2.put (c' := .lst (zs ++ [y])) ha e0 rfl ⟨vs ++ [w], rfl, Reps.append (Reps.cons ry Reps.nil) h5⟩
                  exact ⟨a, vs, w, eu, e1, by rw [h3, h4], by rw [h5.len]; exact hz, q4 B2 A2 _ .non x4 c4 rfl⟩
                · rw [if_neg hz] at q4
                  exact q4.elim
              | _ => exact q4.elim
  · rw [if_neg ht] at q1
    exact q1.elim
end
end Dl

set_option Elab.async false
set_option linter.all false
set_option maxRecDepth 100000
/-! Sx: own errors: __init__ with super(). -/
namespace Dl
open PySem PySem.Spec PyProof.Rows L2

/-- what stands of an __init__ that says super().__init__(..) -/
structure SupF (P : Program) (K : PySem.W.Frag) (mg : PySem.Str → Option Value) (f C cc : Addr) (F : NdefX.NF) (fd : FuncData) : Prop where
  cl : F.cl = [(("__class__" : PySem.Str), cc)]
  at_ : ∃ (oc : Value) (od : Option Addr) (dV kV doc pm ct : Value) (an : Option Addr) (osl : Array (Option Value)), fd = PySem.W.fnX F.name F.qual F.params F.body F.scope F.cl dV kV doc pm an (.ref F.c) ct ∧ K.lookup f = some ⟨oc, od, .func fd, osl⟩
  cd : PySem.W.codeIn K (.ref F.c) F.qual = true
  code : ∃ (ccl : Value) (cdd : Option Addr) (vs : Array Value) (ccs : Array (Option Value)) (file : PySem.Str) (tf : Tok), K.lookup F.c = some ⟨ccl, cdd, .fields vs, ccs⟩ ∧ vs[2]? = some (.str file tf) ∧ ((P.main.file : PySem.Str) == file) = true
  cell : ∃ (cl : Value) (cld : Option Addr) (csl : Array (Option Value)), K.lookup cc = some ⟨cl, cld, .cell (some (.ref C)), csl⟩
  opq : PySem.W.nsIn K cStatics "thirdparty.any" = some none
  sup : PySem.W.ks_superIn K C C "__init__" = some (some (.builtin "ValueError.__init__"))
  sub : PySem.W.subIn K (.ref C) (.type "ValueError") = some true
  mro : PySem.W.mroIn K C (.ref C) = some true
  mgS : mg "super" = none
  top : (P.main.scope.names.lookup ("super" : PySem.Str)).isSome = false
  T : OexC K C
section
open PySem.W PySem.Calls
variable {prog : Program} {w : World} {A : Around} {E : Value → Shared → Prop} {h : Heap} {g : Array GenState} {d : Drawn} {t : Nat} {os : OsState}
variable {nm q : PySem.Str} {C N : Addr} {bs bm : List Value} {hdct : Bool} {sn : List PySem.Str} {sub : List Value} {ab : Bool} {col : Option Bool} {dd : Option Addr} {k0 k1 k2 k3 k5 : Option Value}
theorem call_sup {u e t0 : Addr} {rest : List Value} {Q : Value → Shared → Prop}
    (hC : h.get? C = some (excClassObj nm q C N bs bm hdct sn sub ab col dd k0 k1 k2 k3 k5 "ValueError.__new__")) (he : h.get? e = some (excRec (.ref C) t0 none .none .none (.bool false))) (hu : h.get? u = some (kxs_mw "ValueError.__init__" e)) (hrest : rest.length ≤ sizeLine)
    (hq : ∀ h' t1, (∀ b o, b ≠ e → h.get? b = some o → h'.get? b = some o) → h'.get? e = some (excRec (.ref C) t1 none .none .none (.bool false)) → Q .none ⟨h', g, d, t, os⟩) :
    wpAny (model prog w) A (call (.ref u) rest) Q E ⟨h, g, d, t, os⟩ := by
  refine wpAny_call (codeAny_of_tree ?_)
  show wpAny _ A.in1 (callAny (.ref u) ⟨rest, []⟩) _ _ _
  simp only [callAny]
  refine wpAny_bind (wpAny_load hu ?_)
  simp only [kxs_mw, show (Value.type "method-wrapper" == Value.type "method" || Value.type "method-wrapper" == Value.type "builtin_function_or_method" || Value.type "method-wrapper" == Value.type "method-wrapper") = true by decide, if_true]
  refine KFB.if_so (by decide) ?_
  refine wpAny_bind (check_bound_init F.excBase_ValueError.toExcCallFacts hC he rfl ?_)
  refine wpAny_bind (wpAny_pure (wpAny_pure ?_))
  refine ⟨plainId_quiet F.excBase_ValueError.init.plain _, codeAny_builtin F.excBase_ValueError.initEntry ?_⟩
  exact exc_init_tree (cls := .ref C) (t0 := t0) (dv := none) (c2 := .none) (c3 := .none) (b4 := .bool false) he hrest fun h' k e' t' => hq h' _ k e'
end
section
variable {CX : CXT} {P : Program} {w : World} {K : PySem.W.Frag} {mg : PySem.Str → Option Value} {base : Heap} {N ps : List PySem.Str} {F : NdefX.NF} {f C cc : Addr} {fd : FuncData} {A : Around} {outer : List PySem.Env} {s0 s : Shared} {H0 H : Hp} {E : XK} {a : Addr} {σ : L2.St} {ar : Arg}
  {ta : TA} {e0 : Expr} {p0 p1 p2 p3 p4 : Pos} {Q : Hp → Prop} {pl : Sem Bool} {X : Cx}
theorem sup_first (hX : X = NdefX.ncx CX P w K mg base N F f A outer s0 H0 E) (Z : SupF P K mg f C cc F fd) (S : NdefX.NScope N ps ["__class__"] F.scope) (I : Inv X [] σ H s) (hks : F.scope.names.lookup ("super" : PySem.Str) = some .globalImplicit) (hp : (F.params.posonlyargs ++ F.params.args).head? = some ar)
    (h0 : N[0]? = some ar.arg) (hka : F.scope.names.lookup ar.arg = some .local) (hs0 : σ[0]? = some (some (.ref a))) (ea : H a = some (exo a C none)) (ha : PA X [e0] ta) (q : ta σ H fun vs H1 => vs.length ≤ 1000 ∧ H1 a = some (exo a C none) ∧ Q H1)
    (hi : interactive X.env = false) (hs : swapsWith (.Call (.Attribute (.Call (.Name "super" p0) [] [] p1) "__init__" p2) [e0] [] p3) none p4.line X.env = pure false)
    (he : eval (.Call (.Attribute (.Call (.Name "super" p0) [] [] p1) "__init__" p2) [e0] [] p3) X.env = (do
      let ov ← attributeBase (.Call (.Name "super" p0) [] [] p1) "__init__" X.env (eval (.Call (.Name "super" p0) [] [] p1) X.env)
      standAt p2.atName
      let (f, first) ← holding [ov] (getMethod ov "__init__" pl)
      callWith p3 f first (backTo p3 (starEach [e0] X.env)) []))
    (hst : starEach [e0] X.env = (false, eval e0 X.env) :: starEach [] X.env) :
    _root_.PySem.wpAt (model P w) X.A (.func F.body X.env) (exec (.Expr (.Call (.Attribute (.Call (.Name "super" p0) [] [] p1) "__init__" p2) [e0] [] p3) p4) X.env) (fun fl s' => fl = .next ∧ ∃ H1, Inv X [] σ H1 s' ∧ Q H1) X.xe s := by
  obtain ⟨oc, od, dV, kV, doc, pm, ct, an, osl, hfd, lk⟩ := Z.at_
  obtain ⟨ccl, cdd, vsC, ccs, file, tf, hcode, hvs, hfile⟩ := Z.code
  obtain ⟨cl, cld, csl, hcell⟩ := Z.cell
  obtain ⟨nm, qn, NC, bs, bm, sn, sub, ab, col, dd, k0, k1, k2, k3, k5, hC, hbm⟩ := Z.T.cls
  have hk : F.scope.kind = .function := S.kind
  have hkc : F.scope.names.lookup ("__class__" : PySem.Str) = some .free := S.frk _ (by simp)
  obtain ⟨t1, ho⟩ := exo_at I.hok ea
  have hCd : ∃ cd, PySem.W.clsIn K C = some cd ∧ (excClassObj nm qn C NC bs bm true sn sub ab col dd k0 k1 k2 k3 k5 "ValueError.__new__").data = .cls cd := by
    unfold PySem.W.clsIn
    rw [hC]
    exact ⟨_, rfl, rfl⟩
  obtain ⟨cd, hcd, hdt⟩ := hCd
  subst hX
  have KX : K.In s.heap := I.kIn
  have hxC : a ≠ C := fun z => by
    have e1 := KX _ _ hC
    rw [← z, ho] at e1
    have e2 := Option.some.inj e1
    have e3 := congrArg Obj.data e2
    rw [← z] at hdt
    cases e3.trans hdt
  refine ks_wpAt_Expr_any (ks_wpAt_MethodCall (pl := pl) ?_ he) hi hs
  refine ks_wpAt_super_base (f := f) (cc := F.c) (fd := fd) hks hkc rfl rfl (KX _ _ lk) rfl (by rw [hfd]; exact hp) rfl (KX _ _ hcode) rfl hvs hfile Z.top ?_
  obtain ⟨mb, h1, h2⟩ := I.mod.blt
  refine PySem.W.ks_loadName_global hk hks (Calls.loadGlobal_builtin (by rw [I.ok.glob]; exact I.mod.glob.keeps I.bk) Z.mgS (by rw [I.ok.blt]; exact h1.keeps I.bk) ((h2 "super" (by decide)).trans PyProof.Rows.Boot.«super») ⟨rfl, ?_⟩)
  refine wpAny_loadName_free hk hkc (c := cc) (by show List.lookup _ F.cl = _; rw [Z.cl]; rfl) ⟨_, KX _ _ hcell, rfl⟩ ?_
  obtain ⟨m, hn, hl⟩ := I.loc
  obtain ⟨u, ru, lu⟩ := hl 0 ar.arg (.ref a) h0 hs0 (.inl hka)
  obtain rfl : u = Value.ref a := ru
  have hm : m ar.arg = some (.ref a) := by
    rcases lu with ⟨_, z⟩ | ⟨z, _⟩
    · exact z
    · rcases z with z | z
      · have z2 : F.scope.names.lookup ar.arg = some .cell := z
        rw [hka] at z2
        cases z2
      · have z2 : F.scope.names.lookup ar.arg = some .free := z
        rw [hka] at z2
        cases z2
  refine wpAny_loadName_local hk hka hn hm ?_
  obtain ⟨hh, g, dr, t, os⟩ := s
  refine ks_wpAny_isType_cls (KX _ _ hC) hdt ⟨rfl, ?_⟩
  refine ks_wpAny_call_super (KX _ _ hC) hdt ho rfl (fun c e => by cases e) (PySem.W.looks_mroIn KX Z.mro) (fun h' eso k => ?_)
  have I1 : Inv (NdefX.ncx CX P w K mg base N F f A outer s0 H0 E) [] σ H ⟨h', g, dr, t, os⟩ := I.kept (t' := t) k
  have K1 : K.In h' := I1.kIn
  have hm2 := Z.sup
  unfold PySem.W.ks_superIn at hm2
  rw [hcd, Option.bind_some] at hm2
  have ho1 : h'.get? a = some ({ cls := .ref C, dict := none, data := .fields #[.ref t1, .none, .none, .none, .bool false, .none] } : Obj) := k _ _ ho
  have LT : PySem.W.Looks (model P w) h' (typeOf (.ref a)) (.ref C) := fun A Q E s k q => wpAny_typeOf_ref (k _ _ ho1) q
  have hI : PySem.W.Looks (model P w) h' (isInstance (.ref a) (.type "ValueError")) true := LT.andThen (PySem.W.looks_subIn K1 Z.sub)
  refine PySem.W.kxs_getMethod PySem.W.kxs_ValueError eso (PySem.W.looks_opaque K1 Z.opq) (l₀ := cd.mro) (fun A Q E s k q => wpAny_bind ((PySem.W.looks_clsIn K1 hcd) A _ E s k (wpAny_pure q))) rfl K1 hm2 hI hxC rfl ?_
  have hu0 : (h'.push (PySem.W.kxs_mw "ValueError.__init__" a)).get? h'.objs.size = some (PySem.W.kxs_mw "ValueError.__init__" a) := Heap.get?_push_at rfl rfl
  have I2 : Inv (NdefX.ncx CX P w K mg base N F f A outer s0 H0 E) [(h'.objs.size, PySem.W.kxs_mw "ValueError.__init__" a)] σ H ⟨h'.push (PySem.W.kxs_mw "ValueError.__init__" a), g, dr, t + 1, os⟩ :=
    ClX.pin_new (t' := t + 1) I1 (fun b u e => Heap.get?_push_of_some _ e) (Nat.le_refl _) hu0 (fun v e => by cases e)
  show wpAny (model P w) _ (callWith p3 (.ref h'.objs.size) [] (backTo p3 (starEach [e0] (NdefX.ncx CX P w K mg base N F f A outer s0 H0 E).env)) []) _ _ _
  refine PySem.W.kxs_callWith (i := "ValueError.__init__") (x := a) (by rw [hst]; rfl) ?_
  have hA := ha.run p3 _ _ σ H _ I2 q
  rw [hst] at hA ⊢
  refine Calls.evalArgs_plain (thn hA fun us s2 ⟨vs, H1, I3, r2, hlen, ea1, q1⟩ => ?_)
  obtain ⟨hh2, g2, dr2, t2, os2⟩ := s2
  have hu2 : hh2.get? h'.objs.size = some (PySem.W.kxs_mw "ValueError.__init__" a) := ClX.pin_at I3
  refine ⟨hu2, ?_⟩
  obtain ⟨t3, ho3⟩ := exo_at I3.hok ea1
  have lus : us.length ≤ sizeLine := by
    rw [← r2.length, sizeLine_eq]
    omega
  refine call_sup (I3.kIn _ _ hC) ho3 hu2 lus fun h4 t4 k4 hx4 => ⟨rfl, H1, ?_, q1⟩
  have J := (ClX.unpin I3).write (t' := t2) (x := a) (e := a) (o := exo a C none) (by rw [ea1]; exact True.intro) (.inl rfl) k4 ⟨_, hx4⟩ (exo_ok hx4)
  have eu : upd H1 a (exo a C none) = H1 := by
    funext b
    by_cases hb : b = a
    · rw [hb, upd_same, ea1]
    · rw [upd_ne hb]
  rw [eu] at J
  exact J
/-- such an __init__, its other statements walked as any -/
def spSup (C : Addr) (N ps : List PySem.Str) (ta : TA) (t : TS) : Sp := fun vs H Q _ => vs.length = ps.length ∧ ∃ a, vs[0]? = some (.ref a) ∧ H a = some (exo a C none) ∧
  ta (NdefX.startF N vs [none]) H fun us H1 => us.length ≤ 1000 ∧ H1 a = some (exo a C none) ∧ t { nx := fun _ H' => Q .non H', rt := Q } (NdefX.startF N vs [none]) H1
theorem sup_ok {k : Nat} {t : TS} {rest : List Stmt} {p0 p1 p2 p3 p4 : Pos} (Z : SupF P K mg f C cc F fd) (S : NdefX.NScope N ps ["__class__"] F.scope) (hks : F.scope.names.lookup ("super" : PySem.Str) = some .globalImplicit) (hp : (F.params.posonlyargs ++ F.params.args).head? = some ar)
    (h0 : ps[0]? = some ar.arg) (hbody : F.body = .Expr (.Call (.Attribute (.Call (.Name "super" p0) [] [] p1) "__init__" p2) [e0] [] p3) p4 :: rest)
    (hX : ∀ X : Cx, (∃ A outer s0 H0 E, X = NdefX.ncx CX P w K mg base N F f A outer s0 H0 E) → PA X [e0] ta ∧ PSs X rest t ∧ interactive X.env = false ∧ swapsWith (.Call (.Attribute (.Call (.Name "super" p0) [] [] p1) "__init__" p2) [e0] [] p3) none p4.line X.env = pure false ∧
      (∃ pl : Sem Bool, eval (.Call (.Attribute (.Call (.Name "super" p0) [] [] p1) "__init__" p2) [e0] [] p3) X.env = (do
      let ov ← attributeBase (.Call (.Name "super" p0) [] [] p1) "__init__" X.env (eval (.Call (.Name "super" p0) [] [] p1) X.env)
      standAt p2.atName
      let (f, first) ← holding [ov] (getMethod ov "__init__" pl)
      callWith p3 f first (backTo p3 (starEach [e0] X.env)) [])) ∧ starEach [e0] X.env = (false, eval e0 X.env) :: starEach [] X.env) :
    FnOk P w K mg base CX (k + 1) f fd ps (spSup C N ps ta t) := by
  refine ⟨fun vs H Q E h => h.1, fun A outer s H args us vs Q E hr e0' hb r hsp => ?_⟩
  obtain ⟨hl, a, hs0, ea, q⟩ := hsp
  obtain ⟨oc, od, dV, kV, doc, pm, ct, an, osl, hfd, lk⟩ := Z.at_
  have KX : K.In s.heap := e0'.mod.kin.keeps fun b o e => (e0'.bs b o e).1
  have lim : s.heap.NoLimit := e0'.mod.nolimit.keeps fun b o e => (e0'.bs b o e).1
  obtain ⟨cl, cld, csl, hcell⟩ := Z.cell
  have hlp : ps.length + 1 ≤ N.length := by
    have := congrArg List.length S.pre
    rw [List.length_take, List.length_append] at this
    simp at this
    omega
  have look : ∀ {y : PySem.Str} {c : Addr}, F.cl.lookup y = some c → y = ("__class__" : PySem.Str) ∧ c = cc := fun {y c} h => by
    rw [Z.cl, List.lookup_cons] at h
    cases e : (y == ("__class__" : PySem.Str)) with
    | true =>
      rw [e] at h
      exact ⟨eq_of_beq e, (Option.some.inj h).symm⟩
    | false =>
      rw [e] at h
      cases h
  have C1 : NdefX.CellsAt F.cl ["__class__"] [none] s.heap H := ⟨rfl, fun y c h => by
      obtain ⟨_, rfl⟩ := look h
      obtain ⟨e1, e2⟩ := e0'.bs _ _ (e0'.mod.kin _ _ hcell)
      exact ⟨e2, _, ⟨_, e1, rfl⟩⟩, fun x y c h1 h2 => by rw [(look h1).1, (look h2).1], fun i y h => by
      have hi : i = 0 := by
        have := (List.getElem?_eq_some_iff.mp h).1
        simp at this
        exact this
      subst hi
      have e : ("__class__" : PySem.Str) = y := Option.some.inj h
      refine ⟨cc, ?_, fun v hv => ?_⟩
      · rw [Z.cl, List.lookup_cons, ← e]
        rfl
      · have : (none : Option V) = some v := Option.some.inj hv
        cases this⟩
  subst hfd
  refine codeAny_call_function hr.depth (KX _ _ lk) rfl S.co S.gen rfl (PySem.W.codeRec_of KX Z.cd) (hb _ _ _ _ ?_)
  refine wpAny_newFunctionEnv S.nocell (fun ⟨n, _⟩ hy => S.par n (List.of_mem_zip hy).1) (fun h₁ hns hsb => ⟨lim.fresh _ hsb, ?_⟩) S.kind
  show codeAny _ _ (.func F.body (NdefX.envF F f s.heap.objs.size)) _ _
  refine ks_codeAny_funcAt ?_
  have kp : ∀ b o, s.heap.get? b = some o → h₁.get? b = some o := fun b o e => hsb.extBut b o (Nat.ne_of_lt (Heap.lt_size e)) (Heap.get?_push_of_some _ e)
  have I : Inv (NdefX.ncx CX P w K mg base N F f A outer s H E) [] (NdefX.startF N vs [none]) H { s with heap := h₁, toks := s.toks + (ps.zip us).length } := NdefX.inv_startN S hr.hd e0' hl r C1 hns kp
  obtain ⟨pa, ps', hi, hsw, ⟨pl, he⟩, hst⟩ := hX _ ⟨A, outer, s, H, E, rfl⟩
  have hN0 : N[0]? = some ar.arg := by
    have e : (N.take (ps.length + 1))[0]? = (ps ++ [("__class__" : PySem.Str)])[0]? := by rw [← S.pre]; rfl
    rw [List.getElem?_take_of_lt (Nat.succ_pos _)] at e
    rw [e]
    cases ps with
    | nil => cases h0
    | cons p ps => exact h0
  have hka : F.scope.names.lookup ar.arg = some .local := S.par _ (List.mem_of_getElem? h0)
  have hσ : (NdefX.startF N vs [none])[0]? = some (some (.ref a)) := by
    unfold NdefX.startF
    cases vs with
    | nil => cases hs0
    | cons v vs =>
      have e : v = .ref a := Option.some.inj hs0
      rw [e]
      rfl
  have first := sup_first (X := NdefX.ncx CX P w K mg base N F f A outer s H E) rfl Z S I hks hp hN0 hka hσ ea pa (Q := fun H1 => t { nx := fun _ H' => Q .non H', rt := Q } (NdefX.startF N vs [none]) H1) q hi hsw he hst
  have fin : ∀ {σ' : L2.St} {H' : Hp} {v : V} {u : Value} {s' : Shared}, Inv (NdefX.ncx CX P w K mg base N F f A outer s H E) [] σ' H' s' → L2.RelV v u → Q v H' → CE outer P w H s Q u s' :=
    fun {σ' H' v u s'} J rv q => ⟨v, H', J.os, J.bare, J.base, J.hok, rv, q⟩
  rw [hbody] at first ⊢
  refine ks_wpAt_execs_cons (ks_wpAt_mono first (fun fl s' hx => ?_) fun e s' hx => hx)
  obtain ⟨rfl, H1, J1, q1⟩ := hx
  refine wpAt_of_wpAny (wpAny_mono (ps'.run [] s' _ H1 _ J1 q1) (fun fl s'' hs => ?_) fun e s' hs => hs)
  cases fl with
  | ret u =>
    obtain ⟨v, σ', H', J, rv, q⟩ := hs
    exact fin J rv q
  | next =>
    obtain ⟨σ', H', J, q⟩ := hs
    exact fin (v := V.non) (u := Value.none) J rfl q
  | brk =>
    obtain ⟨_, _, _, q⟩ := hs
    exact False.elim q
  | cont =>
    obtain ⟨_, _, _, q⟩ := hs
    exact False.elim q
end
end Dl

set_option Elab.async false
set_option linter.all false
set_option maxRecDepth 100000
/-! Sy: raise, over data. -/
namespace Dl
open PySem PySem.Spec PyProof.Rows L2

section
variable {G : Cfg} {B1 : Hp} {A1 : List Addr} {L1 : Led} {H1 : Hp} {K : PySem.W.Frag} {C a : Addr} {N ps : List PySem.Str} {m0 : DE} {d d1 d2 : D} {y y1 y2 : V} {u : Rv} {f f1 f2 : PySem.Str} {Qx : XK} {E : XK}
/-- the made error's state: a is let go, its dict stands -/
theorem err_end {B2 H2 : Hp} {dx : Addr} {fs : List (PySem.Str × V)} {o : HO} (C1 : Ctx G B1 A1 L1 H1) (ha : H1 a = none) (x : Ext B1 [] (upd H1 a o) B2 [] H2) (c2 : Ctx G B2 [] [] H2) (hd : H2 dx = none) (ne : dx ≠ a) (hf : Hp) (ef : ∀ b, hf b = if b = dx then some (.xd fs) else if b = a then none else H2 b) (hot : ∀ xs, o ≠ .tup xs := by intro _ z; cases z) :
    H1 dx = none ∧ Ext B1 A1 H1 (upd B2 dx (.xd fs)) A1 hf ∧ Ctx G (upd B2 dx (.xd fs)) A1 L1 hf ∧ Same B2 (upd B2 dx (.xd fs)) := by
  have up : ∀ {b : Addr} {v : HO}, H1 b = some v → b ≠ a ∧ b ≠ dx ∧ H2 b = some v := fun {b v} h => by
    have h1 : b ≠ a := ne_of_none h ha
    have h2 : H2 b = some v := x.fr b v (by rw [upd_ne h1]; exact h) (by simp)
    exact ⟨h1, ne_of_none h2 hd, h2⟩
  have hd1 : H1 dx = none := by
    cases e : H1 dx with
    | none => rfl
    | some v => exact absurd rfl (up e).2.1
  have hfo : ∀ {b : Addr} {v : HO}, H1 b = some v → hf b = some v := fun {b v} h => by
    obtain ⟨h1, h2, h3⟩ := up h
    rw [ef, if_neg h2, if_neg h1]
    exact h3
  have hB2 : B2 dx = none := by
    cases e : B2 dx with
    | none => rfl
    | some v =>
      rw [c2.sub _ _ e] at hd
      cases hd
  have grow : ∀ {b : Addr} {v : HO}, B2 b = some v → B1 b = some v ∨ (H1 b = none ∧ b ≠ a) ∨ ((∃ xs, H1 b = some (.tup xs)) ∧ b ≠ a) := fun {b v} h => by
    rcases x.grow b v h with q | q | q | ⟨xs, q⟩
    · exact .inl q
    · by_cases z : b = a
      · rw [z, upd_same] at q
        cases q
      · rw [upd_ne z] at q
        exact .inr (.inl ⟨q, z⟩)
    · simp at q
    · by_cases z : b = a
      · rw [z, upd_same] at q
        exact absurd (Option.some.inj q) (hot xs)
      · rw [upd_ne z] at q
        exact .inr (.inr ⟨⟨xs, q⟩, z⟩)
  have sm := Same.upd_new (o := .xd fs) hB2
  refine ⟨hd1, ⟨fun b v h => sm _ _ (x.base _ _ h), ⟨[], by simp, fun _ h => nomatch h⟩, fun b v h _ => hfo h, fun b v h => ⟨v, hfo h⟩, fun b v h => ?_⟩, ⟨C1.len, fun b v h => ?_, C1.nd, fun n b c hb hc => ?_, fun n b c hb hc hdd => ?_, fun n b c hb hc => (C1.fz n b c hb hc).imp fun o e => sm _ _ (x.base _ _ e)⟩, sm⟩
  · by_cases z : b = dx
    · rw [z]
      exact .inr (.inl hd1)
    · rw [upd_ne z] at h
      rcases grow h with q | ⟨q, _⟩ | ⟨q, _⟩
      · exact .inl q
      · exact .inr (.inl q)
      · exact .inr (.inr (.inr q))
  · by_cases z : b = dx
    · rw [z, upd_same] at h
      rw [ef, if_pos z]
      exact h
    · rw [upd_ne z] at h
      rw [ef, if_neg z, if_neg]
      · exact c2.sub _ _ h
      · intro q
        rcases grow h with q2 | ⟨_, q2⟩ | ⟨_, q2⟩
        · rw [q] at q2
          rw [C1.sub _ _ q2] at ha
          cases ha
        · exact q2 q
        · exact q2 q
  · obtain ⟨o, h1, h2⟩ := C1.at_ n b c hb hc
    exact ⟨o, hfo h1, h2.mono (fun b v h => sm _ _ (x.base _ _ h)) (Pre.refl A1)⟩
  · obtain ⟨o, h1, h2⟩ := C1.at_ n b c hb hc
    have h3 := C1.off n b c hb hc hdd
    rw [upd_ne (up h1).2.1]
    cases e : B2 b with
    | none => rfl
    | some v =>
      rcases grow e with q | ⟨q, _⟩ | ⟨⟨xs, q⟩, _⟩
      · rw [h3] at q
        cases q
      · rw [h1] at q
        cases q
      · rw [h1] at q
        cases q
        exact (CRep.notTup h2 hdd).elim
theorem exo_ctx {o : HO} (C1 : Ctx G B1 A1 L1 H1) (ha : H1 a = none) : Ctx G B1 [] [] (upd H1 a o) :=
  ⟨rfl, fun b v h => by rw [upd_ne (ne_of_none (C1.sub _ _ h) ha)]; exact C1.sub _ _ h, by simp, fun n b c h => by simp at h, fun n b c h => by simp at h, fun n b c h => by simp at h⟩
theorem sup1_sp (T : OexC K C) (hno : PySem.W.findIn K (.ref C) f = some none) (hps : ps.length = 2) (hN : N.length = 3) (C1 : Ctx G B1 A1 L1 H1) (r : Rep G B1 d y) (hm : m0 [none, some (.d d), none] [] = .ok u []) (ha : H1 a = none)
    (q : ∀ B' A' H' dx, Ext B1 A1 H1 B' A' H' → Ctx G B' A' L1 H' → B' dx = some (.xd [(f, y)]) → Rep G B' d y → Qx (.ref C) (some dx) H') :
    spSup C N ps (tCons (eOf G Ph.yes NoW m0) tNil) (tOst K f (tVar 0) (tVar 1)) [.ref a, y] (upd H1 a (exo a C none)) (fun v H2 => v = .non ∧ ∃ (d : Addr) (fs : List (PySem.Str × V)), H2 a = some (exo a C (some d)) ∧ H2 d = some (exd d fs) ∧ H1 d = none ∧ Qx (.ref C) (some d) (upd (del H2 a) d (.xd fs))) E := by
  have hst : NdefX.startF N [.ref a, y] [none] = [some (.ref a), some y, none] := by
    unfold NdefX.startF
    rw [hN]
    rfl
  refine ⟨by rw [hps]; rfl, a, rfl, upd_same, ?_⟩
  rw [hst]
  refine ⟨B1, [], [none, some (.d d), none], [], ⟨trivial, ⟨rfl, fun i v h => ?_⟩, exo_ctx C1 ha⟩, ?_⟩
  · match i, h with
    | 1, h =>
      have e : Rv.d d = v := Option.some.inj (Option.some.inj h)
      subst e
      exact ⟨y, rfl, r⟩
    | i + 3, h => simp at h
  · rw [hm]
    intro B2 A2 H2 w x c2 _
    have eA : A2 = [] := List.length_eq_zero_iff.mp c2.len
    subst eA
    have ea2 : H2 a = some (exo a C none) := x.fr _ _ upd_same (by simp)
    refine ⟨Nat.le_of_ble_eq_true rfl, ea2, y, rfl, .ref a, rfl, a, C, rfl, T, hno, .inl ⟨ea2, fun dx hd ne => ⟨rfl, dx, [(f, y)], upd_same, by rw [upd_ne ne, upd_same], ?_⟩⟩⟩
    obtain ⟨hd1, x3, c3, sm⟩ := err_end (dx := dx) (fs := [(f, y)]) C1 ha x c2 hd ne (upd (del (upd (upd H2 dx (exd dx [(f, y)])) a (exo a C (some dx))) a) dx (.xd [(f, y)])) fun b => by
      by_cases z : b = dx
      · rw [z, upd_same, if_pos rfl]
      · rw [upd_ne z, if_neg z]
        by_cases z2 : b = a
        · rw [z2, del_same, if_pos rfl]
        · rw [del_ne z2, upd_ne z2, upd_ne z, if_neg z2]
    exact ⟨hd1, q _ _ _ dx x3 c3 upd_same (Rep.mono (fun b v z => sm _ _ (x.base _ _ z)) _ _ r)⟩
theorem sup2_sp (T : OexC K C) (hno1 : PySem.W.findIn K (.ref C) f1 = some none) (hno2 : PySem.W.findIn K (.ref C) f2 = some none) (hps : ps.length = 3) (hN : N.length = 4) (C1 : Ctx G B1 A1 L1 H1) (r1 : Rep G B1 d1 y1) (r2 : Rep G B1 d2 y2) (hm : m0 [none, some (.d d1), some (.d d2), none] [] = .ok u []) (ha : H1 a = none)
    (q : ∀ B' A' H' dx, Ext B1 A1 H1 B' A' H' → Ctx G B' A' L1 H' → B' dx = some (.xd [(f2, y2), (f1, y1)]) → Rep G B' d1 y1 → Rep G B' d2 y2 → Qx (.ref C) (some dx) H') :
    spSup C N ps (tCons (eOf G Ph.yes NoW m0) tNil) (tSeq (tOst K f1 (tVar 0) (tVar 1)) (tOst K f2 (tVar 0) (tVar 2))) [.ref a, y1, y2] (upd H1 a (exo a C none)) (fun v H2 => v = .non ∧ ∃ (d : Addr) (fs : List (PySem.Str × V)), H2 a = some (exo a C (some d)) ∧ H2 d = some (exd d fs) ∧ H1 d = none ∧ Qx (.ref C) (some d) (upd (del H2 a) d (.xd fs))) E := by
  have hst : NdefX.startF N [.ref a, y1, y2] [none] = [some (.ref a), some y1, some y2, none] := by
    unfold NdefX.startF
    rw [hN]
    rfl
  refine ⟨by rw [hps]; rfl, a, rfl, upd_same, ?_⟩
  rw [hst]
  refine ⟨B1, [], [none, some (.d d1), some (.d d2), none], [], ⟨trivial, ⟨rfl, fun i v h => ?_⟩, exo_ctx C1 ha⟩, ?_⟩
  · match i, h with
    | 1, h =>
      have e : Rv.d d1 = v := Option.some.inj (Option.some.inj h)
      subst e
      exact ⟨y1, rfl, r1⟩
    | 2, h =>
      have e : Rv.d d2 = v := Option.some.inj (Option.some.inj h)
      subst e
      exact ⟨y2, rfl, r2⟩
    | i + 4, h => simp at h
  · rw [hm]
    intro B2 A2 H2 w x c2 _
    have eA : A2 = [] := List.length_eq_zero_iff.mp c2.len
    subst eA
    have ea2 : H2 a = some (exo a C none) := x.fr _ _ upd_same (by simp)
    refine ⟨Nat.le_of_ble_eq_true rfl, ea2, y1, rfl, .ref a, rfl, a, C, rfl, T, hno1, .inl ⟨ea2, fun dx hd ne => ?_⟩⟩
    refine ⟨y2, rfl, .ref a, rfl, a, C, rfl, T, hno2, .inr ⟨dx, [(f1, y1)], upd_same, by rw [upd_ne ne, upd_same], Nat.le_of_ble_eq_true rfl, rfl, dx, [(f2, y2), (f1, y1)], by rw [upd_ne (Ne.symm ne), upd_same], upd_same, ?_⟩⟩
    obtain ⟨hd1, x3, c3, sm⟩ := err_end (dx := dx) (fs := [(f2, y2), (f1, y1)]) C1 ha x c2 hd ne (upd (del (upd (upd (upd H2 dx (exd dx [(f1, y1)])) a (exo a C (some dx))) dx (exd dx [(f2, y2), (f1, y1)])) a) dx (.xd [(f2, y2), (f1, y1)])) fun b => by
      by_cases z : b = dx
      · rw [z, upd_same, if_pos rfl]
      · rw [upd_ne z, if_neg z]
        by_cases z2 : b = a
        · rw [z2, del_same, if_pos rfl]
        · rw [del_ne z2, upd_ne z, upd_ne z2, upd_ne z, if_neg z2]
    have m2 : Same B1 (upd B2 dx (.xd [(f2, y2), (f1, y1)])) := fun b v z => sm _ _ (x.base _ _ z)
    exact ⟨hd1, q _ _ _ dx x3 c3 upd_same (Rep.mono m2 _ _ r1) (Rep.mono m2 _ _ r2)⟩
end
/-- an error's class of one field: its __init__ -/
structure Err1 (G : Cfg) (P : Program) (w : World) (K : PySem.W.Frag) (mg : PySem.Str → Option Value) (base : Heap) (k : Nat) (x : PySem.Str) (c : Nat) (m0 : DE) : Prop where
  ex : ∃ (f : PySem.Str) (fI : Addr) (fd : FuncData) (ps N : List PySem.Str), FnOk P w K mg base (L2.CX P w) k fI fd ps (spSup (G.cl c) N ps (tCons (eOf G Ph.yes NoW m0) tNil) (tOst K f (tVar 0) (tVar 1))) ∧ Binds K fd ps [] ∧ ps.length = 2 ∧ N.length = 3 ∧ G.nm c = [f] ∧ PySem.W.findIn K (.ref (G.cl c)) f = some none ∧
    PySem.W.findIn K (.ref (G.cl c)) "__init__" = some (some (.ref fI)) ∧ PySem.W.typeIn K (.ref fI) = some (.type "function")
  T : OexC K (G.cl c)
  mgx : mg x = some (.ref (G.cl c))
structure Err2 (G : Cfg) (P : Program) (w : World) (K : PySem.W.Frag) (mg : PySem.Str → Option Value) (base : Heap) (k : Nat) (x : PySem.Str) (c : Nat) (m0 : DE) : Prop where
  ex : ∃ (f1 f2 : PySem.Str) (fI : Addr) (fd : FuncData) (ps N : List PySem.Str), FnOk P w K mg base (L2.CX P w) k fI fd ps (spSup (G.cl c) N ps (tCons (eOf G Ph.yes NoW m0) tNil) (tSeq (tOst K f1 (tVar 0) (tVar 1)) (tOst K f2 (tVar 0) (tVar 2)))) ∧ Binds K fd ps [] ∧ ps.length = 3 ∧ N.length = 4 ∧ G.nm c = [f2, f1] ∧
    PySem.W.findIn K (.ref (G.cl c)) f1 = some none ∧ PySem.W.findIn K (.ref (G.cl c)) f2 = some none ∧ PySem.W.findIn K (.ref (G.cl c)) "__init__" = some (some (.ref fI)) ∧ PySem.W.typeIn K (.ref fI) = some (.type "function")
  T : OexC K (G.cl c)
  mgx : mg x = some (.ref (G.cl c))
structure Err0 (G : Cfg) (K : PySem.W.Frag) (mg : PySem.Str → Option Value) (x : PySem.Str) (c : Nat) : Prop where
  ex : ∃ (bmB : List Value) (B newId initId : String), ExcBaseFacts B newId initId bmB ∧ PySem.W.excIn K (G.cl c) bmB newId = true
  mgx : mg x = some (.ref (G.cl c))
  kp : PySem.W.keepIn K (.ref (G.cl c)) = true
  exC : PySem.W.subIn K (.ref (G.cl c)) (.type "BaseException") = some true
  tyC : PySem.W.typeIn K (.ref (G.cl c)) = some (.type "type")
section
variable {G : Cfg} {X : Cx} {Φ : Ph} {W : WX} {k j c : Nat} {x : PySem.Str} {m0 : DE} {p pos pos' : Pos} {e e2 : Expr} {ma : DA}
theorem qs_raise0 {m : PySem.Str} {jj : Nat} {p2 : Pos} (co : CO X W j) (er : Err0 G X.K X.mg x c) (hg : Gl X x) (hdb : (x == ("__debug__" : PySem.Str)) = false := by decide) : QS G X Φ W (.Raise (some (.Call (.Name x p) [.Constant (.str m) jj p2] [] pos)) none pos') (sRaise0 c) := by
  obtain ⟨bmB, B, newId, initId, F, q⟩ := er.ex
  exact ⟨_, ps_raise co.calm co.tk (pmk_own F q er.mgx er.kp (raises_own er.exC er.tyC) hg hdb), fun σ H B A ρ L D S q => q B A H σ _ none Ext.refl S ⟨rfl, fun _ => rfl, fun z => absurd rfl z⟩⟩
theorem pures_one {xs : List Rv} {d : D} (h : pures xs = some [d]) : xs = [.d d] := by
  match xs, h with
  | [.d x], h =>
    cases h
    rfl
  | .d x :: y :: r, h =>
    obtain ⟨ds, h1, h2⟩ := Option.map_eq_some_iff.mp (show (pures (y :: r)).map (x :: ·) = some [d] from h)
    cases h2
    cases y with
    | loc n => cases h1
    | d y =>
      obtain ⟨es, h3, h4⟩ := Option.map_eq_some_iff.mp (show (pures r).map (y :: ·) = some [] from h1)
      cases h4
theorem qs_raise1 (co : CO X W j) (er : Err1 G X.prog X.w X.K X.mg X.base k x c m0) (hk : k + 1 ≤ j) (hg : Gl X x) (ha : QA G X Φ W [e] ma) (hdb : (x == ("__debug__" : PySem.Str)) = false := by decide)
    (he : starEach [e] X.env = (false, eval e X.env) :: starEach [] X.env := by rfl) (hpl : (backTo pos (starEach [] X.env)).any (·.1) = false := by rfl) : QS G X Φ W (.Raise (some (.Call (.Name x p) [e] [] pos)) none pos') (sRaiseI c 1 m0 ma) := by
  obtain ⟨f, fI, fd, ps, N, F, hb, hps, hN, hnm, hno, hin, hty⟩ := er.ex
  obtain ⟨t, pa, ka⟩ := ha
  refine ⟨_, ps_raise co.calm co.tk (pmk_oex er.T hin hty F (co.room.mono hk) hb .nil passL hg er.mgx pa hdb he hpl), fun σ H B A ρ L D S q => ?_⟩
  refine ka σ H B A ρ L _ S (FP.flow S q fun xs L1 B1 A1 H1 us x1 s1 r1 q1 => ?_)
  cases hp : pures xs with
  | none =>
    simp only [hp] at q1
    exact q1.elim
  | some ds =>
    simp only [hp] at q1
    by_cases hl : ds.length = 1
    · rw [if_pos hl] at q1
      match ds, hl, hp with
      | [d], _, hp =>
        have rr := r1.pure hp
        obtain ⟨y, ws, e1, ry, e2⟩ := rr
        have e3 : ws = [] := e2
        subst e3
        subst e1
        cases hm : m0 [none, some (.d d), none] [] with
        | bad => simp only [List.map_cons, List.map_nil, List.cons_append, List.nil_append, hm] at q1; exact q1.elim
        | exc c xs L => simp only [List.map_cons, List.map_nil, List.cons_append, List.nil_append, hm] at q1; exact q1.elim
        | ok u L' =>
          simp only [List.map_cons, List.map_nil, List.cons_append, List.nil_append, hm] at q1
          cases L' with
          | cons _ _ => exact q1.elim
          | nil =>
            refine ⟨Nat.le_of_ble_eq_true rfl, fun a hn => ?_⟩
            exact sup1_sp (Qx := fun cls d H' => W cls d σ H') er.T hno hps hN s1.ctx ry hm hn fun B' A' H' dx x2 c2 hdx rd => q1 B' A' H' σ (.ref (G.cl c)) (some dx) x2 (s1.step x2 c2) ⟨rfl, fun z => (by cases z), fun _ => ⟨dx, [y], rfl, by rw [hdx, hnm]; rfl, by rw [hnm]; exact Nat.le_refl _, ⟨y, [], rfl, rd, rfl⟩⟩⟩
    · rw [if_neg hl] at q1
      exact q1.elim
theorem qs_raise2 (co : CO X W j) (er : Err2 G X.prog X.w X.K X.mg X.base k x c m0) (hk : k + 1 ≤ j) (hg : Gl X x) (ha : QA G X Φ W [e, e2] ma) (hdb : (x == ("__debug__" : PySem.Str)) = false := by decide)
    (he : starEach [e, e2] X.env = (false, eval e X.env) :: starEach [e2] X.env := by rfl) (hpl : (backTo pos (starEach [e2] X.env)).any (·.1) = false := by rfl) : QS G X Φ W (.Raise (some (.Call (.Name x p) [e, e2] [] pos)) none pos') (sRaiseI c 2 m0 ma) := by
  obtain ⟨f1, f2, fI, fd, ps, N, F, hb, hps, hN, hnm, hno1, hno2, hin, hty⟩ := er.ex
  obtain ⟨t, pa, ka⟩ := ha
  refine ⟨_, ps_raise co.calm co.tk (pmk_oex er.T hin hty F (co.room.mono hk) hb .nil passL hg er.mgx pa hdb he hpl), fun σ H B A ρ L D S q => ?_⟩
  refine ka σ H B A ρ L _ S (FP.flow S q fun xs L1 B1 A1 H1 us x1 s1 r1 q1 => ?_)
  cases hp : pures xs with
  | none =>
    simp only [hp] at q1
    exact q1.elim
  | some ds =>
    simp only [hp] at q1
    by_cases hl : ds.length = 2
    · rw [if_pos hl] at q1
      match ds, hl, hp with
      | [d1, d2], _, hp =>
        obtain ⟨y1, ws, e1, ry1, y2, ws2, e2, ry2, e3⟩ := r1.pure hp
        have e4 : ws2 = [] := e3
        subst e4
        subst e2
        subst e1
        cases hm : m0 [none, some (.d d1), some (.d d2), none] [] with
        | bad => simp only [List.map_cons, List.map_nil, List.cons_append, List.nil_append, hm] at q1; exact q1.elim
        | exc c xs L => simp only [List.map_cons, List.map_nil, List.cons_append, List.nil_append, hm] at q1; exact q1.elim
        | ok u L' =>
          simp only [List.map_cons, List.map_nil, List.cons_append, List.nil_append, hm] at q1
          cases L' with
          | cons _ _ => exact q1.elim
          | nil =>
            refine ⟨Nat.le_of_ble_eq_true rfl, fun a hn => ?_⟩
            exact sup2_sp (Qx := fun cls d H' => W cls d σ H') er.T hno1 hno2 hps hN s1.ctx ry1 ry2 hm hn fun B' A' H' dx x2 c2 hdx rd1 rd2 => q1 B' A' H' σ (.ref (G.cl c)) (some dx) x2 (s1.step x2 c2) ⟨rfl, fun z => (by cases z), fun _ => ⟨dx, [y2, y1], rfl, by rw [hdx, hnm]; rfl, by rw [hnm]; exact Nat.le_refl _, ⟨y2, [y1], rfl, rd2, y1, [], rfl, rd1, rfl⟩⟩⟩
    · rw [if_neg hl] at q1
      exact q1.elim
end
end Dl

set_option Elab.async false
set_option linter.all false
set_option maxRecDepth 100000
/-! Sz: try and its clauses. -/
namespace L2
open PySem PySem.Spec PyProof.Rows
def dAs (oi : Option Nat) (D : Ends) : Ends := match oi with
  | none => D
  | some i => { nx := fun σ' H' => D.nx (σ'.set i none) H', rt := D.rt, bk := fun σ' H' => D.bk (σ'.set i none) H', ct := fun σ' H' => D.ct (σ'.set i none) H' }
def sAs (oi : Option Nat) (a : Addr) (σ : St) : St := match oi with
  | none => σ
  | some i => σ.set i (some (.ref a))
abbrev Cla := Value × Option Nat × (Addr → Value → Option Addr → TS)
def wCla (K : PySem.W.Frag) (Wout : WX) (D : Ends) : List Cla → WX
  | [] => Wout
  | (c, oi, ts) :: r => fun cls d σ H => ∃ b, PySem.W.exmOne K cls c = some b ∧ (b = true → ∀ a, H a = none → ts a cls d (dAs oi D) (sAs oi a σ) H) ∧ (b = false → wCla K Wout D r cls d σ H)
inductive ClasOk (X : Cx) : List ExceptHandler → List Cla → Prop
  | nil : ClasOk X [] []
  | one {x : PySem.Str} {c : Value} {ts : Addr → Value → Option Addr → TS} {b₀ : Stmt} {suite : List Stmt} {np pos' : Pos} {hds : List ExceptHandler} {l : List Cla} (hc : Names X x c)
      (hsu : ∀ (a : Addr) (oe : Obj) (cls : Value) (d : Option Addr) (pn : List (Addr × Obj)), Zc cls d oe → (∃ vs, oe.data = .fields vs) → PSs (X.suite a ((a, oe) :: pn)) (b₀ :: suite) (ts a cls d)) (r : ClasOk X hds l) :
      ClasOk X (.ExceptHandler (some (.Name x np)) none (b₀ :: suite) pos' :: hds) ((c, none, ts) :: l)
  | as {x n : PySem.Str} {i : Nat} {c : Value} {ts : Addr → Value → Option Addr → TS} {b₀ : Stmt} {suite : List Stmt} {np pos' : Pos} {hds : List ExceptHandler} {l : List Cla} (hN : X.N.Nodup) (hi : X.N[i]? = some n) (hln : X.env.kindOf n = some .local) (hc : Names X x c)
      (hsu : ∀ (a : Addr) (oe : Obj) (cls : Value) (d : Option Addr) (pn : List (Addr × Obj)), Zc cls d oe → (∃ vs, oe.data = .fields vs) → PSs (X.suite a ((a, oe) :: pn)) (b₀ :: suite) (ts a cls d)) (r : ClasOk X hds l) :
      ClasOk X (.ExceptHandler (some (.Name x np)) (some n) (b₀ :: suite) pos' :: hds) ((c, some i, ts) :: l)
section
variable {X : Cx} {body : List Stmt} {h₀ : ExceptHandler} {hds : List ExceptHandler} {l : List Cla} {pos : Pos} {tb : WX → TS} {Wout : WX}
theorem ps_tryQ (hs : X.stack = X.env :: X.outer) (hf : X.env.frame = some X.env.locals) (tk : Takes X Wout)
    (hb : ∀ (W : WX) (pn : List (Addr × Obj)) (xe : Value → Shared → Prop), Takes (X.tr pn xe) W → PassesOwn (model X.prog X.w) X.A X.env xe → PSs (X.tr pn xe) body (tb W))
    (hh : ClasOk X (h₀ :: hds) l) : PS X (.Try body (h₀ :: hds) [] [] pos) (fun D σ H => tb (wCla X.K Wout D l) D σ H) := by
  refine ⟨fun pins s σ H D I h => ?_⟩
  have ok := I.ok
  have hfr : X.A.frames = some (X.env :: X.outer) := by rw [ok.frames, hs]
  refine wpAny_Try_except ?_
  refine wpAny_mono ((hb (wCla X.K Wout D l) (X.pn ++ pins) (fun e s₁ => wpAny (model X.prog X.w) X.A (noteFrame e X.env) (fun _ s₂ => wpAny (model X.prog X.w) X.A (setFlight e none) (fun _ s₃ =>
    wpAny (model X.prog X.w) X.A (handleBy e X.env (h₀ :: hds)) (SP X pins D) X.xe s₃) X.xe s₂) X.xe s₁) (fun u s' xx => ?_) PassesOwn.looking).run [] s σ H D (I.toTry _) h) (fun f s1 hsp => ?_) (fun e s1 he => he)
  · -- the catch
    obtain ⟨a, B, sI, pins', σ', H', cls, d, rfl, J', nb, up, sky, na, os, ag, w⟩ := xx
    have J : Inv X pins σ' H' sI := J'.ofTry ok
    have sky' : Sky B (X.env :: X.outer) a (Zc cls d) X.env.locals s'.heap := by rw [← hs]; exact sky
    show wpAny (model X.prog X.w) X.A (noteFrame (.ref a) X.env) _ _ _
    refine Sky.land Zc.steady hfr hf sky' fun h3 fl3 up3 => ?_
    have J3 : Inv X pins σ' H' { s' with heap := h3 } := J.landed nb fl3.1 (up.trans up3) os ag
    obtain ⟨oe3, vs3, he3, hz3, hd3⟩ := fl3.there
    have notFr : ∀ {h : Heap} {o : Obj} {vs : Array Value}, h.FunFrames B (X.env :: X.outer) → h.get? a = some o → o.data = .fields vs → a ∉ frs (X.env :: X.outer) := fun {h o vs} ff e dd hm => by
      obtain ⟨_, o', e', hnf⟩ := ff.mem hm
      rw [e] at e'; cases e'
      exact hnf _ dd
    have nfr := notFr fl3.2.2.1 he3 hd3
    have nL : a ≠ X.env.locals := fun z => nfr (List.mem_filterMap.mpr ⟨X.env, List.mem_cons_self, by rw [hf, z]⟩)
    have nF : a ∉ X.fs := fun hm => by
      obtain ⟨e, he, q⟩ := List.mem_filterMap.mp hm
      exact nfr (List.mem_filterMap.mpr ⟨e, List.mem_cons_of_mem _ he, q⟩)
    have S3 := J3.suite he3 hd3 na nL nF
    have LT : PySem.W.Looks (model X.prog X.w) h3 (typeOf (.ref a)) cls := fun A Q E s k q => wpAny_typeOf_ref (k _ _ he3) (by rw [hz3.1]; exact q)
    have test : ∀ {x : PySem.Str} {c : Value} {np : Pos} {Q : Value → Shared → Prop} {E : Value → Shared → Prop}, Names X x c → Q c { s' with heap := h3 } → wpAny (model X.prog X.w) (X.A.mark (some (.ref a))) (eval (.Name x np) X.env) Q E { s' with heap := h3 } := fun {x c np Q E} hc q => by
      obtain ⟨hg, hdbg, hm | ⟨hm, hv, hnn⟩⟩ := hc
      · exact ld_glob (X := X.suite a ((a, oe3) :: (X.pn ++ pins))) S3 hg hm q hdbg
      · exact ld_blt (X := X.suite a ((a, oe3) :: (X.pn ++ pins))) S3 hg hm hv q hnn hdbg
    have go : ∀ {hds' : List ExceptHandler} {l' : List Cla}, ClasOk X hds' l' → wCla X.K Wout D l' cls d σ' H' →
        wpAny (model X.prog X.w) X.A (handleBy (.ref a) X.env hds') (SP X pins D) X.xe { s' with heap := h3 } := by
      intro hds' l' hk
      induction hk with
      | nil =>
        intro w
        refine wpAny_handleBy_nil ?_
        obtain ⟨k1, k2, k3, oe, vs, T, oT, ts', he, hz, hd, h1, hr⟩ := id fl3
        unfold PySem.passOn
        refine wpAny_bind (wpAny_field he hd h1 ?_)
        rw [if_neg (show ¬ ((Value.ref T == Value.none) = true) from by simp)]
        have fin : wpAny (model X.prog X.w) X.A (setFlight (.ref a) X.env.frame) (fun _ s4 => wpAny (model X.prog X.w) X.A (throw (.ref a) : Sem Flow) (SP X pins D) X.xe s4) X.xe { s' with heap := h3 } := by
          rw [hf]
          refine HandSPX.setFlight_upZ fl3 fun h4 hh4 up4 => wpAny_throw (tk _ _ ?_)
          exact ⟨a, B, sI, pins, σ', H', cls, d, rfl, J, nb, (up.trans up3).trans up4, .inr (.inr (by rw [hs]; exact hh4)), na, os, ag, w⟩
        first
          | exact wpAny_bind (wpAny_pure (wpAny_bind fin))
          | exact wpAny_bind fin
      | @one x c ts b₀ suite np pos' hds2 l2 hc hsu r ih =>
        intro w
        obtain ⟨b, hb1, hyes, hno⟩ := w
        refine wpAny_handleBy_cons (codeAny_handlers_test ?_) (by intro q; cases q)
        have LM := PySem.W.exm_one (M := model X.prog X.w) (J3.kIn) LT hb1
        refine test hc (LM.here ?_)
        cases b with
        | true =>
          refine codeAny_handlers_suite ?_
          refine HandSPX.lands_againZ fl3 fun h4 fl4 up4 => ?_
          have J4 : Inv X pins σ' H' { s' with heap := h4 } := J.landed nb fl4.1 ((up.trans up3).trans up4) os ag
          obtain ⟨oe4, vs4, he4, hz4, hd4⟩ := fl4.there
          have S4 := J4.suite he4 hd4 na nL nF
          refine wpAny_mono ((hsu a oe4 cls d (X.pn ++ pins) hz4 ⟨_, hd4⟩).run [] _ _ H' _ S4 (hyes rfl a na)) (fun f s6 hsp => ?_) (fun _ _ z => False.elim z)
          cases f with
          | next =>
            obtain ⟨σ6, H6, S6, q6⟩ := hsp
            exact ⟨_, _, S6.unsuite ok, q6⟩
          | brk =>
            obtain ⟨σ6, H6, S6, q6⟩ := hsp
            exact ⟨_, _, S6.unsuite ok, q6⟩
          | cont =>
            obtain ⟨σ6, H6, S6, q6⟩ := hsp
            exact ⟨_, _, S6.unsuite ok, q6⟩
          | ret u =>
            obtain ⟨v6, σ6, H6, S6, r6, q6⟩ := hsp
            exact ⟨_, _, _, S6.unsuite ok, r6, q6⟩
        | false =>
          show wpAny _ X.A (handleBy (.ref a) X.env hds2) _ _ _
          exact ih (hno rfl)
      | @as x n i c ts b₀ suite np pos' hds2 l2 hN hi hln hc hsu r ih =>
        intro w
        obtain ⟨b, hb1, hyes, hno⟩ := w
        have hloc : Loc X.env.scope n := .inl hln
        refine wpAny_handleBy_cons (codeAny_handlers_test ?_) (by intro q; cases q)
        have LM := PySem.W.exm_one (M := model X.prog X.w) (J3.kIn) LT hb1
        refine test hc (LM.here ?_)
        cases b with
        | true =>
          refine codeAny_handlers_suite_as ?_
          refine HandSPX.lands_againZ fl3 fun h4 fl4 up4 => ?_
          have J4 : Inv X pins σ' H' { s' with heap := h4 } := J.landed nb fl4.1 ((up.trans up3).trans up4) os ag
          obtain ⟨oe4, vs4, he4, hz4, hd4⟩ := fl4.there
          have S4 := J4.suite he4 hd4 na nL nF
          refine store_ok (X := X.suite a ((a, oe4) :: (X.pn ++ pins))) (v := .ref a) S4 hN hi hloc rfl (fun s5 S5 => ?_) (.inr hln)
          refine wpAny_mono ((hsu a oe4 cls d (X.pn ++ pins) hz4 ⟨_, hd4⟩).run [] s5 _ H' _ S5 (hyes rfl a na)) (fun f s6 hsp => ?_) (fun _ _ z => False.elim z)
          have end_ : ∀ {σ6 : St} {H6 : Hp} {Q : Shared → Prop}, Inv (X.suite a ((a, oe4) :: (X.pn ++ pins))) [] σ6 H6 s6 → (∀ s7, Inv X pins (σ6.set i none) H6 s7 → Q s7) →
              wpAny (model X.prog X.w) X.A (do bindName X.env n .none; unbindBehindTheSuite X.env n pos') (fun _ s7 => Q s7) X.xe s6 := fun {σ6 H6 Q} S6 hq => gone_ok (S6.unsuite ok) hN hi hln hq
          cases f with
          | next =>
            obtain ⟨σ6, H6, S6, q6⟩ := hsp
            exact end_ S6 fun s7 J7 => ⟨_, _, J7, q6⟩
          | brk =>
            obtain ⟨σ6, H6, S6, q6⟩ := hsp
            exact end_ S6 fun s7 J7 => ⟨_, _, J7, q6⟩
          | cont =>
            obtain ⟨σ6, H6, S6, q6⟩ := hsp
            exact end_ S6 fun s7 J7 => ⟨_, _, J7, q6⟩
          | ret u =>
            obtain ⟨v6, σ6, H6, S6, r6, q6⟩ := hsp
            exact end_ S6 fun s7 J7 => ⟨_, _, _, J7, r6, q6⟩
        | false =>
          show wpAny _ X.A (handleBy (.ref a) X.env hds2) _ _ _
          exact ih (hno rfl)
    exact go hh w
  · cases f with
    | next =>
      obtain ⟨σ', H', J', q⟩ := hsp
      exact wpAny_execs_nil ⟨σ', H', J'.ofTry ok, q⟩
    | brk =>
      obtain ⟨σ', H', J', q⟩ := hsp
      exact ⟨σ', H', J'.ofTry ok, q⟩
    | cont =>
      obtain ⟨σ', H', J', q⟩ := hsp
      exact ⟨σ', H', J'.ofTry ok, q⟩
    | ret u =>
      obtain ⟨v, σ', H', J', r, q⟩ := hsp
      exact ⟨v, σ', H', J'.ofTry ok, r, q⟩
end
/-! ### isinstance of the error in hand -/
def rIsQ (K : PySem.W.Frag) (D a : Addr) (d : Option Addr) : List V → Hp → VK → Prop := fun xs H Q => (d = none ∨ ∃ dd fs, d = some dd ∧ H dd = some (.xd fs)) ∧
  ((∃ (c : V) (cv : Value) (b : Bool), xs = [.ref a, c] ∧ ClsV c cv ∧ PySem.W.kitOne K (.ref D) cv = some b ∧ Q (.bl b) H) ∨
    ∃ (tp : Addr) (cs : List V) (us : List Value) (b : Bool), xs = [.ref a, .ref tp] ∧ H tp = some (.tup cs) ∧ Paired ClsV cs us ∧ PySem.W.kitAny K (.ref D) us = some b ∧ Q (.bl b) H)
end L2
namespace PySem.W
open PySem PySem.Spec PySem.Calls PyProof.Rows
section
variable {prog : Program} {w : World} {A : Around} {E : Value → Shared → Prop} {s : Shared} {K : Frag} {x D : Addr} {ox : Obj} {od : Option Obj}
theorem dl_findObj {C : Addr} {name : Str} {a g : Value} (hc : (clsIn K C).isSome = true) (ha : findIn K (.ref C) name = some (some a)) (hg : specialIn K a "__get__" = some (some g)) (ht : takesIn K a = some true) : findObj K C od name = some (.bind g a) := by
  obtain ⟨cd, hc⟩ := Option.isSome_iff_exists.mp hc
  unfold findObj
  rw [hc, Option.bind_some, ha, Option.bind_some]
  simp [hg, ht]
theorem dl_kin_class {Q : Option Value → Shared → Prop} (hga : findIn K (.ref D) "__getattribute__" = some (some (.builtin "BaseException.__getattribute__"))) (hgt : findIn K (.ref D) "__getattr__" = some none) (hsub : subIn K (.ref D) (.type "BaseException") = some true)
    (hdct : hasDictIn K D = true) (ha : findIn K (.ref D) "__class__" = some (some (.builtin "object.__class__")))
    (hn : specialIn K (.builtin "object.__class__") "__get__" = some (some (.builtin "getset_descriptor.__get__"))) (htk : takesIn K (.builtin "object.__class__") = some true) (hm : mroIn K D (.type "object") = some true)
    (X : K.In s.heap) (I : InstAt s.heap x ox D od) (h : Q (some (.ref D)) { s with toks := s.toks + 1 }) : wpAny (model prog w) A (getAttr? (.ref x) "__class__") Q E s := by
  have hf : findObj K D od "__class__" = some (.bind (.builtin "getset_descriptor.__get__") (.builtin "object.__class__")) := dl_findObj (by obtain ⟨cd, hc, _⟩ := any_some hdct; rw [hc]; rfl) ha hn htk
  obtain ⟨hp, g, d, t, os⟩ := s
  have L0 := I.type (M := model prog w)
  have L1 := looks_findIn (M := model prog w) X hga
  have L2 := looks_findIn (M := model prog w) X hgt
  have L3 := looks_find (M := model prog w) X I hf
  have sub : Looks (model prog w) hp (isInstance (.ref x) (.type "BaseException")) true := L0.andThen (looks_subIn X hsub)
  have hx0 : (false && onTheHeap (Value.builtin "BaseException.__getattribute__")) = false := rfl
  have hx2 : (Value.builtin "BaseException.__getattribute__" == Value.builtin "object.__getattribute__") = false := by decide +kernel
  have hx1 : (onTheHeap (Value.ref D) && Value.builtin "BaseException.__getattribute__" == Value.builtin "object.__getattribute__") = false := by rw [hx2]; rfl
  unfold getAttr? getAttrBy? getAttrBy
  refine wpAny_bind (wpAny_mkText (wpAny_bind (wpAny_attempt (wpAny_holding (wpAny_bind (L0.at (wpAny_bind (L1.at ?_))))))))
  show wpAny _ _ (if (onTheHeap (Value.ref D) && Value.builtin "BaseException.__getattribute__" == Value.builtin "object.__getattribute__") = true then _ else _) _ _ _
  rw [hx1, if_neg Bool.false_ne_true]
  unfold getAttrByItsOwn hookBefore
  refine wpAny_bind ?_
  rw [if_pos (show onTheHeap (Value.ref D) = true from rfl)]
  refine L2.at ?_
  refine wpAny_bind (wpAny_attempt (wpAny_holding ?_))
  unfold callGetattribute
  rw [hx0, if_neg Bool.false_ne_true]
  unfold boundAndCalled
  rw [PySem.F.excAttr_ValueError.ga.bind (.ref x)]
  refine wpAny_bind (wpAny_pure ?_)
  show wpAny _ _ (call (.builtin "BaseException.__getattribute__") [.ref x, .str "__class__" t]) _ _ _
  refine wpAny_call (codeAny_call_builtin PySem.F.excAttr_ValueError.ga.plain PySem.F.entry_bexc_ga ?_)
  refine @check_slot (model prog w) _ _ ⟨hp, g, d, t + 1, os⟩ "BaseException.__getattribute__" "BaseException" "__getattribute__" (.ref x) [.str "__class__" t] [] _ (by decide +kernel) (by decide +kernel) sub (PySem.F.args_bexc_ga (.ref x) (.str "__class__" t)) ?_
  unfold Builtin.«object.__getattribute__»
  refine wpAny_bind (wpAny_of_eq (a := ((Value.ref x : Value), [Value.str "__class__" t])) (by first | rfl | (simp only [slotArgs]; rfl)) ?_)
  refine wpAny_bind (wpAny_pure (wpAny_bind (L0.at (wpAny_bind (L3.at ?_)))))
  show wpAny _ _ (holding [Value.builtin "object.__class__"] (call (.builtin "getset_descriptor.__get__") [.builtin "object.__class__", .ref x, .ref D]) >>= ret) _ _ _
  refine wpAny_bind (wpAny_holding (wpAny_call (class_get (s := ⟨hp, g, d, t + 1, os⟩) (ox := ox) (od := od) X I hm ?_)))
  refine wpAny_pure ?_
  show wpAny _ _ (handedOut (.ref D)) _ _ _
  rw [handedOut_of (v := .ref D) rfl]
  first
    | exact wpAny_pure (wpAny_pure h)
    | exact wpAny_pure h
    | exact wpAny_pure (wpAny_bind (wpAny_pure (wpAny_pure h)))
theorem dl_kitx (hga : findIn K (.ref D) "__getattribute__" = some (some (.builtin "BaseException.__getattribute__"))) (hgt : findIn K (.ref D) "__getattr__" = some none) (hsub : subIn K (.ref D) (.type "BaseException") = some true) (hdct : hasDictIn K D = true) (ha : findIn K (.ref D) "__class__" = some (some (.builtin "object.__class__")))
    (hn : specialIn K (.builtin "object.__class__") "__get__" = some (some (.builtin "getset_descriptor.__get__"))) (htk : takesIn K (.builtin "object.__class__") = some true) (hm : mroIn K D (.type "object") = some true) :
    KitX K (.ref x) (.ref D) (fun h => ∃ od, InstAt h x ox D od) where
  ty := fun _ _ _ ⟨_, I⟩ => I.type
  it := fun _ _ X _ => by
    obtain ⟨cdD, hcD, _⟩ := any_some hdct
    unfold clsIn at hcD
    split at hcD
    · rename_i c' d' cd' sl' ho
      intro A' Q' E' s' k q
      unfold isType loadHead
      exact wpAny_bind (wpAny_loadPart (k _ _ (X _ _ ho)) (wpAny_pure q))
    · cases hcD
  ne := fun h tp dd its n sl X htp => by
    obtain ⟨cdD, hcD, _⟩ := any_some hdct
    refine Bool.eq_false_iff.mpr fun q => ?_
    have e : D = tp := Value.ref.inj (beq_iff_eq.mp q)
    subst e
    unfold clsIn at hcD
    split at hcD
    · rename_i c' d' cd' sl' ho
      have z := (X _ _ ho).symm.trans htp
      cases z
    · cases hcD
  ca := fun X ⟨_, I⟩ k => dl_kin_class hga hgt hsub hdct ha hn htk hm X I k
end
end PySem.W
namespace L2
open PySem PySem.Spec PyProof.Rows
theorem call_isQ {X : Cx} {a D : Addr} {oe : Obj} {d : Option Addr} {pn : List (Addr × Obj)} (C : ExcC X.K D) (hz : Zc (.ref D) d oe) (hf : ∃ vs, oe.data = .fields vs) : CallR (X.suite a ((a, oe) :: pn)) (.builtin "isinstance") (rIsQ X.K D a d) := by
  intro pins s σ H xs us Q I r h
  obtain ⟨hd, h⟩ := h
  have J : ∃ od, PySem.W.InstAt s.heap a oe D od := by
    obtain ⟨hget, _⟩ := I.pin (a, oe) (List.mem_append.mpr (.inl List.mem_cons_self))
    obtain ⟨vs, hv⟩ := hf
    obtain ⟨oc, od, oda, osl⟩ := oe
    obtain ⟨h1, h2⟩ := hz
    dsimp only at h1 h2 hv
    subst h1 h2 hv
    rcases hd with e | ⟨dd, fs, e, ed⟩
    · subst e
      exact ⟨none, hget, rfl, rfl, trivial⟩
    · subst e
      obtain ⟨mA, hns, _⟩ := (show ∃ mA, s.heap.Ns1 dd mA ∧ _ from I.hok dd _ ed)
      obtain ⟨o, _, _, eo, _⟩ := hns
      exact ⟨some o, hget, rfl, rfl, eo⟩
  rcases h with ⟨c, cv, b, rfl, hcv, e, q⟩ | ⟨tp, cs, ws, b, rfl, hT, k, e, q⟩
  · cases r with
    | cons rx rr =>
      cases rr with
      | cons rt rr =>
        cases rr
        cases rx
        have ec := hcv.eq rt
        subst ec
        exact PySem.W.kia_one (PySem.W.dl_kitx (ox := oe) C.hg C.hk C.hs C.hd C.ha C.hn C.ht C.hm) I.kIn J e (fun z => nomatch z) fun tk => ⟨.bl b, H, I.kept (t' := tk) fun _ _ z => z, rfl, q⟩
  · cases r with
    | cons rx rr =>
      cases rr with
      | cons rt rr =>
        cases rr
        cases rx
        cases (show _ = Value.ref tp from rt)
        obtain ⟨_, its, rv, o, h1, h2, n, h3⟩ := (show ObjOk X.prog X.w H s.heap tp (.tup cs) from I.hok tp _ hT)
        have e3 := ClsV.all k rv
        subst e3
        obtain ⟨oc, od, dt, sl⟩ := o
        simp only at h2 h3
        subst h2 h3
        exact PySem.W.kia_tup (PySem.W.dl_kitx (ox := oe) C.hg C.hk C.hs C.hd C.ha C.hn C.ht C.hm) I.kIn J h1 e (fun z => nomatch z) fun tk => ⟨.bl b, H, I.kept (t' := tk) fun _ _ z => z, rfl, q⟩
end L2

set_option Elab.async false
set_option linter.all false
set_option maxRecDepth 100000
/-! Su: try, over data. -/
namespace Dl
open PySem PySem.Spec PyProof.Rows L2

theorem XRep.mono {G : Cfg} {B B' : Hp} {c : Nat} {xs : List D} {cls : Value} {d : Option Addr} (h : Same B B') (r : XRep G B c xs cls d) : XRep G B' c xs cls d := ⟨r.1, r.2.1, fun z => by
  obtain ⟨dd, vs, e1, e2, e3, e4⟩ := r.2.2 z
  exact ⟨dd, vs, e1, h _ _ e2, e3, Reps.mono h _ _ e4⟩⟩
/-- the error in hand, at slot oi -/
def Ph.err (G : Cfg) (c : Nat) (xs : List D) (oi : Option Nat) (a : Addr) (cls : Value) (d : Option Addr) : Ph where
  p := fun B σ => XRep G B c xs cls d ∧ ∀ i, oi = some i → σ[i]? = some (some (.ref a))
  mono := fun B B' σ h q => ⟨q.1.mono h, q.2⟩
  off := fun j => match oi with
    | none => true
    | some i => i != j
  keep := fun j B σ o ho q => ⟨q.1, fun i e => by
    subst e
    have h1 : (i != j) = true := ho
    rw [List.getElem?_set_ne (Ne.symm (by simpa using h1))]
    exact q.2 i rfl⟩
/-- a statement list's weakest reading -/
def stOf (G : Cfg) (Φ : Ph) (W : WX) (m : DS) : TS := fun D σ H => ∃ B A ρ L, StR G Φ B A ρ L σ H ∧ FP G Φ W (m ρ L) B A H D
theorem QSs.can {G : Cfg} {X : Cx} {Φ : Ph} {W : WX} {st : List Stmt} {m : DS} (h : QSs G X Φ W st m) : PSs X st (stOf G Φ W m) := by
  obtain ⟨ts, p, k⟩ := h
  exact ⟨fun pins s σ H D I ⟨B, A, ρ, L, S, q⟩ => p.run pins s σ H D I (k σ H B A ρ L D S q)⟩
inductive HdsD (G : Cfg) (X : Cx) (sub : Sub) (errs : List Nat) : List ExceptHandler → List Hd → Prop
  | nil : HdsD G X sub errs [] []
  | one {x : PySem.Str} {b : Nat} {m : Nat → List D → DS} {b₀ : Stmt} {suite : List Stmt} {np pos' : Pos} {hds : List ExceptHandler} {l : List Hd} (hc : Names X x (.ref (G.cl b))) (he : ∀ c ∈ errs, PySem.W.exmOne X.K (.ref (G.cl c)) (.ref (G.cl b)) = some (sub c b))
      (hsu : ∀ (a : Addr) (oe : Obj) (d : Option Addr) (pn : List (Addr × Obj)) (c : Nat) (xs : List D), c ∈ errs → sub c b = true → Zc (.ref (G.cl c)) d oe → (∃ vs, oe.data = .fields vs) → QSs G (X.suite a ((a, oe) :: pn)) (Ph.err G c xs none a (.ref (G.cl c)) d) NoW (b₀ :: suite) (m c xs)) (r : HdsD G X sub errs hds l) :
      HdsD G X sub errs (.ExceptHandler (some (.Name x np)) none (b₀ :: suite) pos' :: hds) ((b, none, m) :: l)
  | as {x n : PySem.Str} {i b : Nat} {m : Nat → List D → DS} {b₀ : Stmt} {suite : List Stmt} {np pos' : Pos} {hds : List ExceptHandler} {l : List Hd} (hi : X.N[i]? = some n) (hln : X.env.kindOf n = some .local) (hc : Names X x (.ref (G.cl b))) (he : ∀ c ∈ errs, PySem.W.exmOne X.K (.ref (G.cl c)) (.ref (G.cl b)) = some (sub c b))
      (hsu : ∀ (a : Addr) (oe : Obj) (d : Option Addr) (pn : List (Addr × Obj)) (c : Nat) (xs : List D), c ∈ errs → sub c b = true → Zc (.ref (G.cl c)) d oe → (∃ vs, oe.data = .fields vs) → QSs G (X.suite a ((a, oe) :: pn)) (Ph.err G c xs (some i) a (.ref (G.cl c)) d) NoW (b₀ :: suite) (m c xs)) (r : HdsD G X sub errs hds l) :
      HdsD G X sub errs (.ExceptHandler (some (.Name x np)) (some n) (b₀ :: suite) pos' :: hds) ((b, some i, m) :: l)
section
variable {G : Cfg} {X : Cx} {W : WX} {sub : Sub} {errs : List Nat}
def tsOf (G : Cfg) (sub : Sub) (errs : List Nat) (h : Hd) : Addr → Value → Option Addr → TS := fun a cls d D σ H => ∃ c xs, c ∈ errs ∧ sub c h.1 = true ∧ cls = .ref (G.cl c) ∧ stOf G (Ph.err G c xs h.2.1 a (.ref (G.cl c)) d) NoW (h.2.2 c xs) D σ H
def claOf (G : Cfg) (sub : Sub) (errs : List Nat) (h : Hd) : Cla := (.ref (G.cl h.1), h.2.1, tsOf G sub errs h)
theorem HdsD.cla (hN : X.N.Nodup) {hds : List ExceptHandler} {l : List Hd} (h : HdsD G X sub errs hds l) : ClasOk X hds (l.map (claOf G sub errs)) := by
  induction h with
  | nil => exact .nil
  | one hc he hsu r ih =>
    refine .one hc (fun a oe cls d pn hz hf => ⟨fun pins s σ H D I ⟨c, xs, h1, h2, h3, h4⟩ => ?_⟩) ih
    subst h3
    exact (hsu a oe d pn c xs h1 h2 hz hf).can.run pins s σ H D I h4
  | as hi hln hc he hsu r ih =>
    refine .as hN hi hln hc (fun a oe cls d pn hz hf => ⟨fun pins s σ H D I ⟨c, xs, h1, h2, h3, h4⟩ => ?_⟩) ih
    subst h3
    exact (hsu a oe d pn c xs h1 h2 hz hf).can.run pins s σ H D I h4
theorem StR.forget {Φ : Ph} {B : Hp} {A : List Addr} {ρ : Env} {L : Led} {σ : L2.St} {H : Hp} (oi : Option Nat) (s : StR G Φ B A ρ L σ H) : StR G Ph.yes B A (Dl.forget oi ρ) L (match oi with
    | none => σ
    | some i => σ.set i none) H := by
  cases oi with
  | none => exact ⟨trivial, s.env, s.ctx⟩
  | some i => exact ⟨trivial, s.env.forget i none, s.ctx⟩
theorem FP.out {Φ : Ph} {oi : Option Nat} {f : Flow} {B : Hp} {A : List Addr} {H : Hp} {D : Ends} (h : FP G Ph.yes W (f.out oi) B A H D) : FP G Φ NoW f B A H (dAs oi D) := by
  cases f with
  | next ρ L =>
    intro B' A' H' σ' x s
    have q := h B' A' H' _ x (s.forget oi)
    cases oi <;> exact q
  | ret v L =>
    intro B' A' H' u x c r
    have q := h B' A' H' u x c r
    cases oi <;> exact q
  | brk ρ L =>
    intro B' A' H' σ' x s
    have q := h B' A' H' _ x (s.forget oi)
    cases oi <;> exact q
  | cont ρ L =>
    intro B' A' H' σ' x s
    have q := h B' A' H' _ x (s.forget oi)
    cases oi <;> exact q
  | exc c xs ρ L => exact h.elim
  | bad => exact h.elim
theorem handle_ok {c : Nat} {xs : List D} {ρ : Env} {L : Led} {B B' : Hp} {A A' : List Addr} {H H' : Hp} {σ : L2.St} {cls : Value} {d : Option Addr} {D : Ends} (hc : c ∈ errs) (x : Ext B A H B' A' H') (s : StR G Ph.yes B' A' ρ L σ H') (r : XRep G B' c xs cls d) {hds : List ExceptHandler} {l : List Hd} (hh : HdsD G X sub errs hds l) :
    FP G Ph.yes W (handle sub c xs l ρ L) B A H D → wCla X.K W D (l.map (claOf G sub errs)) cls d σ H' := by
  have ec : cls = .ref (G.cl c) := r.1
  subst ec
  have main : ∀ (h : Hd) (l : List Hd), PySem.W.exmOne X.K (.ref (G.cl c)) (.ref (G.cl h.1)) = some (sub c h.1) → (FP G Ph.yes W (handle sub c xs l ρ L) B A H D → wCla X.K W D (l.map (claOf G sub errs)) (.ref (G.cl c)) d σ H') →
      FP G Ph.yes W (handle sub c xs (h :: l) ρ L) B A H D → wCla X.K W D ((h :: l).map (claOf G sub errs)) (.ref (G.cl c)) d σ H' := fun h l he ih q => by
    refine ⟨_, he, fun hb a ha => ?_, fun hb => ?_⟩
    · have q1 : FP G Ph.yes W (if sub c h.1 = true then (if slotOk h.2.1 ρ = true then (h.2.2 c xs (Dl.forget h.2.1 ρ) L).out h.2.1 else .bad) else handle sub c xs l ρ L) B A H D := q
      rw [if_pos hb] at q1
      by_cases hs : slotOk h.2.1 ρ = true
      · rw [if_pos hs] at q1
        refine ⟨c, xs, hc, hb, rfl, B', A', _, L, ?_, FP.ext x q1.out⟩
        obtain ⟨b, oi, m⟩ := h
        cases oi with
        | none => exact ⟨⟨r, fun i e => by cases e⟩, s.env, s.ctx⟩
        | some i =>
          have hi : i < ρ.length := of_decide_eq_true hs
          refine ⟨⟨r, fun j e => ?_⟩, s.env.forget i _, s.ctx⟩
          cases e
          show (σ.set i (some (.ref a)))[i]? = _
          rw [List.getElem?_set_self (by rw [← s.env.1]; exact hi)]
      · rw [if_neg hs] at q1
        exact q1.elim
    · have q1 : FP G Ph.yes W (if sub c h.1 = true then (if slotOk h.2.1 ρ = true then (h.2.2 c xs (Dl.forget h.2.1 ρ) L).out h.2.1 else .bad) else handle sub c xs l ρ L) B A H D := q
      rw [if_neg (by rw [hb]; exact Bool.false_ne_true)] at q1
      exact ih q1
  induction hh with
  | nil => exact fun q => q B' A' H' σ _ d x s r
  | one hc' he hsu r' ih => exact main _ _ (he c hc) ih
  | as hi hln hc' he hsu r' ih => exact main _ _ (he c hc) ih
theorem qs_try {k : Nat} {body : List Stmt} {h₀ : ExceptHandler} {hds : List ExceptHandler} {l : List Hd} {t : DS} {pos : Pos} (co : CO X W k) (hs : X.stack = X.env :: X.outer) (hf : X.env.frame = some X.env.locals)
    (hb : ∀ (W' : WX) (pn : List (Addr × Obj)) (xe : Value → Shared → Prop), CO (X.tr pn xe) W' k → QSs G (X.tr pn xe) Ph.yes W' body t) (hh : HdsD G X sub errs (h₀ :: hds) l) : QS G X Ph.yes W (.Try body (h₀ :: hds) [] [] pos) (sTry sub errs t l) := by
  refine ⟨_, ps_tryQ (tb := fun W' => stOf G Ph.yes W' t) hs hf co.tk (fun W' pn xe tk po => (hb W' pn xe ⟨co.nd, co.calm, co.room, po, tk⟩).can) (hh.cla co.nd), fun σ H B A ρ L D S q => ⟨B, A, ρ, L, S, ?_⟩⟩
  unfold sTry at q
  cases e : t ρ L with
  | next ρ1 L1 => rw [e] at q; exact q
  | ret v L1 => rw [e] at q; exact q
  | brk ρ1 L1 => rw [e] at q; exact q
  | cont ρ1 L1 => rw [e] at q; exact q
  | bad => rw [e] at q; exact q
  | exc c xs ρ1 L1 =>
    rw [e] at q
    dsimp only at q
    by_cases hc : c ∈ errs
    · rw [if_pos hc] at q
      exact fun B' A' H' σ' cls d x s r => handle_ok hc x s r hh q
    · rw [if_neg hc] at q
      exact q.elim
/-! ### the error in hand -/
structure IsOk (G : Cfg) (K : PySem.W.Frag) (sub : Sub) (errs : List Nat) (c : Nat) : Prop where
  C : ExcC K (G.cl c)
  one : ∀ b ∈ errs, PySem.W.kitOne K (.ref (G.cl c)) (.ref (G.cl b)) = some (sub c b)
variable {Φ : Ph} {a : Addr} {oe : Obj} {d : Option Addr} {pn : List (Addr × Obj)} {c i : Nat} {xs : List D} {n : PySem.Str} {p p1 pos : Pos} {ce : Expr} {m : DE}
theorem isE_rep {B : Hp} {v : D} {u : V} {b : Bool} (O : IsOk G X.K sub errs c) (h : isE sub errs c v = some b) (r : Rep G B v u) : ∃ cv, ClsV u cv ∧ PySem.W.kitOne X.K (.ref (G.cl c)) cv = some b := by
  cases v with
  | cls k =>
    have h1 : (if k ∈ errs then some (sub c k) else none) = some b := h
    by_cases z : k ∈ errs
    · rw [if_pos z] at h1
      cases h1
      have e : u = .ref (G.cl k) := r
      subst e
      exact ⟨_, .own _, O.one k z⟩
    · rw [if_neg z] at h1
      cases h1
  | _ => cases h
theorem isEs_rep {B : Hp} (O : IsOk G X.K sub errs c) : ∀ {vs : List D} {us : List V} {b : Bool}, isEs sub errs c vs = some b → Reps G B vs us → ∃ cvs, Paired ClsV us cvs ∧ PySem.W.kitAny X.K (.ref (G.cl c)) cvs = some b
  | [], us, b, h, r => by
    cases h
    have e : us = [] := r
    subst e
    exact ⟨[], .nil, rfl⟩
  | v :: vs, us, b, h, ⟨u, ws, e, r1, r2⟩ => by
    obtain ⟨b1, h1, h2⟩ := bind_some (show ((isE sub errs c v).bind fun b => (isEs sub errs c vs).map (b || ·)) = some b from h)
    obtain ⟨b2, h3, h4⟩ := Option.map_eq_some_iff.mp h2
    obtain ⟨cv, k1, k2⟩ := isE_rep O h1 r1
    obtain ⟨cvs, k3, k4⟩ := isEs_rep O h3 r2
    subst e
    refine ⟨cv :: cvs, .cons k1 k3, kitAny_cons k2 (fun z => ?_) (fun z => ?_)⟩
    · rw [k4, ← h4, z]
      rfl
    · rw [← h4, z]
      rfl
theorem qe_isE (O : IsOk G X.K sub errs c) (hz : Zc (.ref (G.cl c)) d oe) (hf : ∃ vs, oe.data = .fields vs) (hg : Gl X "isinstance") (hm : X.mg "isinstance" = none) (hi : X.N[i]? = some n) (hv : Vis X.env.scope n) (hce : QE G (X.suite a ((a, oe) :: pn)) (Ph.err G c xs (some i) a (.ref (G.cl c)) d) W ce m)
    (hdb : (n == ("__debug__" : PySem.Str)) = false := by decide) (hcd : (n == ("__classdict__" : PySem.Str)) = false := by decide) (he : starEach [.Name n p1, ce] X.env = (false, eval (.Name n p1) X.env) :: starEach [ce] X.env := by rfl) (he2 : starEach [ce] X.env = (false, eval ce X.env) :: starEach [] X.env := by rfl) (hpl : (backTo pos (starEach [ce] X.env)).any (·.1) = false := by rfl) :
    QE G (X.suite a ((a, oe) :: pn)) (Ph.err G c xs (some i) a (.ref (G.cl c)) d) W (.Call (.Name "isinstance" p) [.Name n p1, ce] [] pos) (eIsE sub errs c m) := by
  have hce' := hce.can
  refine ⟨_, pe_callB (X := X.suite a ((a, oe) :: pn)) (call_isQ (d := d) O.C hz hf) hg hm PyProof.Rows.Boot.isinstance (pa_cons (pe_var (X := X.suite a ((a, oe) :: pn)) hi hv hdb hcd) (pa_cons hce' pa_nil he2) he) (by decide) (by decide) he hpl, fun σ H B A ρ L Q S q => ?_⟩
  refine ⟨.ref a, S.phi.2 i rfl, B, A, ρ, L, S, ?_⟩
  have q' : RPV G ((m ρ L).bind fun v L1 => match v with
    | .d (.tup vs) => (match isEs sub errs c vs with
      | some b => .ok (.d (.bl b)) L1
      | none => .bad)
    | .d v => (match isE sub errs c v with
      | some b => .ok (.d (.bl b)) L1
      | none => .bad)
    | _ => (.bad : Res Rv)) B A H Q (fun c d H' => W c d σ H') := q
  refine RP.bind q' fun v L1 B1 A1 H1 u x1 c1 r1 q1 => ?_
  have hd : d = none ∨ ∃ dd fs, d = some dd ∧ H1 dd = some (.xd fs) := by
    cases xs with
    | nil => exact .inl (S.phi.1.2.1 rfl)
    | cons y ys =>
      obtain ⟨dd, vs, e1, e2, _, _⟩ := S.phi.1.2.2 (by intro z; cases z)
      exact .inr ⟨dd, _, e1, c1.sub _ _ (x1.base _ _ e2)⟩
  have one : ∀ v : D, RepR G B1 A1 (.d v) u → RPV G (match isE sub errs c v with
      | some b => .ok (.d (.bl b)) L1
      | none => (.bad : Res Rv)) B1 A1 H1 Q (fun c d H' => W c d σ H') → tNil σ H1 fun ys H2 => rIsQ X.K (G.cl c) a d (.ref a :: u :: ys) H2 Q := fun v r1 q1 => by
    cases e1 : isE sub errs c v with
    | none =>
      rw [e1] at q1
      exact q1.elim
    | some b =>
      rw [e1] at q1
      obtain ⟨cv, k1, k2⟩ := isE_rep O e1 r1
      exact ⟨hd, .inl ⟨u, cv, b, rfl, k1, k2, q1 B1 A1 H1 (.bl b) Ext.refl c1 rfl⟩⟩
  cases v with
  | loc k => exact q1.elim
  | d v =>
    cases v with
    | tup vs =>
      dsimp only at q1
      cases e1 : isEs sub errs c vs with
      | none =>
        rw [e1] at q1
        exact q1.elim
      | some b =>
        rw [e1] at q1
        obtain ⟨tp, us, e2, e3, e4⟩ := r1
        obtain ⟨cvs, k1, k2⟩ := isEs_rep O e1 e4
        rw [e2]
        exact ⟨hd, .inr ⟨tp, us, cvs, b, rfl, c1.sub _ _ e3, k1, k2, q1 B1 A1 H1 (.bl b) Ext.refl c1 rfl⟩⟩
    | _ => exact one _ r1 q1
theorem qe_isV {T : String} {x : PySem.Str} {p2 : Pos} {b : Bool} (O : ExcC X.K (G.cl c)) (hz : Zc (.ref (G.cl c)) d oe) (hf : ∃ vs, oe.data = .fields vs) (hg : Gl X "isinstance") (hm : X.mg "isinstance" = none) (hi : X.N[i]? = some n) (hv : Vis X.env.scope n) (hgx : Gl X x) (hmx : X.mg x = none) (hbx : bootBuiltins x = some (.type T)) (hk : PySem.W.kitOne X.K (.ref (G.cl c)) (.type T) = some b)
    (hdb : (n == ("__debug__" : PySem.Str)) = false := by decide) (hcd : (n == ("__classdict__" : PySem.Str)) = false := by decide) (hdx : (x == ("__debug__" : PySem.Str)) = false := by decide) (hnx : x ≠ "__name__" := by decide)
    (he : starEach [.Name n p1, .Name x p2] X.env = (false, eval (.Name n p1) X.env) :: starEach [.Name x p2] X.env := by rfl) (he2 : starEach [.Name x p2] X.env = (false, eval (.Name x p2) X.env) :: starEach [] X.env := by rfl) (hpl : (backTo pos (starEach [.Name x p2] X.env)).any (·.1) = false := by rfl) :
    QE G (X.suite a ((a, oe) :: pn)) (Ph.err G c xs (some i) a (.ref (G.cl c)) d) W (.Call (.Name "isinstance" p) [.Name n p1, .Name x p2] [] pos) (cE (.bl b)) := by
  refine ⟨_, pe_callB (X := X.suite a ((a, oe) :: pn)) (call_isQ (d := d) O hz hf) hg hm PyProof.Rows.Boot.isinstance (pa_cons (pe_var (X := X.suite a ((a, oe) :: pn)) hi hv hdb hcd) (pa_cons (pe_bltn (X := X.suite a ((a, oe) :: pn)) (v := .ty T) hgx hmx hbx rfl hnx hdx) pa_nil he2) he) (by decide) (by decide) he hpl, fun σ H B A ρ L Q S q => ?_⟩
  refine ⟨.ref a, S.phi.2 i rfl, ?_⟩
  have hd : d = none ∨ ∃ dd fs, d = some dd ∧ H dd = some (.xd fs) := by
    cases xs with
    | nil => exact .inl (S.phi.1.2.1 rfl)
    | cons y ys =>
      obtain ⟨dd, vs, e1, e2, _, _⟩ := S.phi.1.2.2 (by intro z; cases z)
      exact .inr ⟨dd, _, e1, S.ctx.sub _ _ e2⟩
  exact ⟨hd, .inl ⟨.ty T, .type T, b, rfl, .ty T, hk, q B A H (.bl b) Ext.refl S.ctx rfl⟩⟩
/-- e.f -/
theorem qe_errf {f : PySem.Str} {k : Nat} (T : XfC X.K (G.cl c)) (hno : PySem.W.findIn X.K (.ref (G.cl c)) f = some none) (hz : Zc (.ref (G.cl c)) d oe) (hf : ∃ vs, oe.data = .fields vs) (hk : (G.nm c)[k]? = some f) (hnd : (G.nm c).Nodup) (hi : X.N[i]? = some n) (hv : Vis X.env.scope n)
    (hdb : (n == ("__debug__" : PySem.Str)) = false := by decide) (hcd : (n == ("__classdict__" : PySem.Str)) = false := by decide) (hb : attributeBase (.Name n p1) f X.env (eval (.Name n p1) X.env) = eval (.Name n p1) X.env := by rfl) :
    QE G (X.suite a ((a, oe) :: pn)) (Ph.err G c xs (some i) a (.ref (G.cl c)) d) W (.Attribute (.Name n p1) f pos) (excE xs k) := by
  refine ⟨_, pe_xf T hno hz hf (pe_var (X := X.suite a ((a, oe) :: pn)) hi hv hdb hcd) hb, fun σ H B A ρ L Q S q => ⟨.ref a, S.phi.2 i rfl, rfl, rfl, ?_⟩⟩
  have q' : RPV G (match xs[k]? with
    | some v => .ok (.d v) L
    | none => (.bad : Res Rv)) B A H Q (fun c d H' => W c d σ H') := q
  cases e : xs[k]? with
  | none =>
    rw [e] at q'
    exact q'.elim
  | some v =>
    rw [e] at q'
    obtain ⟨dd, vs, e1, e2, _, e4⟩ := S.phi.1.2.2 (by intro z; rw [z] at e; simp at e)
    obtain ⟨u, h1, h2⟩ := Reps.get e4 e
    exact ⟨dd, _, u, e1, S.ctx.sub _ _ e2, lookup_zip hnd hk h1, q' B A H u Ext.refl S.ctx h2⟩
end
end Dl

set_option Elab.async false
set_option linter.all false
set_option maxRecDepth 100000
/-! Sk: isinstance of built-in types; statements that never run. -/
namespace Dl
open PySem PySem.Spec PyProof.Rows L2

def Ty.name : Ty → String
  | .int => "int" | .bool => "bool" | .str => "str" | .list => "list" | .tuple => "tuple" | .dict => "dict" | .non => "NoneType"
theorem Ty.kit : ∀ (a t : Ty), t ≠ .non → kitB a.name t.name = some (a.below t) := by
  intro a t
  cases a <;> cases t <;> intro h <;> first | exact absurd rfl h | decide +kernel
theorem tyD_of {G : Cfg} {B : Hp} {A : List Addr} {L : Led} {H : Hp} {K : PySem.W.Frag} {x : Rv} {u : V} {t : Ty} (C : Ctx G B A L H) (r : RepR G B A x u) (h : tyD L x = some t) : TyX K H u (.type t.name) := by
  cases x with
  | d x =>
    cases x with
    | non => cases h; obtain rfl : u = .non := r; exact .base .non
    | bl b => cases h; obtain rfl : u = .bl b := r; exact .base (.bl b)
    | int i => cases h; obtain rfl : u = .int i := r; exact .base (.int i)
    | str s => cases h; obtain rfl : u = .str (sOf s) := r; exact .base (.str _)
    | lst xs =>
      cases h
      obtain ⟨a, vs, e1, e2, _⟩ := r
      rw [e1]
      exact .base (.lst (C.sub _ _ e2))
    | tup xs =>
      cases h
      obtain ⟨a, vs, e1, e2, _⟩ := r
      rw [e1]
      exact .base (.tup (C.sub _ _ e2))
    | slst xs => cases h
    | stup xs => cases h
    | obj c xs => cases h
    | cls c => cases h
  | loc n =>
    have h1 : (match L[n]? with
      | some (.lst _) => some .list
      | some (.seq _) => some .list
      | some (.dK _) => some .dict
      | some (.dT _) => some .dict
      | some (.rcd _ _) => some .dict
      | _ => none) = some t := h
    obtain ⟨a, ha, eu⟩ := r
    cases e : L[n]? with
    | none =>
      rw [e] at h1
      cases h1
    | some c =>
      rw [e] at h1
      obtain ⟨o, h2, h3⟩ := C.cell ha e
      cases c with
      | lst xs =>
        cases h1
        obtain ⟨vs, h4, _⟩ := h3
        rw [eu]
        exact .base (.lst (by rw [h2, h4]))
      | dK xs =>
        cases h1
        obtain ⟨vs, h4, _⟩ := h3
        rw [eu]
        exact .base (.dK (by rw [h2, h4]))
      | dT xs =>
        cases h1
        obtain ⟨vs, h4, _⟩ := h3
        rw [eu]
        exact .base (.dT (by rw [h2, h4]))
      | rcd ks xs =>
        cases h1
        obtain ⟨vs, h4, _⟩ := h3
        rw [eu]
        exact .base (.dK (by rw [h2, h4]))
      | seq xs =>
        cases h1
        obtain ⟨vs, h4, _⟩ := h3
        rw [eu]
        exact .base (.lst (by rw [h2, h4]))
      | obj c xs => cases h1
      | fz c => cases h1
      | dead => cases h1
section
variable {G : Cfg} {X : Cx} {Φ : Ph} {W : WX} {pos p p2 : Pos} {a : Expr} {ma : DE} {x : PySem.Str}
theorem qe_isTy (t : Ty) (ha : QE G X Φ W a ma) (hg : Gl X "isinstance") (hm : X.mg "isinstance" = none) (hgx : Gl X x) (hmx : X.mg x = none) (hbx : bootBuiltins x = some (.type t.name)) (ht : t ≠ .non := by decide) (hdx : (x == ("__debug__" : PySem.Str)) = false := by decide) (hnx : x ≠ "__name__" := by decide)
    (he : starEach [a, .Name x p2] X.env = (false, eval a X.env) :: starEach [.Name x p2] X.env := by rfl) (he2 : starEach [.Name x p2] X.env = (false, eval (.Name x p2) X.env) :: starEach [] X.env := by rfl) (hpl : (backTo pos (starEach [.Name x p2] X.env)).any (·.1) = false := by rfl) :
    QE G X Φ W (.Call (.Name "isinstance" p) [a, .Name x p2] [] pos) (e1 (isTyV t) ma) := by
  obtain ⟨te, pe, k⟩ := ha
  refine ⟨_, pe_callB call_isi hg hm PyProof.Rows.Boot.isinstance (pa_cons pe (pa_cons (pe_bltn (v := .ty t.name) hgx hmx hbx rfl hnx hdx) pa_nil he2) he) (by decide) (by decide) he hpl, fun σ H B A ρ L Q S q => ?_⟩
  refine k σ H B A ρ L _ S (RP.bind q fun v L1 B1 A1 H1 u x1 c1 r1 q1 => ?_)
  have q2 : RPV G (match tyD L1 v with | some a => .ok (.d (.bl (a.below t))) L1 | none => (.bad : Res Rv)) B1 A1 H1 Q (fun c d H' => W c d σ H') := q1
  cases e : tyD L1 v with
  | none =>
    rw [e] at q2
    exact q2.elim
  | some ty =>
    rw [e] at q2
    exact ⟨u, .ty t.name, .type ty.name, .type t.name, ty.below t, rfl, .ty _, tyD_of c1 r1 e, kit_ty (Ty.kit ty t ht), q2 B1 A1 H1 _ Ext.refl c1 rfl⟩
/-- never run -/
def sBad : DS := fun _ _ => .bad
theorem qs_bad {st : Stmt} : QS G X Φ W st sBad := ⟨fun _ _ _ => False, ⟨fun pins s σ H D I h => h.elim⟩, fun σ H B A ρ L D S q => q.elim⟩
def eBad : DE := fun _ _ => .bad
theorem qe_bad {e : Expr} : QE G X Φ W e eBad := ⟨fun _ _ _ => False, ⟨fun pins s σ H Q I h => h.elim⟩, fun σ H B A ρ L Q S q => q.elim⟩
end
end Dl

set_option Elab.async false
set_option linter.all false
set_option maxRecDepth 100000
/-! Sm: the head's facts. -/
namespace Dl
open PySem PySem.Spec PyProof.Rows L2

def sB (a b : Option (Option Value)) : Bool := decide (a = b)
/-! ### errors -/
def oexB (K : PySem.W.Frag) (C : Addr) : Bool := match K.lookup C with
  | some ⟨.type "type", _, .cls cd, sl⟩ => (match cd.mro, sl.toList with
    | .ref C' :: bm, [_, _, _, _, some (.builtin n), _] => C' == C && n == "ValueError.__new__" && !cd.hasDel && cd.hasDict && PySem.HandSPX.refsVE bm
    | _, _ => false)
  | _ => false
def errB (K : PySem.W.Frag) (C : Addr) : Bool := oexB K C && (sB (PySem.W.findIn K (.ref C) "__setattr__") (some (some (.builtin "object.__setattr__"))) && (decide (PySem.W.subIn K (.ref C) (.type "BaseException") = some true) && (decide (PySem.W.typeIn K (.ref C) = some (.type "type")) && PySem.W.keepIn K (.ref C))))
theorem errB_ok {K : PySem.W.Frag} {C : Addr} (h : errB K C = true) : OexC K C := by
  unfold errB at h
  simp only [Bool.and_eq_true, decide_eq_true_eq, sB] at h
  obtain ⟨h1, h2, h3, h4, h5⟩ := h
  refine ⟨?_, h2, h3, h4, h5⟩
  unfold oexB at h1
  split at h1
  · rename_i dd cd sl ho
    split at h1
    · rename_i C' bm k0 k1 k2 k3 n k5 hm hs
      simp only [Bool.and_eq_true, beq_iff_eq, Bool.not_eq_true'] at h1
      obtain ⟨⟨⟨⟨rfl, rfl⟩, hdel⟩, hdct⟩, ht⟩ := h1
      obtain ⟨nm, bs, mro, ns, qn, hd, sn, sub, ab, col, del⟩ := cd
      dsimp only at hm hdel hdct
      subst hm hdel hdct
      have hsl : sl = #[k0, k1, k2, k3, some (.builtin "ValueError.__new__"), k5] := by
        obtain ⟨l⟩ := sl
        simp only at hs
        rw [hs]
      subst hsl
      exact ⟨nm, qn, ns, bs, bm, sn, sub, ab, col, dd, k0, k1, k2, k3, k5, ho, ht⟩
    · cases h1
  · cases h1
/-- what isinstance, fields ask of an error's class -/
def exmB (K : PySem.W.Frag) (C : Addr) : Bool := sB (PySem.W.findIn K (.ref C) "__getattribute__") (some (some (.builtin "BaseException.__getattribute__"))) && (sB (PySem.W.findIn K (.ref C) "__getattr__") (some none) && (decide (PySem.W.subIn K (.ref C) (.type "BaseException") = some true) && (PySem.W.hasDictIn K C &&
  (sB (PySem.W.findIn K (.ref C) "__class__") (some (some (.builtin "object.__class__"))) && (sB (PySem.W.specialIn K (.builtin "object.__class__") "__get__") (some (some (.builtin "getset_descriptor.__get__"))) && (decide (PySem.W.takesIn K (.builtin "object.__class__") = some true) && decide (PySem.W.mroIn K C (.type "object") = some true)))))))
theorem exmB_ok {K : PySem.W.Frag} {C : Addr} (h : exmB K C = true) : ExcC K C ∧ XfC K C := by
  unfold exmB at h
  simp only [Bool.and_eq_true, decide_eq_true_eq, sB] at h
  obtain ⟨h1, h2, h3, h4, h5, h6, h7, h8⟩ := h
  exact ⟨⟨h1, h2, h3, h4, h5, h6, h7, h8⟩, ⟨h1, h2, h3, h4⟩⟩
/-- of two errors' classes: which clause takes which, what isinstance says -/
def relsB (K : PySem.W.Frag) (cl : Nat → Addr) (sub : Sub) (errs : List Nat) : Bool := errs.all fun c => errs.all fun b => decide (PySem.W.exmOne K (.ref (cl c)) (.ref (cl b)) = some (sub c b)) && decide (PySem.W.kitOne K (.ref (cl c)) (.ref (cl b)) = some (sub c b))
theorem relsB_ok {K : PySem.W.Frag} {cl : Nat → Addr} {sub : Sub} {errs : List Nat} (h : relsB K cl sub errs = true) : ∀ c ∈ errs, ∀ b ∈ errs, PySem.W.exmOne K (.ref (cl c)) (.ref (cl b)) = some (sub c b) ∧ PySem.W.kitOne K (.ref (cl c)) (.ref (cl b)) = some (sub c b) := fun c hc b hb => by
  unfold relsB at h
  rw [List.all_eq_true] at h
  have h1 := h c hc
  rw [List.all_eq_true] at h1
  have h2 := h1 b hb
  rw [Bool.and_eq_true, decide_eq_true_eq, decide_eq_true_eq] at h2
  exact h2
/-! ### an __init__ with super() -/
/-- where it stands: the class's name; what it is -/
structure DefS where
  cls : PySem.Str
  name : PySem.Str
  qual : PySem.Str
  params : Arguments
  body : List Stmt
  scope : Scope
abbrev FnS : Type := Option (PySem.Str × PySem.Str × Arguments × FuncBody × Scope × Addr × List PySem.Str × Addr)
def fnS (K : PySem.W.Frag) (x : PySem.Str) : FnS := match K.lookup (He.ma K (He.ga K x) "__init__") with
  | some ⟨_, _, .func fd, _⟩ => some (fd.name, fd.qualname, fd.params, fd.body, fd.scope, fd.globals, fd.closure.map (·.1), fd.builtins)
  | _ => none
def DefS.val (d : DefS) : FnS := some (d.name, d.qual, d.params, .stmts d.body, d.scope, mainGlobals, ["__class__"], builtinsNs)
/-- its code object, its cell, the class -/
def DefS.ok (file : PySem.Str) (K : PySem.W.Frag) (d : DefS) : Bool := match K.lookup (He.ma K (He.ga K d.cls) "__init__") with
  | some ⟨_, _, .func fd, _⟩ => (match fd.code, fd.closure, fd.defaults with
    | .ref c, [(_, cc)], .none => PySem.W.codeIn K (.ref c) d.qual && ((match K.lookup c with
      | some ⟨_, _, .fields vs, _⟩ => (match (vs[2]? : Option Value) with
        | some (.str z _) => file == z
        | _ => false)
      | _ => false) && (match K.lookup cc with
        | some ⟨_, _, .cell (some (.ref C)), _⟩ => C == He.ga K d.cls
        | _ => false))
    | _, _, _ => false) && (sB (PySem.W.nsIn K cStatics "thirdparty.any") (some none) && (sB (PySem.W.ks_superIn K (He.ga K d.cls) (He.ga K d.cls) "__init__") (some (some (.builtin "ValueError.__init__"))) && (decide (PySem.W.subIn K (.ref (He.ga K d.cls)) (.type "ValueError") = some true) &&
      (decide (PySem.W.mroIn K (He.ga K d.cls) (.ref (He.ga K d.cls)) = some true) && (errB K (He.ga K d.cls) && (sB (PySem.W.findIn K (.ref (He.ga K d.cls)) "__init__") (some (some (.ref (He.ma K (He.ga K d.cls) "__init__")))) && decide (PySem.W.typeIn K (.ref (He.ma K (He.ga K d.cls) "__init__")) = some (.type "function"))))))))
  | _ => false
structure SupD (P : Program) (K : PySem.W.Frag) (mg : PySem.Str → Option Value) (d : DefS) : Prop where
  ex : ∃ (F : NdefX.NF) (fd : FuncData) (cc : Addr), SupF P K mg (He.ma K (He.ga K d.cls) "__init__") (He.ga K d.cls) cc F fd ∧ F.params = d.params ∧ F.body = d.body ∧ F.scope = d.scope ∧ F.name = d.name ∧ fd.defaults = .none
  fi : PySem.W.findIn K (.ref (He.ga K d.cls)) "__init__" = some (some (.ref (He.ma K (He.ga K d.cls) "__init__")))
  ti : PySem.W.typeIn K (.ref (He.ma K (He.ga K d.cls) "__init__")) = some (.type "function")
theorem DefS.sup {P : Program} {K : PySem.W.Frag} {mg : PySem.Str → Option Value} {d : DefS} (e : fnS K d.cls = d.val) (c : d.ok P.main.file K = true) (hm : mg "super" = none) (ht : (P.main.scope.names.lookup ("super" : PySem.Str)).isSome = false) : SupD P K mg d := by
  unfold fnS at e
  unfold DefS.ok at c
  split at c
  · rename_i oc od fd osl lk
    rw [lk] at e
    simp only [Bool.and_eq_true, decide_eq_true_eq, sB] at c
    obtain ⟨c1, h1, h2, h3, h4, h5, h6, h7⟩ := c
    split at c1
    · rename_i cda nmc cc hcode hclo hdef
      simp only [Bool.and_eq_true] at c1
      obtain ⟨k1, k2, k3⟩ := c1
      obtain ⟨n1, n2, n3, n4, n5, n6, n7, n8, n9, n10, n11, n12, n13, n14, n15⟩ := fd
      dsimp only at hcode hclo hdef
      subst hcode hclo hdef
      have e2 : (some (n1, n2, n3, n4, n5, n6, [nmc], n15) : FnS) = some (d.name, d.qual, d.params, FuncBody.stmts d.body, d.scope, mainGlobals, [("__class__" : PySem.Str)], builtinsNs) := e
      simp only [Option.some.injEq, Prod.mk.injEq, List.cons.injEq, and_true] at e2
      obtain ⟨e3, e4, e5, e6, e7, e8, e9, e10⟩ := e2
      subst e3 e4 e5 e6 e7 e8 e9 e10
      refine ⟨⟨⟨d.name, d.qual, d.params, d.body, d.scope, [("__class__", cc)], cda⟩, _, cc, ⟨rfl, ⟨oc, od, .none, n9, n10, n11, n14, n12, osl, rfl, lk⟩, k1, ?_, ?_, h1, h2, h3, h4, hm, ht, errB_ok h5⟩, rfl, rfl, rfl, rfl, rfl⟩, h6, h7⟩
      · split at k2
        · rename_i a b vs c hl
          split at k2
          · rename_i z tk hz
            exact ⟨a, b, vs, c, z, tk, hl, hz, k2⟩
          · cases k2
        · cases k2
      · split at k3
        · rename_i a b C c hl
          have e1 : C = He.ga K d.cls := eq_of_beq k3
          subst e1
          exact ⟨a, b, c, hl⟩
        · cases k3
    · cases c1
  · cases c
/-! ### properties, instances that are called -/
def gA (K : PySem.W.Frag) (C f : PySem.Str) : Addr := match PySem.W.recIn K (He.ma K (He.ga K C) f) "property" with
  | some (.ref g :: _) => g
  | _ => 0
def gS (K : PySem.W.Frag) (C f : PySem.Str) : Addr := match PySem.W.recIn K (He.ma K (He.ga K C) f) "property" with
  | some (_ :: .ref g :: _) => g
  | _ => 0
/-- a property's getter; its setter (set) -/
structure DefG where
  cls : PySem.Str
  prop : PySem.Str
  name : PySem.Str
  qual : PySem.Str
  params : Arguments
  body : List Stmt
  scope : Scope
  set : Bool
def DefG.ad (K : PySem.W.Frag) (d : DefG) : Addr := if d.set then gS K d.cls d.prop else gA K d.cls d.prop
def fnG (K : PySem.W.Frag) (d : DefG) : He.FnW := match K.lookup (d.ad K) with
  | some ⟨_, _, .func fd, _⟩ => some (fd.name, fd.qualname, fd.params, fd.body, fd.scope, fd.globals, fd.closure, fd.builtins)
  | _ => none
def DefG.val (d : DefG) : He.FnW := some (d.name, d.qual, d.params, .stmts d.body, d.scope, mainGlobals, [], builtinsNs)
structure SetOf (K : PySem.W.Frag) (C : Addr) (f : PySem.Str) (p g : Addr) : Prop where
  tk : PySem.W.takerIn K C f = some (some (.ref p))
  ty : PySem.W.typeIn K (.ref p) = some (.type "property")
  rec_ : ∃ a rest, PySem.W.recIn K p "property" = some (a :: .ref g :: rest)
def DefG.okF (K : PySem.W.Frag) (d : DefG) : Bool := PySem.W.keepIn K (.ref (d.ad K)) && (match K.lookup (d.ad K) with
  | some ⟨_, _, .func fd, _⟩ => PySem.W.codeIn K fd.code d.qual && (match fd.defaults with
    | .none => true
    | _ => false)
  | _ => false)
def DefG.okG (K : PySem.W.Frag) (d : DefG) : Bool := sB (PySem.W.findIn K (.ref (He.ga K d.cls)) d.prop) (some (some (.ref (He.ma K (He.ga K d.cls) d.prop)))) && (sB (PySem.W.specialIn K (.ref (He.ma K (He.ga K d.cls) d.prop)) "__get__") (some (some (.builtin "property.__get__"))) &&
    (decide (PySem.W.takesIn K (.ref (He.ma K (He.ga K d.cls) d.prop)) = some true) && (match PySem.W.recIn K (He.ma K (He.ga K d.cls) d.prop) "property" with
      | some (.ref _ :: _) => true
      | _ => false)))
def DefG.okS (K : PySem.W.Frag) (d : DefG) : Bool := decide (PySem.W.takerIn K (He.ga K d.cls) d.prop = some (some (.ref (He.ma K (He.ga K d.cls) d.prop)))) && (decide (PySem.W.typeIn K (.ref (He.ma K (He.ga K d.cls) d.prop)) = some (.type "property")) && (match PySem.W.recIn K (He.ma K (He.ga K d.cls) d.prop) "property" with
      | some (_ :: .ref _ :: _) => true
      | _ => false))
def DefG.ok (K : PySem.W.Frag) (d : DefG) : Bool := d.okF K && (if d.set then d.okS K else d.okG K)
theorem DefG.fn {K : PySem.W.Frag} {d : DefG} (e : fnG K d = d.val) (c : d.okF K = true) : ∃ fd, FunD K d.name d.qual d.params d.body d.scope [] [] (d.ad K) fd := by
  unfold DefG.okF at c
  rw [Bool.and_eq_true] at c
  obtain ⟨kp, c2⟩ := c
  unfold fnG at e
  split at c2
  · rename_i oc od fd osl lk
    rw [lk] at e
    obtain ⟨n1, n2, n3, n4, n5, n6, n7, n8, n9, n10, n11, n12, n13, n14, n15⟩ := fd
    have e2 : (some (n1, n2, n3, n4, n5, n6, n7, n15) : He.FnW) = some (d.name, d.qual, d.params, FuncBody.stmts d.body, d.scope, mainGlobals, [], builtinsNs) := e
    simp only [Option.some.injEq, Prod.mk.injEq] at e2
    obtain ⟨g1, g2, g3, g4, g5, g6, g7, g8⟩ := e2
    subst g1 g2 g3 g4 g5 g6 g7 g8
    simp only [Bool.and_eq_true] at c2
    obtain ⟨k1, k2⟩ := c2
    split at k2
    · exact ⟨_, ⟨oc, od, .none, n9, n10, n11, n12, n13, n14, osl, rfl, lk, k1, .inl ⟨rfl, rfl⟩, .inl rfl⟩, kp⟩
    · cases k2
  · cases c2
theorem DefG.fact {K : PySem.W.Frag} {d : DefG} (e : fnG K d = d.val) (c : d.ok K = true) (hs : d.set = false := by rfl) : (∃ fd, FunD K d.name d.qual d.params d.body d.scope [] [] (gA K d.cls d.prop) fd) ∧ PropOf K (He.ga K d.cls) d.prop (He.ma K (He.ga K d.cls) d.prop) (gA K d.cls d.prop) := by
  unfold DefG.ok at c
  rw [Bool.and_eq_true, hs] at c
  obtain ⟨c1, c2⟩ := c
  have f := DefG.fn e c1
  have ea : d.ad K = gA K d.cls d.prop := by
    unfold DefG.ad
    rw [hs]
    rfl
  rw [ea] at f
  refine ⟨f, ?_⟩
  have c3 : d.okG K = true := c2
  unfold DefG.okG at c3
  simp only [Bool.and_eq_true, decide_eq_true_eq, sB] at c3
  obtain ⟨h1, h2, h3, h4⟩ := c3
  refine ⟨h1, h2, h3, ?_⟩
  split at h4
  · rename_i g rest hr
    refine ⟨rest, ?_⟩
    rw [hr]
    unfold gA
    rw [hr]
  · cases h4
theorem DefG.factS {K : PySem.W.Frag} {d : DefG} (e : fnG K d = d.val) (c : d.ok K = true) (hs : d.set = true := by rfl) : (∃ fd, FunD K d.name d.qual d.params d.body d.scope [] [] (gS K d.cls d.prop) fd) ∧ SetOf K (He.ga K d.cls) d.prop (He.ma K (He.ga K d.cls) d.prop) (gS K d.cls d.prop) := by
  unfold DefG.ok at c
  rw [Bool.and_eq_true, hs] at c
  obtain ⟨c1, c2⟩ := c
  have f := DefG.fn e c1
  have ea : d.ad K = gS K d.cls d.prop := by
    unfold DefG.ad
    rw [hs]
    rfl
  rw [ea] at f
  refine ⟨f, ?_⟩
  have c3 : d.okS K = true := c2
  unfold DefG.okS at c3
  simp only [Bool.and_eq_true, decide_eq_true_eq] at c3
  obtain ⟨h1, h2, h4⟩ := c3
  refine ⟨h1, h2, ?_⟩
  split at h4
  · rename_i a g rest hr
    refine ⟨a, rest, ?_⟩
    rw [hr]
    unfold gS
    rw [hr]
  · cases h4
def callB (K : PySem.W.Frag) (C : PySem.Str) : Bool := sB (PySem.W.findIn K (.ref (He.ga K C)) "__call__") (some (some (.ref (He.ma K (He.ga K C) "__call__")))) && (PySem.W.isFn K (.ref (He.ma K (He.ga K C) "__call__")) && PySem.W.fnIn K (He.ma K (He.ga K C) "__call__"))
theorem callB_ok {K : PySem.W.Frag} {C : PySem.Str} (h : callB K C = true) : StX.CallO K (He.ga K C) (He.ma K (He.ga K C) "__call__") := by
  unfold callB at h
  simp only [Bool.and_eq_true, decide_eq_true_eq, sB] at h
  exact ⟨h.1, h.2.1, h.2.2⟩
/-! ### constants of classes -/
def dvD : He.Dv → Option D
  | .non => some .non
  | .bl b => some (.bl b)
  | .int i => some (.int i)
  | _ => none
def conB (K : PySem.W.Frag) (C : Addr) (f : PySem.Str) (i : Int) : Bool := PySem.W.readsIn K C (.type "type") && (sB (PySem.W.specialIn K (.ref C) "__getattribute__") (some (some (.builtin "type.__getattribute__"))) && (match PySem.W.findCls K (.ref C) (.type "type") f with
  | some (.val (.int j _)) => decide (j = i)
  | _ => false))
theorem conB_ok {G : Cfg} {K : PySem.W.Frag} {c : Nat} {f : PySem.Str} {i : Int} (h : conB K (G.cl c) f i = true) : ConD G K c f (.int i) := by
  unfold conB at h
  simp only [Bool.and_eq_true, decide_eq_true_eq, sB] at h
  obtain ⟨h1, h2, h3⟩ := h
  split at h3
  · rename_i j t e
    have e2 : j = i := of_decide_eq_true h3
    subst e2
    exact ⟨.type "type", .int j, .int j t, ⟨h1, h2⟩, ⟨e, ⟨t, rfl⟩⟩, fun B => rfl⟩
  · cases h3
/-! ### the Hook -/
def asS (g : Addr → Option Obj) (n : Nat) : List Addr := He.asD g n ++ [cStatics]
abbrev AlS : Type := (He.AlD × (List FnS × List He.FnW)) × Bool
def obsS (fa : List He.Fa) (fn : List He.DefD) (fs : List DefS) (fg : List DefG) (ex : PySem.W.Frag → Bool) (K : PySem.W.Frag) : AlS := ((He.obsD fa fn K, (fs.map fun d => fnS K d.cls, fg.map fun d => fnG K d)), ex K)
def valS (fn : List He.DefD) (fs : List DefS) (fg : List DefG) : AlS := ((He.valD fn, (fs.map DefS.val, fg.map DefG.val)), true)
def obsSG (n : Nat) (fa : List He.Fa) (fn : List He.DefD) (fs : List DefS) (fg : List DefG) (ex : PySem.W.Frag → Bool) (g : Addr → Option Obj) : AlS := obsS fa fn fs fg ex (He.frG g (asS g n))
structure SaysS (fa : List He.Fa) (fn : List He.DefD) (fs : List DefS) (fg : List DefG) (ex : PySem.W.Frag → Bool) (K : PySem.W.Frag) : Prop where
  eq : obsS fa fn fs fg ex K = valS fn fs fg
def hookS (n : Nat) (fa : List He.Fa) (fn : List He.DefD) (fs : List DefS) (fg : List DefG) (ex : PySem.W.Frag → Bool) : PySem.W.Hook where
  α := AlS
  obs := fun s => obsSG n fa fn fs fg ex s.heap.get?
  val := fun _ => valS fn fs fg
  says := fun _ h => ∃ K : PySem.W.Frag, K.In h ∧ SaysS fa fn fs fg ex K
  of := fun _ _ e => ⟨_, He.frG_in, ⟨e⟩⟩
  keeps := fun _ _ _ ⟨K, hK, c⟩ k => ⟨K, PySem.W.Frag.In.keeps hK k, c⟩
theorem obsSG_eq {n : Nat} {fa : List He.Fa} {fn : List He.DefD} {fs : List DefS} {fg : List DefG} {ex : PySem.W.Frag → Bool} {g : Addr → Option Obj} {s : Shared} (h : ∀ a, g a = s.heap.get? a) : obsSG n fa fn fs fg ex g = (hookS n fa fn fs fg ex).obs s := by
  have e : g = s.heap.get? := funext h
  rw [e]
  rfl
section
variable {fa : List He.Fa} {fn : List He.DefD} {fs : List DefS} {fg : List DefG} {ex : PySem.W.Frag → Bool} {K : PySem.W.Frag}
theorem SaysS.d (c : SaysS fa fn fs fg ex K) : He.SaysD fa fn K := congrArg (fun z : AlS => z.1.1) c.eq
theorem SaysS.more (c : SaysS fa fn fs fg ex K) : ex K = true := congrArg (fun z : AlS => z.2) c.eq
theorem SaysS.sup (c : SaysS fa fn fs fg ex K) (i : Nat) {d : DefS} (h : fs[i]? = some d := by rfl) : fnS K d.cls = d.val := by
  have e : fs.map (fun d => fnS K d.cls) = fs.map DefS.val := congrArg (fun z : AlS => z.1.2.1) c.eq
  have e2 : (fs.map fun d => fnS K d.cls)[i]? = (fs.map DefS.val)[i]? := by rw [e]
  rw [List.getElem?_map, List.getElem?_map, h] at e2
  exact Option.some.inj e2
theorem SaysS.get (c : SaysS fa fn fs fg ex K) (i : Nat) {d : DefG} (h : fg[i]? = some d := by rfl) : fnG K d = d.val := by
  have e : fg.map (fun d => fnG K d) = fg.map DefG.val := congrArg (fun z : AlS => z.1.2.2) c.eq
  have e2 : (fg.map fun d => fnG K d)[i]? = (fg.map DefG.val)[i]? := by rw [e]
  rw [List.getElem?_map, List.getElem?_map, h] at e2
  exact Option.some.inj e2
end
/-! ### errors' __init__ -/
section
variable {G : Cfg} {P : Program} {w : World} {K : PySem.W.Frag} {mg : PySem.Str → Option Value} {base : Heap} {d : DefS} {c : Nat}
theorem err1_mk {f self x : PySem.Str} {e0 : Expr} {m0 : DE} {p0 p1 p2 p3 p4 ps1 ps2 px pp : Pos} {ar : Arg} {k : Nat} (Z : SupD P K mg d) (hcl : G.cl c = He.ga K d.cls) (hmg : mg d.cls = some (.ref (He.ga K d.cls))) (hnm : G.nm c = [f]) (hno : PySem.W.findIn K (.ref (He.ga K d.cls)) f = some none)
    (S : NdefX.NScope [self, x, "__class__"] [self, x] ["__class__"] d.scope) (hks : d.scope.names.lookup ("super" : PySem.Str) = some .globalImplicit) (hp : (d.params.posonlyargs ++ d.params.args).head? = some ar) (har : ar.arg = self)
    (hbody : d.body = [.Expr (.Call (.Attribute (.Call (.Name "super" p0) [] [] p1) "__init__" p2) [e0] [] p3) p4, .Assign [.Attribute (.Name self ps1) f ps2] (.Name x px) pp])
    (hb : ∀ (name qual : PySem.Str) (cl : List (PySem.Str × Addr)) (kV doc pm : Value) (an : Option Addr) (cdv ct : Value) (us : List Value), us.length = 2 → bindArgs (PySem.W.fnX name qual d.params d.body d.scope cl .none kV doc pm an cdv ct) ⟨us, []⟩ = pure ([self, x].zip us))
    (hX : ∀ X : Cx, X.N = [self, x, "__class__"] → X.env.scope = d.scope → X.prog = P → X.K = K → X.mg = mg → X.calm = true → QE G X Ph.yes NoW e0 m0 ∧ interactive X.env = false ∧ swapsWith (.Call (.Attribute (.Call (.Name "super" p0) [] [] p1) "__init__" p2) [e0] [] p3) none p4.line X.env = pure false ∧
      swapsWith (.Name x px) (some (.Attribute (.Name self ps1) f ps2)) pp.line X.env = pure false ∧
      (∃ pl : Sem Bool, eval (.Call (.Attribute (.Call (.Name "super" p0) [] [] p1) "__init__" p2) [e0] [] p3) X.env = (do
      let ov ← attributeBase (.Call (.Name "super" p0) [] [] p1) "__init__" X.env (eval (.Call (.Name "super" p0) [] [] p1) X.env)
      standAt p2.atName
      let (f, first) ← holding [ov] (getMethod ov "__init__" pl)
      callWith p3 f first (backTo p3 (starEach [e0] X.env)) [])) ∧ starEach [e0] X.env = (false, eval e0 X.env) :: starEach [] X.env)
    (hn1 : (self == ("__debug__" : PySem.Str)) = false := by decide) (hn2 : (self == ("__classdict__" : PySem.Str)) = false := by decide) (hn3 : (x == ("__debug__" : PySem.Str)) = false := by decide) (hn4 : (x == ("__classdict__" : PySem.Str)) = false := by decide) :
    Err1 G P w K mg base (k + 1) d.cls c m0 := by
  obtain ⟨F, fd, cc, SF, e1, e2, e3, e4, e5⟩ := Z.ex
  have T := SF.T
  rw [← hcl] at T hmg
  refine ⟨⟨f, He.ma K (He.ga K d.cls) "__init__", fd, [self, x], [self, x, "__class__"], ?_, ?_, rfl, rfl, hnm, by rw [hcl]; exact hno, by rw [hcl]; exact Z.fi, Z.ti⟩, T, hmg⟩
  · rw [hcl]
    refine sup_ok (F := F) (ar := ar) (cc := cc) SF (by rw [e3]; exact S) (by rw [e3]; exact hks) (by rw [e1]; exact hp) (by rw [har]; rfl) (by rw [e2]; exact hbody) fun X hX' => ?_
    obtain ⟨A, outer, s0, H0, E, hXX⟩ := hX'
    have hsc : X.env.scope = d.scope := by rw [hXX]; exact e3
    obtain ⟨q1, q2, q3, q4, q5, q6⟩ := hX X (by rw [hXX]; rfl) hsc (by rw [hXX]; rfl) (by rw [hXX]; rfl) (by rw [hXX]; rfl) (by rw [hXX]; rfl)
    have v0 : Vis X.env.scope self := by
      rw [hsc]
      exact .inl (S.par self (by simp))
    have v1 : Vis X.env.scope x := by
      rw [hsc]
      exact .inl (S.par x (by simp))
    have hK : X.K = K := by rw [hXX]; rfl
    have hN0 : X.N[0]? = some self := by rw [hXX]; rfl
    have hN1 : X.N[1]? = some x := by rw [hXX]; rfl
    refine ⟨pa_cons q1.can pa_nil q6, ?_, q2, q3, q5, q6⟩
    rw [← hK]
    exact pss_one (ps_ost (pe_var hN0 v0 hn1 hn2) (pe_var hN1 v1 hn3 hn4) q4)
  · obtain ⟨oc, od, dV, kV, doc, pm, ct, an, osl, hfd, lk⟩ := SF.at_
    subst hfd
    have e6 : dV = .none := e5
    subst e6
    rw [e1, e2, e3]
    exact .all fun us hl => hb _ _ _ kV doc pm an _ ct us hl
theorem err2_mk {f g self x z : PySem.Str} {e0 : Expr} {m0 : DE} {p0 p1 p2 p3 p4 ps1 ps2 px pp qs1 qs2 qx qp : Pos} {ar : Arg} {k : Nat} (Z : SupD P K mg d) (hcl : G.cl c = He.ga K d.cls) (hmg : mg d.cls = some (.ref (He.ga K d.cls))) (hnm : G.nm c = [g, f]) (hno : PySem.W.findIn K (.ref (He.ga K d.cls)) f = some none) (hno2 : PySem.W.findIn K (.ref (He.ga K d.cls)) g = some none)
    (S : NdefX.NScope [self, x, z, "__class__"] [self, x, z] ["__class__"] d.scope) (hks : d.scope.names.lookup ("super" : PySem.Str) = some .globalImplicit) (hp : (d.params.posonlyargs ++ d.params.args).head? = some ar) (har : ar.arg = self)
    (hbody : d.body = [.Expr (.Call (.Attribute (.Call (.Name "super" p0) [] [] p1) "__init__" p2) [e0] [] p3) p4, .Assign [.Attribute (.Name self ps1) f ps2] (.Name x px) pp, .Assign [.Attribute (.Name self qs1) g qs2] (.Name z qx) qp])
    (hb : ∀ (name qual : PySem.Str) (cl : List (PySem.Str × Addr)) (kV doc pm : Value) (an : Option Addr) (cdv ct : Value) (us : List Value), us.length = 3 → bindArgs (PySem.W.fnX name qual d.params d.body d.scope cl .none kV doc pm an cdv ct) ⟨us, []⟩ = pure ([self, x, z].zip us))
    (hX : ∀ X : Cx, X.N = [self, x, z, "__class__"] → X.env.scope = d.scope → X.prog = P → X.K = K → X.mg = mg → X.calm = true → QE G X Ph.yes NoW e0 m0 ∧ interactive X.env = false ∧ swapsWith (.Call (.Attribute (.Call (.Name "super" p0) [] [] p1) "__init__" p2) [e0] [] p3) none p4.line X.env = pure false ∧
      swapsWith (.Name x px) (some (.Attribute (.Name self ps1) f ps2)) pp.line X.env = pure false ∧ swapsWith (.Name z qx) (some (.Attribute (.Name self qs1) g qs2)) qp.line X.env = pure false ∧
      (∃ pl : Sem Bool, eval (.Call (.Attribute (.Call (.Name "super" p0) [] [] p1) "__init__" p2) [e0] [] p3) X.env = (do
      let ov ← attributeBase (.Call (.Name "super" p0) [] [] p1) "__init__" X.env (eval (.Call (.Name "super" p0) [] [] p1) X.env)
      standAt p2.atName
      let (f, first) ← holding [ov] (getMethod ov "__init__" pl)
      callWith p3 f first (backTo p3 (starEach [e0] X.env)) [])) ∧ starEach [e0] X.env = (false, eval e0 X.env) :: starEach [] X.env)
    (hn1 : (self == ("__debug__" : PySem.Str)) = false := by decide) (hn2 : (self == ("__classdict__" : PySem.Str)) = false := by decide) (hn3 : (x == ("__debug__" : PySem.Str)) = false := by decide) (hn4 : (x == ("__classdict__" : PySem.Str)) = false := by decide) (hn5 : (z == ("__debug__" : PySem.Str)) = false := by decide) (hn6 : (z == ("__classdict__" : PySem.Str)) = false := by decide) :
    Err2 G P w K mg base (k + 1) d.cls c m0 := by
  obtain ⟨F, fd, cc, SF, e1, e2, e3, e4, e5⟩ := Z.ex
  have T := SF.T
  rw [← hcl] at T hmg
  refine ⟨⟨f, g, He.ma K (He.ga K d.cls) "__init__", fd, [self, x, z], [self, x, z, "__class__"], ?_, ?_, rfl, rfl, hnm, by rw [hcl]; exact hno, by rw [hcl]; exact hno2, by rw [hcl]; exact Z.fi, Z.ti⟩, T, hmg⟩
  · rw [hcl]
    refine sup_ok (F := F) (ar := ar) (cc := cc) SF (by rw [e3]; exact S) (by rw [e3]; exact hks) (by rw [e1]; exact hp) (by rw [har]; rfl) (by rw [e2]; exact hbody) fun X hX' => ?_
    obtain ⟨A, outer, s0, H0, E, hXX⟩ := hX'
    have hsc : X.env.scope = d.scope := by rw [hXX]; exact e3
    obtain ⟨q1, q2, q3, q4, q42, q5, q6⟩ := hX X (by rw [hXX]; rfl) hsc (by rw [hXX]; rfl) (by rw [hXX]; rfl) (by rw [hXX]; rfl) (by rw [hXX]; rfl)
    have v0 : Vis X.env.scope self := by
      rw [hsc]
      exact .inl (S.par self (by simp))
    have v1 : Vis X.env.scope x := by
      rw [hsc]
      exact .inl (S.par x (by simp))
    have v2 : Vis X.env.scope z := by
      rw [hsc]
      exact .inl (S.par z (by simp))
    have hK : X.K = K := by rw [hXX]; rfl
    have hN0 : X.N[0]? = some self := by rw [hXX]; rfl
    have hN1 : X.N[1]? = some x := by rw [hXX]; rfl
    have hN2 : X.N[2]? = some z := by rw [hXX]; rfl
    refine ⟨pa_cons q1.can pa_nil q6, ?_, q2, q3, q5, q6⟩
    rw [← hK]
    exact pss_cons (ps_ost (pe_var hN0 v0 hn1 hn2) (pe_var hN1 v1 hn3 hn4) q4) (pss_one (ps_ost (pe_var hN0 v0 hn1 hn2) (pe_var hN2 v2 hn5 hn6) q42))
  · obtain ⟨oc, od, dV, kV, doc, pm, ct, an, osl, hfd, lk⟩ := SF.at_
    subst hfd
    have e6 : dV = .none := e5
    subst e6
    rw [e1, e2, e3]
    exact .all fun us hl => hb _ _ _ kV doc pm an _ ct us hl
end
end Dl

set_option Elab.async false
set_option linter.all false
set_option maxRecDepth 100000
/-! Sn: in, divmod, properties, instances that are called. -/
namespace Dl
open PySem PySem.Spec PyProof.Rows L2

theorem CO.u65 {X : Cx} {W : WX} {k : Nat} (c : CO X W k) : X.A.units + 65 < cLine := by
  have := c.room.un
  omega
theorem pds_map : ∀ xs : List D, pds xs = xs.map pd
  | [] => rfl
  | x :: r => by rw [List.map_cons, ← pds_map r]; rfl
theorem any_pd : ∀ {m : Nat} {d : D} {xs : List D}, plain 8 d = true → plains m xs = true → ((xs.map pd).any fun z => PyData.eqv z (pd d)) = xs.any fun z => deq z d
  | _, _, [], _, _ => rfl
  | m, d, x :: xs, h, hs => by
    have h2 : (plain m x && plains m xs) = true := hs
    rw [Bool.and_eq_true] at h2
    rw [List.map_cons, List.any_cons, List.any_cons, any_pd h h2.2, eqv_pd m 8 x d h2.1 h]
section
variable {G : Cfg} {X : Cx} {Φ : Ph} {W : WX}
theorem in_go {f : Value → Value → Sem Value} {r1 : R2} {neg : Bool} (h1 : OpR X f r1)
    (h2 : ∀ (pins : List (Addr × Obj)) (s : Shared) (σ : L2.St) (H : Hp) (y : V) (u : Value) (a : Addr) (o : Option V) (Q : VK), Inv X pins σ H s → RelV y u → DGet H a y o → Q (.bl (o.isSome != neg)) H → wpAny (model X.prog X.w) X.A (f u (.ref a)) (EP X pins σ Q) X.xe s)
    (k1 : ∀ x y H (Q : VK) d ds, Dp X.K H x d → Dp X.K H y (.list ds) → SeqAt.shaped d = true → SeqAt.shaped (.list ds) = true → Q (.bl ((ds.any fun z => PyData.eqv z d) != neg)) H → r1 x y H Q) : O2 G X f (inV neg) := by
  refine ⟨fun x y H Q => r1 x y H Q ∨ ∃ a o, y = .ref a ∧ DGet H a x o ∧ Q (.bl (o.isSome != neg)) H, fun pins s σ H x y v u Q I rx ry q => ?_, fun x y u w H B A L Q W C s1 s2 q => ?_⟩
  · rcases q with q | ⟨a, o, e, g, q⟩
    · exact h1 pins s σ H x y v u Q I rx ry q
    · subst e
      obtain rfl : u = Value.ref a := ry
      exact h2 pins s σ H x v a o Q I rx g q
  · have lst : ∀ {xs : List D}, Dp X.K H w (pd (.lst xs)) ∨ True → (plain 8 (.lst xs) = true → Dp X.K H w (pd (.lst xs))) → RPV G (inL neg x xs L) B A H Q W → r1 u w H Q := fun {xs} _ hw q => by
      unfold inL at q
      cases e : asD L x with
      | none =>
        rw [e] at q
        exact q.elim
      | some d =>
        rw [e] at q
        dsimp only at q
        by_cases hp : (plain 8 d && plain 8 (.lst xs)) = true
        · rw [if_pos hp] at q
          obtain ⟨p1, p2⟩ := Bool.and_eq_true_iff.mp hp
          have e1 : pd (.lst xs) = .list (xs.map pd) := by simp [pd, pds_map]
          have z1 := hw p2
          have z2 := shaped_pd p2
          rw [e1] at z1 z2
          refine k1 u w H Q _ _ (asD_dp C s1 e p1) z1 (shaped_pd p1) z2 ?_
          have p3 : plains 7 xs = true := p2
          rw [any_pd p1 p3]
          exact q B A H _ Ext.refl C rfl
        · rw [if_neg hp] at q
          exact q.elim
    cases y with
    | d y =>
      cases y with
      | lst xs => exact .inl (lst (.inr trivial) (fun p => dp_of C.sub 8 (.lst xs) w p s2) q)
      | _ => exact q.elim
    | loc n =>
      have dict : ∀ {c : Cell}, L[n]? = some c → RPV G (inC neg x c L) B A H Q W → r1 u w H Q ∨ ∃ a o, w = .ref a ∧ DGet H a u o ∧ Q (.bl (o.isSome != neg)) H := fun {c} e0 q => by
        unfold inC at q
        cases x with
        | loc m => exact q.elim
        | d k =>
          dsimp only at q
          cases e1 : dget c k with
          | none =>
            rw [e1] at q
            exact q.elim
          | some r =>
            rw [e1] at q
            obtain ⟨a, ha, eu⟩ := s2
            obtain ⟨o, g1, g2⟩ := dget_at C e0 ha s1 e1
            refine .inr ⟨a, o, eu, g1, ?_⟩
            have e2 : o.isSome = r.isSome := by
              cases r with
              | none =>
                have g3 : o = none := g2
                rw [g3]
                rfl
              | some z =>
                obtain ⟨v, g3, _⟩ := g2
                rw [g3]
                rfl
            rw [e2]
            exact q B A H _ Ext.refl C rfl
      cases e0 : L[n]? with
      | none =>
        simp only [inV, e0] at q
        exact q.elim
      | some c =>
        cases c with
        | lst xs =>
          simp only [inV, e0] at q
          refine .inl (lst (.inr trivial) (fun p => ?_) q)
          exact asD_dp (x := .loc n) C s2 (by show (match L[n]? with | some (.lst xs) => some (D.lst xs) | _ => none) = _; rw [e0]) p
        | dK kvs => simp only [inV, e0] at q; exact dict e0 q
        | dT kvs => simp only [inV, e0] at q; exact dict e0 q
        | rcd ks vs => simp only [inV, e0] at q; exact dict e0 q
        | obj k vs => simp only [inV, e0] at q; exact dict e0 q
        | seq vs => simp only [inV, e0] at q; exact dict e0 q
        | fz c => simp only [inV, e0] at q; exact dict e0 q
        | dead => simp only [inV, e0] at q; exact dict e0 q
theorem o_in (hu : X.A.units + 65 < cLine) : O2 G X (compareOp .In) (inV false) := in_go (op_inD hu) (fun pins s σ H y u a o Q I r g q => d_in (by omega) I g r fun s' I' => ⟨.bl o.isSome, H, I', rfl, by rw [Bool.bne_false] at q; exact q⟩)
  fun x y H Q d ds h1 h2 h3 h4 q => ⟨d, ds, h1, h2, h3, h4, by rw [Bool.bne_false] at q; exact q⟩
theorem o_nin (hu : X.A.units + 65 < cLine) : O2 G X (compareOp .NotIn) (inV true) := in_go (op_notInD hu) (fun pins s σ H y u a o Q I r g q => d_notIn (by omega) I g r fun s' I' => ⟨.bl (!o.isSome), H, I', rfl, by rw [Bool.bne_true] at q; exact q⟩)
  fun x y H Q d ds h1 h2 h3 h4 q => ⟨d, ds, h1, h2, h3, h4, by rw [Bool.bne_true] at q; exact q⟩
theorem on_divmod : ON G X (.builtin "divmod") divmodV := on_2 call_divmod fun x y u w H B A L Q W C r1 r2 q => by
  cases x with
  | loc n => exact q.elim
  | d x =>
    cases x with
    | int i =>
      cases y with
      | loc n => exact q.elim
      | d y =>
        cases y with
        | int j =>
          obtain rfl : u = .int i := r1
          obtain rfl : w = .int j := r2
          have q1 : RPV G (if (decide (0 < j) && decide (j < 1073741824)) = true then .ok (.d (.tup [.int (i / j), .int (i % j)])) L else .bad) B A H Q W := q
          by_cases hc : (decide (0 < j) && decide (j < 1073741824)) = true
          · rw [if_pos hc] at q1
            obtain ⟨c1, c2⟩ := Bool.and_eq_true_iff.mp hc
            exact ⟨i, j, rfl, ⟨of_decide_eq_true c1, of_decide_eq_true c2⟩, tup_at C (xs := [.int (i / j), .int (i % j)]) ⟨_, _, rfl, rfl, _, _, rfl, rfl, rfl⟩ q1⟩
          · rw [if_neg hc] at q1
            exact q1.elim
        | _ => exact q.elim
    | _ => exact q.elim
/-! ### properties -/
structure PropD (G : Cfg) (P : Program) (w : World) (K : PySem.W.Frag) (mg : PySem.Str → Option Value) (base : Heap) (k : Nat) (c : Nat) (m : PySem.Str) (fn : Fn) : Prop where
  ex : ∃ (p g : Addr) (fd : FuncData) (ps : List PySem.Str), FnOk P w K mg base (L2.CX P w) k g fd ps (toSp G 1 fn) ∧ Cls K (G.cl c) ∧ PropOf K (G.cl c) m p g ∧ Binds K fd ps []
variable {k j n c : Nat} {m : PySem.Str} {fn : Fn} {dv : List D} {pos apos : Pos} {e o : Expr} {es : List Expr} {ma : DA} {mo : DE}
theorem qe_prop (ho : QE G X Φ W o mo) (cm : PropD G X.prog X.w X.K X.mg X.base k c m fn) (hr : Room j X.A) (hk : k + 1 ≤ j) (hab : attributeBase o m X.env (eval o X.env) = eval o X.env := by rfl) : QE G X Φ W (.Attribute o m pos) (propD c fn mo) := by
  obtain ⟨p, g, fd, ps, F, hc, hp, hb⟩ := cm.ex
  obtain ⟨to, po, ko⟩ := ho
  refine ⟨_, pe_prop (E := E0) po hc hp F (hr.mono hk) hb .nil passL hab, fun σ H B A ρ L Q S q => ko σ H B A ρ L _ S (RP.bind q fun x L1 B1 A1 H1 u x1 c1 r1 q1 => ?_)⟩
  by_cases hcl : clsOf L1 x = some c
  · rw [if_pos hcl] at q1
    obtain ⟨a, dx, vs, e1, e2⟩ := clsOf_at c1 r1 hcl
    subst e1
    refine ⟨a, dx, _, rfl, e2, callD_sp (args := [x]) (vs := [.ref a]) (dv := []) (dvs := []) c1 ⟨_, [], rfl, r1, rfl⟩ (fun _ => rfl) ?_⟩
    cases hcall : callD fn 1 [] [x] L1 with
    | ok v L2 =>
      rw [hcall] at q1
      exact q1
    | exc c xs L2 =>
      rw [hcall] at q1
      exact q1.elim
    | bad =>
      rw [hcall] at q1
      exact q1.elim
  · rw [if_neg hcl] at q1
    exact q1.elim
/-! ### instances that are called -/
def tCallOQ (X : Cx) (C : Addr) (sp : Sp) (E : L2.St → XK) (dvs : List V) (tf : TE) (t : TA) : TE := fun σ H Q => tf σ H fun y H1 => ∃ a, y = V.ref a ∧ t σ H1 fun vs H2 => StX.InsC X H2 a C ∧ sp (V.ref a :: (vs ++ dvs)) H2 Q (E σ)
theorem code_fn {g : Addr} {fd : FuncData} {ps : List PySem.Str} {sp : Sp} {dvs : List V} {ds : List Value} {E : XK} {pins : List (Addr × Obj)} {σ : L2.St} {H : Hp} {s : Shared} {Q : VK} {us : List Value} {vs : List V} (F : FnOk X.prog X.w X.K X.mg X.base (L2.CX X.prog X.w) k g fd ps sp) (hr : Room k X.A) (hb : Binds X.K fd ps ds) (hd : Vals dvs ds) (hx : PassesAt (L2.CX X.prog X.w) X σ E)
    (I : Inv X pins σ H s) (r : Vals vs us) (h : sp (vs ++ dvs) H Q E) : codeAny (model X.prog X.w) X.A (.call (.ref g) ⟨us, []⟩) (fun r s' => match r with
      | .ok (.ret v) => EP X pins σ Q v s'
      | .ok _ => False
      | .error e => X.xe e s') s := by
  have r2 := r.append hd
  have hl : (us ++ ds).length = ps.length := by rw [← r2.length]; exact F.len _ _ _ _ h
  refine codeAny_mono (F.run X.A X.stack s H ⟨us, []⟩ (us ++ ds) (vs ++ dvs) Q E hr I.env0 (hb s us I.kIn hl) r2 h) fun rr s' hq => ?_
  cases rr with
  | error er => exact hx pins H s er s' I hq
  | ok fl =>
    cases fl with
    | ret u => exact I.after hq
    | next => exact hq.elim
    | brk => exact hq.elim
    | cont => exact hq.elim
theorem pe_callOQ {C g : Addr} {fd : FuncData} {ps : List PySem.Str} {sp : Sp} {dvs : List V} {ds : List Value} {E : L2.St → XK} {fe : Expr} {tf : TE} {t : TA} (hf : PE X fe tf) (c : StX.CallO X.K C g) (F : FnOk X.prog X.w X.K X.mg X.base (L2.CX X.prog X.w) k g fd ps sp) (hr : Room k X.A) (hb : Binds X.K fd ps ds) (hd : Vals dvs ds) (hx : ∀ σ, PassesAt (L2.CX X.prog X.w) X σ (E σ)) (ha : PA X (e :: es) t)
    (ht : eval (.Call fe (e :: es) [] pos) X.env = (do callWith pos (← eval fe X.env) [] (backTo pos (starEach (e :: es) X.env)) (backToKw pos (keywordEach [] X.env))))
    (he : starEach (e :: es) X.env = (false, eval e X.env) :: starEach es X.env) (hpl : (backTo pos (starEach es X.env)).any (·.1) = false) : PE X (.Call fe (e :: es) [] pos) (tCallOQ X C sp E dvs tf t) :=
  ⟨fun pins s σ H Q I h => Call_ (thn (hf.run pins s σ H _ I h) fun u s1 ⟨y, H1, I1, ry, a, ey, q⟩ => by
    subst ey
    obtain rfl : u = Value.ref a := ry
    exact StX.callO_with (thn (ha.run pos pins s1 σ H1 _ I1 q) fun us s2 ⟨vs, H2, I2, r, hi, q2⟩ => by
      obtain ⟨ox, od, J, hp⟩ := StX.insC_at I2 hi
      exact ⟨⟨C, ox, od, J, hp⟩, wpAny_call (PySem.W.kco_code I2.kIn J hp c.at_ c.fn c.fi (code_fn (us := .ref a :: us) (vs := .ref a :: vs) F hr hb hd (hx σ) I2 (.cons rfl r) q2))⟩) he hpl) ht⟩
structure CalO (G : Cfg) (P : Program) (w : World) (K : PySem.W.Frag) (mg : PySem.Str → Option Value) (base : Heap) (k : Nat) (c : Nat) (fn : Fn) (n : Nat) (dv : List D) : Prop where
  ex : ∃ (g : Addr) (fd : FuncData) (ps : List PySem.Str) (ds : List Value) (dvs : List V), FnOk P w K mg base (L2.CX P w) k g fd ps (toSp G n fn) ∧ StX.CallO K (G.cl c) g ∧ Binds K fd ps ds ∧ Vals dvs ds ∧ DvOk G dv dvs
theorem qe_callO (ho : QE G X Φ W o mo) (cm : CalO G X.prog X.w X.K X.mg X.base k c fn n dv) (hr : Room j X.A) (hx : ∀ σ, PassesAt (L2.CX X.prog X.w) X σ (WE W σ)) (hk : k ≤ j) (ha : QA G X Φ W (e :: es) ma)
    (ht : eval (.Call o (e :: es) [] pos) X.env = (do callWith pos (← eval o X.env) [] (backTo pos (starEach (e :: es) X.env)) (backToKw pos (keywordEach [] X.env))) := by rfl)
    (he : starEach (e :: es) X.env = (false, eval e X.env) :: starEach es X.env := by rfl) (hpl : (backTo pos (starEach es X.env)).any (·.1) = false := by rfl) : QE G X Φ W (.Call o (e :: es) [] pos) (callO c fn n dv mo ma) := by
  obtain ⟨g, fd, ps, ds, dvs, F, hc, hb, hd, hv⟩ := cm.ex
  obtain ⟨to, po, ko⟩ := ho
  obtain ⟨t, pa, ka⟩ := ha
  refine ⟨_, pe_callOQ po hc F (hr.mono hk) hb hd hx pa ht he hpl, fun σ H B A ρ L Q S q => ko σ H B A ρ L _ S (RP.bind q fun x L1 B1 A1 H1 u x1 c1 r1 q1 => ?_)⟩
  by_cases hcl : clsOf L1 x = some c
  · rw [if_pos hcl] at q1
    obtain ⟨a, dx, vs, e1, e2⟩ := clsOf_at c1 r1 hcl
    refine ⟨a, e1, ka σ H1 B1 A1 ρ L1 _ (S.step x1 c1) (RP.bind q1 fun xs L2 B2 A2 H2 us x2 c2 r2 q2 => ?_)⟩
    have r1' := r1.mono x2.base x2.Pre
    by_cases hcl2 : clsOf L2 x = some c
    · rw [if_pos hcl2] at q2
      obtain ⟨a2, dx2, vs2, e3, e4⟩ := clsOf_at c2 r1' hcl2
      have e5 : a2 = a := by
        rw [e1] at e3
        cases e3
        rfl
      subst e5
      refine ⟨.inr ⟨dx2, _, e4⟩, ?_⟩
      rw [← e1]
      exact callD_sp (args := x :: xs) (vs := u :: us) c2 ⟨u, us, rfl, r1', r2⟩ hv q2
    · rw [if_neg hcl2] at q2
      exact q2.elim
  · rw [if_neg hcl] at q1
    exact q1.elim
end
end Dl

set_option Elab.async false
set_option linter.all false
set_option maxRecDepth 100000
/-! Sr: a loop over a dict. -/
namespace Dl
open PySem PySem.Spec PyProof.Rows L2

/-- objects that data is not made of -/
def NotD : HO → Prop
  | .frz _ (.dK _) => True
  | .frz _ (.dT _) => True
  | _ => False
section
variable {G : Cfg} {B : Hp} {a : Addr} {o : HO}
theorem del_of {b : Addr} {u : HO} (ha : B a = some o) (hn : NotD o) (hu : ¬ NotD u) (h : B b = some u) : (del B a) b = some u := by
  have hne : b ≠ a := fun z => by
    subst z
    rw [ha] at h
    cases h
    exact hu hn
  rw [del_ne hne]
  exact h
theorem sql_del {K : PySem.W.Frag} {b : Addr} {vs : List V} (ha : B a = some o) (hn : NotD o) (h : SqL K B b vs) : SqL K (del B a) b vs := by
  rcases h with h | h
  · refine .inl ?_
    rcases h with h | ⟨ob, h⟩
    · exact .inl (del_of ha hn (fun z => z) h)
    · exact .inr ⟨ob, del_of ha hn (fun z => z) h⟩
  · exact .inr h
theorem sqt_del {K : PySem.W.Frag} {b : Addr} {vs : List V} (ha : B a = some o) (hn : NotD o) (h : SqT K B b vs) : SqT K (del B a) b vs := by
  rcases h with h | h
  · refine .inl ?_
    rcases h with h | ⟨ob, h⟩
    · exact .inl (del_of ha hn (fun z => z) h)
    · exact .inr ⟨ob, del_of ha hn (fun z => z) h⟩
  · exact .inr h
mutual
theorem Rep.del (ha : B a = some o) (hn : NotD o) : ∀ (x : D) (v : V), Rep G B x v → Rep G (del B a) x v
  | .non, _, r => r
  | .bl _, _, r => r
  | .int _, _, r => r
  | .str _, _, r => r
  | .lst xs, _, ⟨b, vs, e, q, r⟩ => ⟨b, vs, e, del_of ha hn (fun z => z) q, Reps.del ha hn xs vs r⟩
  | .slst xs, _, ⟨b, vs, e, q, r⟩ => ⟨b, vs, e, sql_del ha hn q, Reps.del ha hn xs vs r⟩
  | .stup xs, _, ⟨b, vs, e, q, r⟩ => ⟨b, vs, e, sqt_del ha hn q, Reps.del ha hn xs vs r⟩
  | .tup xs, _, ⟨b, vs, e, q, r⟩ => ⟨b, vs, e, del_of ha hn (fun z => z) q, Reps.del ha hn xs vs r⟩
  | .obj c xs, _, ⟨b, dx, vs, e, q, l, r⟩ => ⟨b, dx, vs, e, del_of ha hn (fun z => z) q, l, Reps.del ha hn xs vs r⟩
  | .cls _, _, r => r
theorem Reps.del (ha : B a = some o) (hn : NotD o) : ∀ (xs : List D) (vs : List V), Reps G B xs vs → Reps G (del B a) xs vs
  | [], _, r => r
  | x :: r, _, ⟨v, ws, e, q, t⟩ => ⟨v, ws, e, Rep.del ha hn x v q, Reps.del ha hn r ws t⟩
end
variable {A : List Addr}
theorem RepR.del (ha : B a = some o) (hn : NotD o) : ∀ {x : Rv} {v : V}, RepR G B A x v → RepR G (L2.del B a) A x v
  | .d x, v, r => Rep.del ha hn x v r
  | .loc n, _, r => r
theorem RepRs.del (ha : B a = some o) (hn : NotD o) : ∀ {xs : List Rv} {vs : List V}, RepRs G B A xs vs → RepRs G (L2.del B a) A xs vs
  | [], _, r => r
  | _ :: _, _, ⟨v, ws, e, q, t⟩ => ⟨v, ws, e, q.del ha hn, RepRs.del ha hn t⟩
theorem KVs.del (ha : B a = some o) (hn : NotD o) : ∀ {xs : List (Key × D)} {vs : List (L2.Key × V)}, KVs G B xs vs → KVs G (L2.del B a) xs vs
  | [], _, r => r
  | _ :: _, _, ⟨v, ws, e, q, t⟩ => ⟨v, ws, e, Rep.del ha hn _ _ q, KVs.del ha hn t⟩
theorem KTs.del (ha : B a = some o) (hn : NotD o) : ∀ {xs : List (List Key × D)} {vs : List (List L2.Key × V)}, KTs G B xs vs → KTs G (L2.del B a) xs vs
  | [], _, r => r
  | _ :: _, _, ⟨v, ws, e, q, t⟩ => ⟨v, ws, e, Rep.del ha hn _ _ q, KTs.del ha hn t⟩
theorem CRep.del (ha : B a = some o) (hn : NotD o) : ∀ {c : Cell} {u : HO}, CRep G B A c u → CRep G (L2.del B a) A c u
  | .lst xs, _, ⟨vs, e, r⟩ => ⟨vs, e, Reps.del ha hn xs vs r⟩
  | .dK kvs, _, ⟨ws, e, r⟩ => ⟨ws, e, r.del ha hn⟩
  | .dT kvs, _, ⟨ws, e, r⟩ => ⟨ws, e, r.del ha hn⟩
  | .rcd ks xs, _, ⟨vs, e, l, r⟩ => ⟨vs, e, l, r.del ha hn⟩
  | .seq xs, _, ⟨vs, e, r⟩ => ⟨vs, e, r.del ha hn⟩
  | .obj c xs, _, ⟨dx, vs, e, l, r⟩ => ⟨dx, vs, e, l, r.del ha hn⟩
  | .fz c, _, ⟨od, u, e, r⟩ => ⟨od, u, e, CRep.del ha hn r⟩
  | .dead, _, _ => True.intro
theorem EnvR.del {ρ : Env} {σ : L2.St} (ha : B a = some o) (hn : NotD o) (e : EnvR G B A ρ σ) : EnvR G (L2.del B a) A ρ σ := ⟨e.1, fun i v q => by
  obtain ⟨u, h1, h2⟩ := e.2 i v q
  exact ⟨u, h1, h2.del ha hn⟩⟩
end
section
variable {G : Cfg} {B : Hp} {A : List Addr} {L : Led} {H : Hp} {n : Nat} {a : Addr} {c : Cell} {u : HO} {od : PySem.Obj}
theorem dict_live (h : c.dict = true) : c.live = true := by
  cases c <;> first | rfl | cases h
theorem dict_mut (h : c.dict = true) (r : CRep G B A c u) : Mut (some u) ∧ NotD (.frz od u) := by
  cases c with
  | dK kvs => obtain ⟨ws, rfl, _⟩ := r; exact ⟨trivial, trivial⟩
  | dT kvs => obtain ⟨ws, rfl, _⟩ := r; exact ⟨trivial, trivial⟩
  | rcd ks xs => obtain ⟨vs, rfl, _⟩ := r; exact ⟨trivial, trivial⟩
  | _ => cases h
theorem same_lock {o : HO} (hB : B a = none) : Same B (upd B a o) := fun b v z => by rw [upd_ne (ne_of_none z hB)]; exact z
theorem Ctx.lock (C : Ctx G B A L H) (ha : A[n]? = some a) (hc : L[n]? = some c) (hd : c.live = true) (hu : H a = some u) (r : CRep G B A c u) : Ctx G (upd B a (.frz od u)) A (L.set n (.fz c)) (upd H a (.frz od u)) := by
  have hB := C.off n a c ha hc hd
  have sm : Same B (upd B a (.frz od u)) := same_lock hB
  have hn : n < L.length := (List.getElem?_eq_some_iff.mp hc).1
  refine ⟨by rw [List.length_set]; exact C.len, fun b v e => ?_, C.nd, fun m b d hb hm => ?_, fun m b d hb hm hdd => ?_, fun m b d hb hm => ?_⟩
  · by_cases z : b = a
    · rw [z, upd_same] at e
      rw [z, upd_same]
      exact e
    · rw [upd_ne z] at e ⊢
      exact C.sub _ _ e
  · by_cases q : m = n
    · subst q
      rw [List.getElem?_set_self hn] at hm
      rw [ha] at hb
      cases hb
      cases hm
      exact ⟨_, upd_same, od, u, rfl, r.mono sm (Pre.refl A)⟩
    · rw [List.getElem?_set_ne (Ne.symm q)] at hm
      obtain ⟨v, e, r⟩ := C.at_ m b d hb hm
      refine ⟨v, ?_, r.mono sm (Pre.refl A)⟩
      rw [upd_ne fun (z : b = a) => q (nd_ix C.nd hb (by rw [z]; exact ha))]
      exact e
  · by_cases q : m = n
    · subst q
      rw [List.getElem?_set_self hn] at hm
      cases hm
      cases hdd
    · rw [List.getElem?_set_ne (Ne.symm q)] at hm
      rw [upd_ne fun (z : b = a) => q (nd_ix C.nd hb (by rw [z]; exact ha))]
      exact C.off m b d hb hm hdd
  · by_cases q : m = n
    · subst q
      rw [ha] at hb
      cases hb
      exact ⟨_, upd_same⟩
    · rw [List.getElem?_set_ne (Ne.symm q)] at hm
      obtain ⟨v, e⟩ := C.fz m b d hb hm
      exact ⟨v, by rw [upd_ne (ne_of_none e hB)]; exact e⟩
theorem Ext.lock (hB : B a = none) (hA : a ∈ A) (hu : H a = some u) : Ext B A H (upd B a (.frz od u)) A (upd H a (.frz od u)) :=
  ⟨same_lock hB, ⟨[], by simp, fun _ h => nomatch h⟩, fun b o e h => by
    rw [upd_ne fun (z : b = a) => h (by rw [z]; exact hA)]
    exact e, fun b o e => by
    by_cases z : b = a
    · rw [z]
      exact ⟨_, upd_same⟩
    · exact ⟨o, by rw [upd_ne z]; exact e⟩, fun b o e => by
    by_cases z : b = a
    · rw [z]
      exact .inr (.inr (.inl hA))
    · rw [upd_ne z] at e
      exact .inl e⟩
variable {B1 : Hp} {A1 : List Addr} {L1 : Led} {H1 : Hp} {c1 : Cell}
theorem Ext.unlock (hB : B a = none) (hA : a ∈ A) (hu : H a = some u) (x : Ext (upd B a (.frz od u)) A (upd H a (.frz od u)) B1 A1 H1) : Ext B A H (L2.del B1 a) A1 (upd H1 a u) := by
  have y := (Ext.lock (od := od) hB hA hu).trans x
  refine ⟨fun b o e => ?_, y.pre, fun b o e h => ?_, fun b o e => ?_, fun b o e => ?_⟩
  · rw [del_ne (ne_of_none e hB)]
    exact y.base _ _ e
  · rw [upd_ne fun (z : b = a) => h (by rw [z]; exact hA)]
    exact y.fr b o e h
  · by_cases z : b = a
    · rw [z]
      exact ⟨_, upd_same⟩
    · obtain ⟨o', e'⟩ := y.there b o e
      exact ⟨o', by rw [upd_ne z]; exact e'⟩
  · by_cases z : b = a
    · rw [z, del_same] at e
      cases e
    · rw [del_ne z] at e
      exact y.grow b o e
theorem Ctx.unlock (C : Ctx G B1 A1 L1 H1) (ha : A1[n]? = some a) (hb : B1 a = some (.frz od u)) (hn : NotD (.frz od u)) (hc : L1[n]? = some (.fz c1)) (hl : c1.live = true) : Ctx G (L2.del B1 a) A1 (L1.set n c1) (upd H1 a u) := by
  have hn1 : n < L1.length := (List.getElem?_eq_some_iff.mp hc).1
  refine ⟨by rw [List.length_set]; exact C.len, fun b v e => ?_, C.nd, fun m b d hbm hm => ?_, fun m b d hbm hm hdd => ?_, fun m b d hbm hm => ?_⟩
  · by_cases z : b = a
    · rw [z, del_same] at e
      cases e
    · rw [del_ne z] at e
      rw [upd_ne z]
      exact C.sub _ _ e
  · by_cases q : m = n
    · subst q
      rw [List.getElem?_set_self hn1] at hm
      rw [ha] at hbm
      cases hbm
      cases hm
      obtain ⟨o, e, od', u', e2, r⟩ := C.at_ m a _ ha hc
      rw [C.sub _ _ hb] at e
      cases e
      cases e2
      exact ⟨u, upd_same, r.del hb hn⟩
    · rw [List.getElem?_set_ne (Ne.symm q)] at hm
      obtain ⟨v, e, r⟩ := C.at_ m b d hbm hm
      refine ⟨v, ?_, r.del hb hn⟩
      rw [upd_ne fun (z : b = a) => q (nd_ix C.nd hbm (by rw [z]; exact ha))]
      exact e
  · by_cases q : m = n
    · subst q
      rw [ha] at hbm
      cases hbm
      exact del_same
    · rw [List.getElem?_set_ne (Ne.symm q)] at hm
      rw [del_ne fun (z : b = a) => q (nd_ix C.nd hbm (by rw [z]; exact ha))]
      exact C.off m b d hbm hm hdd
  · by_cases q : m = n
    · subst q
      rw [List.getElem?_set_self hn1] at hm
      cases hm
      cases hl
    · rw [List.getElem?_set_ne (Ne.symm q)] at hm
      obtain ⟨v, e⟩ := C.fz m b d hbm hm
      exact ⟨v, by rw [del_ne fun (z : b = a) => q (nd_ix C.nd hbm (by rw [z]; exact ha))]; exact e⟩
theorem unlock_some {L' : Led} (h : unlockL n L1 = some L') : ∃ c, L1[n]? = some (.fz c) ∧ c.live = true ∧ L' = L1.set n c := by
  unfold unlockL at h
  cases e : L1[n]? with
  | none => simp [e] at h
  | some d =>
    cases d with
    | fz c =>
      simp only [e] at h
      by_cases q : c.live = true
      · rw [if_pos q] at h
        exact ⟨c, rfl, q, (Option.some.inj h).symm⟩
      · rw [if_neg q] at h
        cases h
    | _ => simp [e] at h
end
section
variable {G : Cfg} {X : Cx} {Φ : Ph} {W : WX} {st : Stmt} {t : DS} {m : DE}
/-- the state behind a lock -/
theorem StR.unlock {B : Hp} {A : List Addr} {H : Hp} {n : Nat} {a : Addr} {u : HO} {od : PySem.Obj} {B1 : Hp} {A1 : List Addr} {ρ1 : Env} {L1 L' : Led} {σ1 : L2.St} {H1 : Hp} (hΦ : ∀ B σ, Φ.p B σ) (hn : NotD (.frz od u)) (ha : A[n]? = some a)
    (x : Ext (upd B a (.frz od u)) A (upd H a (.frz od u)) B1 A1 H1) (S : StR G Φ B1 A1 ρ1 L1 σ1 H1) (h : unlockL n L1 = some L') : H1 a = some (.frz od u) ∧ StR G Φ (L2.del B1 a) A1 ρ1 L' σ1 (upd H1 a u) := by
  obtain ⟨c, h1, h2, rfl⟩ := unlock_some h
  have hb : B1 a = some (.frz od u) := x.base _ _ upd_same
  exact ⟨S.ctx.sub _ _ hb, hΦ _ _, S.env.del hb hn, S.ctx.unlock (x.Pre.get ha) hb hn h1 h2⟩
theorem FP.unlock {B : Hp} {A : List Addr} {H : Hp} {D : Ends} {n : Nat} {a : Addr} {u : HO} {od : PySem.Obj} {f : Flow} (hΦ : ∀ B σ, Φ.p B σ) (hn : NotD (.frz od u)) (ha : A[n]? = some a) (hB : B a = none) (hu : H a = some u) (q : FP G Φ W (f.unlock n) B A H D) :
    FP G Φ W f (upd B a (.frz od u)) A (upd H a (.frz od u)) ⟨fun σ' H' => H' a = some (.frz od u) ∧ D.nx σ' (upd H' a u), fun v H' => H' a = some (.frz od u) ∧ D.rt v (upd H' a u), fun σ' H' => H' a = some (.frz od u) ∧ D.bk σ' (upd H' a u), fun σ' H' => H' a = some (.frz od u) ∧ D.ct σ' (upd H' a u)⟩ := by
  have hA : a ∈ A := List.mem_of_getElem? ha
  cases f with
  | next ρ' L' =>
    intro B' A' H' σ' x S
    have q1 : FP G Φ W (match unlockL n L' with | some L' => .next ρ' L' | none => .bad) B A H D := q
    cases e : unlockL n L' with
    | none => rw [e] at q1; exact q1.elim
    | some L2 =>
      rw [e] at q1
      obtain ⟨h1, h2⟩ := StR.unlock hΦ hn ha x S e
      exact ⟨h1, q1 _ _ _ σ' (Ext.unlock hB hA hu x) h2⟩
  | brk ρ' L' =>
    intro B' A' H' σ' x S
    have q1 : FP G Φ W (match unlockL n L' with | some L' => .brk ρ' L' | none => .bad) B A H D := q
    cases e : unlockL n L' with
    | none => rw [e] at q1; exact q1.elim
    | some L2 =>
      rw [e] at q1
      obtain ⟨h1, h2⟩ := StR.unlock hΦ hn ha x S e
      exact ⟨h1, q1 _ _ _ σ' (Ext.unlock hB hA hu x) h2⟩
  | cont ρ' L' =>
    intro B' A' H' σ' x S
    have q1 : FP G Φ W (match unlockL n L' with | some L' => .cont ρ' L' | none => .bad) B A H D := q
    cases e : unlockL n L' with
    | none => rw [e] at q1; exact q1.elim
    | some L2 =>
      rw [e] at q1
      obtain ⟨h1, h2⟩ := StR.unlock hΦ hn ha x S e
      exact ⟨h1, q1 _ _ _ σ' (Ext.unlock hB hA hu x) h2⟩
  | ret v L' =>
    intro B' A' H' w x C r
    have q1 : FP G Φ W (match unlockL n L' with | some L' => .ret v L' | none => .bad) B A H D := q
    cases e : unlockL n L' with
    | none => rw [e] at q1; exact q1.elim
    | some L2 =>
      rw [e] at q1
      obtain ⟨c, h1, h2, rfl⟩ := unlock_some e
      have hb : B' a = some (.frz od u) := x.base _ _ upd_same
      exact ⟨C.sub _ _ hb, q1 _ _ _ w (Ext.unlock hB hA hu x) (C.unlock (x.Pre.get ha) hb hn h1 h2) (r.del hb hn)⟩
  | exc c xs ρ' L' => exact fun B' A' H' σ' cls d x S r => q B' A' H' σ' cls d ((Ext.lock hB hA hu).trans x) S r
  | bad => exact q
/-- a dict is locked while a statement runs -/
theorem qs_lock (h : QS G X Φ W st t) (hΦ : ∀ B σ, Φ.p B σ := by intros; trivial) : QS G X Φ W st (sLock m t) := by
  obtain ⟨ts, p, k⟩ := h
  refine ⟨_, ps_lock p, fun σ H B A ρ L D S q => ?_⟩
  have q1 : FP G Φ W (match m ρ L with
    | .ok (.loc n) _ => (match L[n]? with
      | some c => if c.dict then (t ρ (L.set n (.fz c))).unlock n else .bad
      | none => .bad)
    | _ => .bad) B A H D := q
  cases e : m ρ L with
  | exc c xs L1 => rw [e] at q1; exact q1.elim
  | bad => rw [e] at q1; exact q1.elim
  | ok v L1 =>
    rw [e] at q1
    cases v with
    | d x => exact q1.elim
    | loc n =>
      cases hc : L[n]? with
      | none => simp only [hc] at q1; exact q1.elim
      | some c =>
        simp only [hc] at q1
        by_cases hd : c.dict = true
        · rw [if_pos hd] at q1
          obtain ⟨a, ha⟩ := S.ctx.addr hc
          obtain ⟨u, hu, r⟩ := S.ctx.cell ha hc
          have hB := S.ctx.off n a c ha hc (dict_live hd)
          refine ⟨a, u, hu, (dict_mut (od := default) hd r).1, fun od => k σ _ (upd B a (.frz od u)) A ρ (L.set n (.fz c)) _ ⟨hΦ _ _, S.env.mono (same_lock hB) (Pre.refl A), S.ctx.lock ha hc (dict_live hd) hu r⟩ ?_⟩
          exact FP.unlock hΦ (dict_mut hd r).2 ha hB hu q1
        · rw [if_neg hd] at q1
          exact q1.elim
end
/-! ### a locked dict's keys -/
section
variable {G : Cfg} {B : Hp} {A : List Addr} {L : Led} {H : Hp}
theorem rep_key : ∀ (k : Key), Rep G B (keyD k) (kV (kOf k))
  | .inl _ => rfl
  | .inr _ => rfl
theorem reps_keys : ∀ (ks : List Key), Reps G B (ks.map keyD) ((ks.map kOf).map kV)
  | [] => rfl
  | k :: ks => ⟨_, _, rfl, rep_key k, reps_keys ks⟩
theorem KVs.key : ∀ {xs : List (Key × D)} {vs : List (L2.Key × V)} {i : Nat} {p : Key × D}, KVs G B xs vs → xs[i]? = some p → ∃ v, vs[i]? = some (kOf p.1, v)
  | [], _, _, _, _, h => by simp at h
  | p :: r, _, 0, q, ⟨v, ws, e, _, _⟩, h => by
    have e2 : p = q := Option.some.inj h
    rw [e, ← e2]
    exact ⟨v, rfl⟩
  | p :: r, _, i + 1, q, ⟨v, ws, e, _, t⟩, h => by
    rw [e]
    exact KVs.key (i := i) t h
theorem KTs.key : ∀ {xs : List (List Key × D)} {vs : List (List L2.Key × V)} {i : Nat} {p : List Key × D}, KTs G B xs vs → xs[i]? = some p → ∃ v, vs[i]? = some (p.1.map kOf, v)
  | [], _, _, _, _, h => by simp at h
  | p :: r, _, 0, q, ⟨v, ws, e, _, _⟩, h => by
    have e2 : p = q := Option.some.inj h
    rw [e, ← e2]
    exact ⟨v, rfl⟩
  | p :: r, _, i + 1, q, ⟨v, ws, e, _, t⟩, h => by
    rw [e]
    exact KTs.key (i := i) t h
/-- a tuple that the machine has, as data -/
theorem Ctx.tup (C : Ctx G B A L H) {q : Addr} {xs : List D} {vs : List V} (hq : H q = some (.tup vs)) (r : Reps G B xs vs) : ∃ B2, Ext B A H B2 A H ∧ Ctx G B2 A L H ∧ Rep G B2 (.tup xs) (.ref q) := by
  cases e : B q with
  | some o =>
    have e2 := C.sub _ _ e
    rw [hq] at e2
    cases e2
    exact ⟨B, Ext.refl, C, q, vs, rfl, e, r⟩
  | none =>
    have sm : Same B (upd B q (.tup vs)) := same_lock e
    refine ⟨upd B q (.tup vs), ⟨sm, ⟨[], by simp, fun _ h => nomatch h⟩, fun _ _ e _ => e, fun _ o e => ⟨o, e⟩, fun b o z => ?_⟩, ⟨C.len, fun b o z => ?_, C.nd, fun n a c ha hc => ?_, fun n a c ha hc hd => ?_, fun n a c ha hc => (C.fz n a c ha hc).imp fun o e => sm _ _ e⟩, q, vs, rfl, upd_same, Reps.mono sm _ _ r⟩
    · by_cases y : b = q
      · rw [y]
        exact .inr (.inr (.inr ⟨vs, hq⟩))
      · rw [upd_ne y] at z
        exact .inl z
    · by_cases y : b = q
      · rw [y, upd_same] at z
        rw [y, hq]
        exact z
      · rw [upd_ne y] at z
        exact C.sub _ _ z
    · obtain ⟨o, e, r⟩ := C.at_ n a c ha hc
      exact ⟨o, e, r.mono sm (Pre.refl A)⟩
    · by_cases y : a = q
      · obtain ⟨o, e, r⟩ := C.at_ n a c ha hc
        rw [y, hq] at e
        cases e
        exact (CRep.notTup r hd).elim
      · rw [upd_ne y]
        exact C.off n a c ha hc hd
theorem itOk_keys {a : Addr} {o : PySem.Obj} {ks : List Key} {ws : List (L2.Key × V)} (hb : B a = some (.frz o (.dK ws))) (hl : ws.length = ks.length) (hk : ∀ (i : Nat) (k : Key), ks[i]? = some k → ∃ v, ws[i]? = some (kOf k, v)) : ItOk G B A (.vals (ks.map keyD)) (Itk a o ws) := fun i B' A' L' H' s p C => by
  have hh : H' a = some (.frz o (.dK ws)) := C.sub _ _ (s _ _ hb)
  refine ⟨fun e _ => ⟨hh, ?_⟩, fun x hx => ?_⟩
  · have e1 : i = (ks.map keyD).length := e
    rw [e1, List.length_map, hl]
    exact Nat.le_refl _
  · have hx' : (ks.map keyD)[i]? = some x := hx
    rw [List.getElem?_map] at hx'
    cases e : ks[i]? with
    | none => rw [e] at hx'; cases hx'
    | some k =>
      rw [e] at hx'
      obtain rfl : keyD k = x := Option.some.inj hx'
      obtain ⟨v, ev⟩ := hk i k e
      refine ⟨⟨hh, (List.getElem?_eq_some_iff.mp ev).1⟩, fun w H2 y => ?_⟩
      obtain ⟨e1, k', v', e2, e3⟩ := y
      rw [ev] at e2
      cases e2
      subst e3
      exact yld_same C e1 (rep_key k)
theorem itOk_keysT {a : Addr} {o : PySem.Obj} {ks : List (List Key)} {ws : List (List L2.Key × V)} (hb : B a = some (.frz o (.dT ws))) (hl : ws.length = ks.length) (hk : ∀ (i : Nat) (k : List Key), ks[i]? = some k → ∃ v, ws[i]? = some (k.map kOf, v)) : ItOk G B A (.vals (ks.map fun k => .tup (k.map keyD))) (Itkt a o ws) := fun i B' A' L' H' s p C => by
  have hh : H' a = some (.frz o (.dT ws)) := C.sub _ _ (s _ _ hb)
  refine ⟨fun e _ => ⟨hh, ?_⟩, fun x hx => ?_⟩
  · have e1 : i = (ks.map fun k => D.tup (k.map keyD)).length := e
    rw [e1, List.length_map, hl]
    exact Nat.le_refl _
  · have hx' : (ks.map fun k => D.tup (k.map keyD))[i]? = some x := hx
    rw [List.getElem?_map] at hx'
    cases e : ks[i]? with
    | none => rw [e] at hx'; cases hx'
    | some k =>
      rw [e] at hx'
      obtain rfl : D.tup (k.map keyD) = x := Option.some.inj hx'
      obtain ⟨v, ev⟩ := hk i k e
      refine ⟨⟨hh, (List.getElem?_eq_some_iff.mp ev).1⟩, fun w H2 y => ?_⟩
      obtain ⟨e1, k', v', q, e2, e3, e4⟩ := y
      rw [ev] at e2
      cases e2
      subst e1 e3
      exact C.tup e4 (reps_keys k)
end
theorem qi_keysD {G : Cfg} {X : Cx} {Φ : Ph} {W : WX} {tg e : Expr} {m : DE} (h : QE G X Φ W e m) : QI G X Φ W tg e (iKeysD m) := by
  obtain ⟨te, pe, k⟩ := h
  refine ⟨_, pi_keys pe, fun σ H B A ρ L R S q => k σ H B A ρ L _ S (RP.bind q fun v L1 B1 A1 H1 u x c r q1 => ?_)⟩
  cases v with
  | d x => exact q1.elim
  | loc n =>
    cases hc : L1[n]? with
    | none =>
      simp only [hc] at q1
      exact q1.elim
    | some d =>
      cases d with
      | fz c0 =>
        obtain ⟨a, ha, eu⟩ := r
        obtain ⟨o, e3, od, w, e4, r4⟩ := c.cell ha hc
        obtain ⟨o', hb⟩ := c.fz n a c0 ha hc
        have e5 := c.sub _ _ hb
        rw [e3] at e5
        cases e5
        cases e4
        cases hk : keysD c0 with
        | none =>
          simp only [hc, hk] at q1
          exact q1.elim
        | some ks =>
          simp only [hc, hk] at q1
          cases c0 with
          | dK kvs =>
            obtain rfl : kvs.map (fun p => keyD p.1) = ks := Option.some.inj hk
            obtain ⟨ws, rfl, r5⟩ := r4
            refine ⟨a, od, eu, .inl ⟨ws, e3, q1 B1 A1 H1 _ Ext.refl c ?_⟩⟩
            have e6 : kvs.map (fun p => keyD p.1) = (kvs.map (·.1)).map keyD := by rw [List.map_map]; rfl
            rw [e6]
            refine itOk_keys hb (by rw [r5.len, List.length_map]) fun i k' hk' => ?_
            rw [List.getElem?_map] at hk'
            cases e7 : kvs[i]? with
            | none => rw [e7] at hk'; cases hk'
            | some p =>
              rw [e7] at hk'
              obtain rfl : p.1 = k' := Option.some.inj hk'
              exact r5.key e7
          | dT kvs =>
            obtain rfl : kvs.map (fun p => D.tup (p.1.map keyD)) = ks := Option.some.inj hk
            obtain ⟨ws, rfl, r5⟩ := r4
            refine ⟨a, od, eu, .inr ⟨ws, e3, q1 B1 A1 H1 _ Ext.refl c ?_⟩⟩
            have e6 : kvs.map (fun p => D.tup (p.1.map keyD)) = (kvs.map (·.1)).map fun k => D.tup (k.map keyD) := by rw [List.map_map]; rfl
            rw [e6]
            refine itOk_keysT hb (by rw [r5.len, List.length_map]) fun i k' hk' => ?_
            rw [List.getElem?_map] at hk'
            cases e7 : kvs[i]? with
            | none => rw [e7] at hk'; cases hk'
            | some p =>
              rw [e7] at hk'
              obtain rfl : p.1 = k' := Option.some.inj hk'
              exact r5.key e7
          | rcd ks' xs =>
            have hk1 : (if ks'.length = xs.length then some (ks'.map D.str) else none) = some ks := hk
            obtain ⟨vs, rfl, l5, r5⟩ := r4
            rw [if_pos l5] at hk1
            obtain rfl : ks'.map D.str = ks := Option.some.inj hk1
            refine ⟨a, od, eu, .inl ⟨_, e3, q1 B1 A1 H1 _ Ext.refl c ?_⟩⟩
            have e6 : ks'.map D.str = (ks'.map (Sum.inr : Txt → Key)).map keyD := by rw [List.map_map]; rfl
            rw [e6]
            refine itOk_keys hb (by rw [List.length_zip, List.length_map, List.length_map, r5.len, l5, Nat.min_self]) fun i k' hk' => ?_
            rw [List.getElem?_map] at hk'
            cases e7 : ks'[i]? with
            | none => rw [e7] at hk'; cases hk'
            | some p =>
              rw [e7] at hk'
              obtain rfl : Sum.inr p = k' := Option.some.inj hk'
              have hi : i < vs.length := by rw [r5.len, ← l5]; exact (List.getElem?_eq_some_iff.mp e7).1
              exact ⟨vs[i], by simp [List.getElem?_zip_eq_some, e7, hi, kOf]⟩
          | _ => cases hk
      | _ =>
        simp only [hc] at q1
        exact q1.elim
theorem qs_forD {G : Cfg} {X : Cx} {Φ : Ph} {W : WX} {tg iter : Expr} {body : List Stmt} {m : DE} {p : Pat} {t : DS} {pos : Pos} (hp : PassesOwn (model X.prog X.w) X.A X.env X.xe) (hc : X.calm = true) (hi : QE G X Φ W iter m) (hg : QG G X tg p) (hb : QSs G X Φ W body t)
    (hΦ : ∀ B σ, Φ.p B σ := by intros; trivial) (hs : ∀ x, foldedSetIterable iter X.env x = pure x := by intro _; rfl) (hoff : p.off Φ.off = true := by rfl) : QS G X Φ W (.For tg iter body [] pos) (sForD m p t) := qs_lock (qs_for hp hc (qi_keysD hi) hg hb hs hoff) hΦ
end Dl

set_option Elab.async false
set_option linter.all false
set_option maxRecDepth 100000
/-! St: own operators, the constants of a module, more of `in`, lists of cells, get. -/
namespace Dl
open PySem PySem.Spec PyProof.Rows L2

/-! ### methods that operators run -/
structure OwnM (K : PySem.W.Frag) (C f : Addr) (m : PySem.Str) : Prop where
  at_ : PySem.W.findIn K (.ref C) m = some (some (.ref f))
  fn : PySem.W.isFn K (.ref f) = true
  fi : PySem.W.fnIn K f = true
  ns : PySem.W.noSeq K C = true
  sf : PySem.W.selfFirst K C = true
def ownB (K : PySem.W.Frag) (C m : PySem.Str) : Bool := sB (PySem.W.findIn K (.ref (He.ga K C)) m) (some (some (.ref (He.ma K (He.ga K C) m)))) && (PySem.W.isFn K (.ref (He.ma K (He.ga K C) m)) && (PySem.W.fnIn K (He.ma K (He.ga K C) m) && (PySem.W.noSeq K (He.ga K C) && PySem.W.selfFirst K (He.ga K C))))
theorem ownB_ok {K : PySem.W.Frag} {C m : PySem.Str} (h : ownB K C m = true) : OwnM K (He.ga K C) (He.ma K (He.ga K C) m) m := by
  unfold ownB at h
  simp only [Bool.and_eq_true, decide_eq_true_eq, sB] at h
  exact ⟨h.1, h.2.1, h.2.2.1, h.2.2.2.1, h.2.2.2.2⟩
section
variable {X : Cx} {CX : CXT} {k : Nat} {f C : Addr} {fd : FuncData} {ps : List PySem.Str} {sp : Sp} {E : L2.St → XK} {pos : Pos} {a b : Expr} {ta tb : TE}
theorem run_in1 {pins : List (Addr × Obj)} {σ : L2.St} {H : Hp} {s : Shared} {Q : VK} {us : List Value} {vs : List V} (F : FnOk X.prog X.w X.K X.mg X.base CX k f fd ps sp) (hr : Room (k + 1) X.A) (hb : Binds X.K fd ps []) (hx : PassesAt CX X σ (E σ))
    (I : Inv X pins σ H s) (r : Vals vs us) (h : sp vs H Q (E σ)) : wpAny (model X.prog X.w) X.A.in1 (call (.ref f) us) (EP X pins σ Q) X.xe s := by
  have hl : us.length = ps.length := by rw [← r.length]; exact F.len _ _ _ _ h
  have b := hb s us I.kIn (by rw [List.append_nil]; exact hl)
  rw [List.append_nil] at b
  refine wpAny_call (codeAny_mono (F.run X.A.in1 X.stack s H ⟨us, []⟩ us vs Q (E σ) hr.in1 I.env0.in1 b r h) fun r s' hq => ?_)
  cases r with
  | error e => exact hx pins H s e s' I hq
  | ok fl =>
    cases fl with
    | ret u => exact I.after hq
    | next => exact False.elim hq
    | brk => exact False.elim hq
    | cont => exact False.elim hq
def tGetO (C : Addr) (sp : Sp) (E : L2.St → XK) (ta tb : TE) : TE := fun σ H Q => ta σ H fun x H1 => tb σ H1 fun y H2 => ∃ a dx fs, x = .ref a ∧ H2 a = some (.ins C dx fs) ∧ sp [.ref a, y] H2 Q (E σ)
/-- o[i], o of an own class -/
theorem pe_getO (pa : PE X a ta) (pb : PE X b tb) (hm : OwnM X.K C f "__getitem__") (F : FnOk X.prog X.w X.K X.mg X.base CX k f fd ps sp) (hr : Room (k + 1) X.A) (hb : Binds X.K fd ps []) (hx : ∀ σ, PassesAt CX X σ (E σ))
    (hs : ∀ o i, subscripted b true o i = runValue (.builtin "lifetime.subscript" ⟨[o, i], []⟩) := by intro _ _; rfl) : PE X (.Subscript a b pos) (tGetO C sp E ta tb) := by
  refine ⟨fun pins s σ H Q I h => ?_⟩
  refine Subscript_ (thn (pa.run pins s σ H _ I h) fun v s1 ⟨x, H1, I1, r1, q1⟩ => thn (pb.run pins s1 σ H1 _ I1 q1) fun u s2 ⟨y, H2, I2, r2, q2⟩ => ?_)
  obtain ⟨a, dx, fs, e1, e2, q⟩ := q2
  subst e1
  obtain rfl : v = Value.ref a := r1
  obtain ⟨mA, O, _, _, _, _⟩ := ins_get I2.hok e2
  obtain ⟨od, J, _⟩ := O.look
  have K2 := I2.kIn
  have hf := hm.fi
  unfold PySem.W.fnIn at hf
  split at hf
  · rename_i e
    unfold subscriptTail getitemInPython
    refine wpAny_bind (wpAny_bind (wpAny_bind (J.type.here ((PySem.W.looks_findIn K2 hm.at_).here ?_))))
    dsimp only
    refine wpAny_bind (wpAny_load (K2 _ _ e) (wpAny_pure ?_))
    dsimp only
    rw [hs]
    refine wpAny_bind (wpAny_runValue (codeAny_builtin PySem.W.entry_sub ?_))
    unfold Builtin.«lifetime.subscript»
    refine wpAny_bind (PySem.W.special_fn K2 J hm.at_ (beq_iff_eq.mp hm.fn) (wpAny_mono (run_in1 (vs := [.ref a, y]) (us := [.ref a, u]) F hr hb (hx σ) I2 (.cons (show RelV (.ref a) (.ref a) from rfl) (.cons r2 .nil)) q) (fun v s' z => ?_) fun _ _ z => z))
    refine wpAny_pure ?_
    show wpAny (model X.prog X.w) X.A (letTemporaryGo _ (.ref a) v >>= fun _ => pure v) _ _ s'
    exact wpAny_bind (wpAny_letTemporaryGo (wpAny_pure z))
  · cases hf
def gSetO (C : Addr) (sp : Sp) (E : L2.St → XK) (to ti : TE) : TG := fun v σ H Q => to σ H fun x H1 => ti σ H1 fun y H2 => ∃ a dx fs, x = .ref a ∧ H2 a = some (.ins C dx fs) ∧ sp [.ref a, y, v] H2 (fun _ H3 => Q σ H3) (E σ)
theorem pg_setO {o i : Expr} {to ti : TE} (ho : PE X o to) (hi : PE X i ti) (hm : OwnM X.K C f "__setitem__") (F : FnOk X.prog X.w X.K X.mg X.base CX k f fd ps sp) (hr : Room k X.A) (hb : Binds X.K fd ps []) (hx : ∀ σ, PassesAt CX X σ (E σ))
    (ha : ∀ v, assign (.Subscript o i pos) X.env v = (do
      let ov ← holding [v] (eval o X.env)
      let iv ← holding [v, ov] (eval i X.env)
      standAt pos
      holding [v, ov, iv] (setItem ov iv v)
      release [v, ov, iv] []) := by intro _; rfl) : PG X (.Subscript o i pos) (gSetO C sp E to ti) := by
  refine ⟨fun pins s σ H v u Q I r h => ?_⟩
  rw [ha]
  refine wpAny_bind (wpAny_holding (thn (ho.run pins s σ H _ I h) fun ov s1 ⟨x, H1, I1, r1, q1⟩ => ?_))
  refine wpAny_bind (wpAny_holding (thn (hi.run pins s1 σ H1 _ I1 q1) fun iv s2 ⟨y, H2, I2, r2, q2⟩ => ?_))
  obtain ⟨a, dx, fs, e1, e2, q⟩ := q2
  subst e1
  obtain rfl : ov = Value.ref a := r1
  obtain ⟨mA, O, _, _, _, _⟩ := ins_get I2.hok e2
  obtain ⟨od, J, _⟩ := O.look
  have K2 := I2.kIn
  refine wpAny_bind (wpAny_standAt (wpAny_bind (wpAny_holding ?_)))
  unfold setItem sequenceKey
  refine wpAny_holding (wpAny_bind (wpAny_bind (J.type.here ?_)))
  refine wpAny_bind ((PySem.W.anyM_none K2 hm.ns).here ?_)
  rw [if_pos (show (!false) = true from rfl)]
  refine wpAny_pure (wpAny_bind (PySem.W.special_fn K2 J hm.at_ (beq_iff_eq.mp hm.fn) ?_))
  refine wpAny_mono (run_fnS (vs := [.ref a, y, v]) (us := [.ref a, iv, u]) F hr hb (hx σ) I2 (.cons (show RelV (.ref a) (.ref a) from rfl) (.cons r2 (.cons r .nil))) q) (fun w s3 z => ?_) fun _ _ z => z
  obtain ⟨_, H3, I3, _, q3⟩ := z
  exact wpAny_pure (wpAny_release ⟨σ, H3, I3, q3⟩)
end
structure OwnD (G : Cfg) (P : Program) (w : World) (K : PySem.W.Frag) (mg : PySem.Str → Option Value) (base : Heap) (k : Nat) (c : Nat) (m : PySem.Str) (fn : Fn) (n : Nat) : Prop where
  ex : ∃ (f : Addr) (fd : FuncData) (ps : List PySem.Str), FnOk P w K mg base (L2.CX P w) k f fd ps (toSp G n fn) ∧ OwnM K (G.cl c) f m ∧ Binds K fd ps []
section
variable {G : Cfg} {X : Cx} {Φ : Ph} {W : WX} {k j c : Nat} {fn : Fn} {pos pos' : Pos} {a b o i e : Expr} {ma mb mo mi m : DE}
theorem qe_getO (ha : QE G X Φ W a ma) (hb : QE G X Φ W b mb) (cm : OwnD G X.prog X.w X.K X.mg X.base k c "__getitem__" fn 2) (hr : Room j X.A) (hx : ∀ σ, PassesAt (L2.CX X.prog X.w) X σ (WE W σ)) (hk : k + 1 ≤ j)
    (hs : ∀ o i, subscripted b true o i = runValue (.builtin "lifetime.subscript" ⟨[o, i], []⟩) := by intro _ _; rfl) : QE G X Φ W (.Subscript a b pos) (getO c fn ma mb) := by
  obtain ⟨f, fd, ps, F, hm, hbd⟩ := cm.ex
  obtain ⟨ta, pa, ka⟩ := ha
  obtain ⟨tb, pb, kb⟩ := hb
  refine ⟨_, pe_getO pa pb hm F (hr.mono hk) hbd hx hs, fun σ H B A ρ L Q S q => ka σ H B A ρ L _ S (RP.bind q fun x L1 B1 A1 H1 u x1 c1 r1 q1 => ?_)⟩
  refine kb σ H1 B1 A1 ρ L1 _ (S.step x1 c1) (RP.bind q1 fun y L2 B2 A2 H2 w x2 c2 r2 q2 => ?_)
  by_cases hcl : clsOf L2 x = some c
  · rw [if_pos hcl] at q2
    have r1' := r1.mono x2.base x2.Pre
    obtain ⟨a, dx, vs, e1, e2⟩ := clsOf_at c2 r1' hcl
    subst e1
    exact ⟨a, dx, _, rfl, e2, callD_sp (args := [x, y]) (vs := [.ref a, w]) (dv := []) (dvs := []) c2 ⟨_, _, rfl, r1', _, _, rfl, r2, rfl⟩ (fun _ => rfl) q2⟩
  · rw [if_neg hcl] at q2
    exact q2.elim
theorem qs_setO (ho : QE G X Φ W o mo) (hi : QE G X Φ W i mi) (h : QE G X Φ W e m) (cm : OwnD G X.prog X.w X.K X.mg X.base k c "__setitem__" fn 3) (hr : Room j X.A) (hx : ∀ σ, PassesAt (L2.CX X.prog X.w) X σ (WE W σ)) (hk : k ≤ j)
    (hs : swapsWithSole [.Subscript o i pos'] e pos.line X.env = pure false := by rfl) (hw : swappedStores [.Subscript o i pos'] e X.env = pure none := by rfl)
    (h1 : (assignEach [.Subscript o i pos'] X.env).map (·.2) = [assign (.Subscript o i pos') X.env] := by rfl)
    (ha : ∀ v, assign (.Subscript o i pos') X.env v = (do
      let ov ← holding [v] (eval o X.env)
      let iv ← holding [v, ov] (eval i X.env)
      standAt pos'
      holding [v, ov, iv] (setItem ov iv v)
      release [v, ov, iv] []) := by intro _; rfl) : QS G X Φ W (.Assign [.Subscript o i pos'] e pos) (sSetO c fn mo mi m) := by
  obtain ⟨f, fd, ps, F, hm, hbd⟩ := cm.ex
  obtain ⟨te, p, k⟩ := h
  obtain ⟨to, po, ko⟩ := ho
  obtain ⟨ti, pi, ki⟩ := hi
  refine ⟨_, ps_asg p (pg_setO po pi hm F (hr.mono hk) hbd hx ha) hs hw h1, fun σ H B A ρ L D S q => k σ H B A ρ L _ S (FP.flow S q fun v L1 B1 A1 H1 u x1 s1 r1 q1 => ?_)⟩
  refine ko σ H1 B1 A1 ρ L1 _ s1 (FP.flow s1 q1 fun x L2 B2 A2 H2 w x2 s2 r2 q2 => ?_)
  refine ki σ H2 B2 A2 ρ L2 _ s2 (FP.flow s2 q2 fun y L3 B3 A3 H3 z x3 s3 r3 q3 => ?_)
  by_cases hcl : clsOf L3 x = some c
  · rw [if_pos hcl] at q3
    have r2' := r2.mono x3.base x3.Pre
    obtain ⟨a, dx, vs, e1, e2⟩ := clsOf_at s3.ctx r2' hcl
    subst e1
    refine ⟨a, dx, _, rfl, e2, callD_sp (args := [x, y, v]) (vs := [.ref a, z, u]) (dv := []) (dvs := []) s3.ctx ⟨_, _, rfl, r2', _, _, rfl, r3, _, _, rfl, (r1.mono x2.base x2.Pre).mono x3.base x3.Pre, rfl⟩ (fun _ => rfl) ?_⟩
    exact FP.flow s3 q3 fun _ L4 B4 A4 H4 _ x4 s4 _ q4 => q4 B4 A4 H4 σ Ext.refl s4
  · rw [if_neg hcl] at q3
    exact q3.elim
end

/-! ### o.p = v, p a property -/
section
variable {X : Cx} {CX : CXT} {k : Nat} {f : PySem.Str} {C p g : Addr} {fd : FuncData} {ps : List PySem.Str} {sp : Sp} {E : L2.St → XK} {pos pos' : Pos} {o value : Expr} {to tv : TE}
def sPropS (C : Addr) (sp : Sp) (E : L2.St → XK) (to tv : TE) : TS := fun D σ H => tv σ H fun y H1 => to σ H1 fun x H2 => ∃ a dx fs, x = .ref a ∧ H2 a = some (.ins C dx fs) ∧ sp [.ref a, y] H2 (fun _ H3 => D.nx σ H3) (E σ)
theorem ps_propO (po : PE X o to) (pv : PE X value tv) (c : Cls X.K C) (hp : SetOf X.K C f p g) (F : FnOk X.prog X.w X.K X.mg X.base CX k g fd ps sp) (hr : Room (k + 2) X.A) (hb : Binds X.K fd ps []) (hx : ∀ σ, PassesAt CX X σ (E σ))
    (hs : swapsWith value (some (.Attribute o f pos')) pos.line X.env = pure false) : PS X (.Assign [.Attribute o f pos'] value pos) (sPropS C sp E to tv) := by
  refine ⟨fun pins s σ H D I h => ?_⟩
  refine plainObj_wpAny_Assign_Attribute (thn (pv.run pins s σ H _ I h) fun u s1 ⟨y, H1, I1, ry, q1⟩ => thn (po.run pins s1 σ H1 _ I1 q1) fun ov s2 ⟨x, H2, I2, rx, a, dx, fs, ex, ea, q2⟩ => ?_) hs
  subst ex
  obtain rfl : ov = Value.ref a := rx
  obtain ⟨mA, O, _, _, _, _⟩ := ins_get I2.hok ea
  obtain ⟨od, J, _⟩ := O.look
  obtain ⟨ga, rest, hrec⟩ := hp.rec_
  have K2 := I2.kIn
  have I3 := I2.tok (s2.toks + 1)
  have r2 : Vals [V.ref a, y] [Value.ref a, u] := .cons (show RelV (.ref a) (.ref a) from rfl) (.cons ry .nil)
  have hl : ([Value.ref a, u] ++ []).length = ps.length := by rw [List.append_nil, ← r2.length]; exact F.len _ _ _ _ q2
  have b := hb { s2 with toks := s2.toks + 1 } [.ref a, u] I3.kIn hl
  rw [List.append_nil] at b
  refine PySem.W.set_plain K2 J c.sa (PySem.W.osa_descr (s := { s2 with toks := s2.toks + 1 }) PySem.W.KF.slot_pset K2 J c.po hp.tk hp.ty (PySem.W.prop_set (s := { s2 with toks := s2.toks + 1 }) K2 hrec ?_))
  refine codeAny_mono (F.run X.A.in1.in1 X.stack { s2 with toks := s2.toks + 1 } H2 ⟨[.ref a, u], []⟩ [.ref a, u] [.ref a, y] (fun _ H3 => D.nx σ H3) (E σ) hr.in1.in1 I3.env0.in1.in1 b r2 q2) fun r s' hq => ?_
  cases r with
  | error e => exact hx σ pins H2 { s2 with toks := s2.toks + 1 } e s' (I3.wish _) hq
  | ok fl =>
    cases fl with
    | ret u =>
      obtain ⟨v, H', I4, rv, q4⟩ := I3.after hq
      exact ⟨σ, H', I4, q4⟩
    | next => exact False.elim hq
    | brk => exact False.elim hq
    | cont => exact False.elim hq
end
structure SetD (G : Cfg) (P : Program) (w : World) (K : PySem.W.Frag) (mg : PySem.Str → Option Value) (base : Heap) (k : Nat) (c : Nat) (m : PySem.Str) (fn : Fn) : Prop where
  ex : ∃ (p g : Addr) (fd : FuncData) (ps : List PySem.Str), FnOk P w K mg base (L2.CX P w) k g fd ps (toSp G 2 fn) ∧ Cls K (G.cl c) ∧ SetOf K (G.cl c) m p g ∧ Binds K fd ps []
section
variable {G : Cfg} {X : Cx} {Φ : Ph} {W : WX} {k j c : Nat} {fn : Fn} {pos pos' : Pos} {o e : Expr} {mo m : DE} {f : PySem.Str}
theorem qs_propO (ho : QE G X Φ W o mo) (h : QE G X Φ W e m) (cm : SetD G X.prog X.w X.K X.mg X.base k c f fn) (hr : Room j X.A) (hx : ∀ σ, PassesAt (L2.CX X.prog X.w) X σ (WE W σ)) (hk : k + 2 ≤ j) (hs : swapsWith e (some (.Attribute o f pos')) pos.line X.env = pure false := by rfl) : QS G X Φ W (.Assign [.Attribute o f pos'] e pos) (sPropO c fn mo m) := by
  obtain ⟨p, g, fd, ps, F, hc, hp, hbd⟩ := cm.ex
  obtain ⟨te, pe, ke⟩ := h
  obtain ⟨to, po, ko⟩ := ho
  refine ⟨_, ps_propO po pe hc hp F (hr.mono hk) hbd hx hs, fun σ H B A ρ L D S q => ke σ H B A ρ L _ S (FP.flow S q fun v L1 B1 A1 H1 u x1 s1 r1 q1 => ?_)⟩
  refine ko σ H1 B1 A1 ρ L1 _ s1 (FP.flow s1 q1 fun x L2 B2 A2 H2 w x2 s2 r2 q2 => ?_)
  by_cases hcl : clsOf L2 x = some c
  · rw [if_pos hcl] at q2
    obtain ⟨a, dx, vs, e1, e2⟩ := clsOf_at s2.ctx r2 hcl
    subst e1
    refine ⟨a, dx, _, rfl, e2, callD_sp (args := [x, v]) (vs := [.ref a, u]) (dv := []) (dvs := []) s2.ctx ⟨_, _, rfl, r2, _, _, rfl, r1.mono x2.base x2.Pre, rfl⟩ (fun _ => rfl) ?_⟩
    exact FP.flow s2 q2 fun _ L4 B4 A4 H4 _ x4 s4 _ q4 => q4 B4 A4 H4 σ Ext.refl s4
  · rw [if_neg hcl] at q2
    exact q2.elim
/-! ### the first that is not bad -/
theorem qe_or2 {e : Expr} {m1 m2 : DE} (h1 : QE G X Φ W e m1) (h2 : QE G X Φ W e m2) : QE G X Φ W e (orE2 m1 m2) := by
  obtain ⟨t1, p1, k1⟩ := h1
  obtain ⟨t2, p2, k2⟩ := h2
  refine ⟨fun σ H Q => t1 σ H Q ∨ t2 σ H Q, ⟨fun pins s σ H Q I h => h.elim (p1.run pins s σ H Q I) (p2.run pins s σ H Q I)⟩, fun σ H B A ρ L Q S q => ?_⟩
  have q1 : RPV G (match m1 ρ L with | .bad => m2 ρ L | r => r) B A H Q (fun c d H' => W c d σ H') := q
  cases e1 : m1 ρ L with
  | ok v L1 => rw [e1] at q1; exact .inl (k1 σ H B A ρ L Q S (by rw [e1]; exact q1))
  | exc c xs L1 => rw [e1] at q1; exact .inl (k1 σ H B A ρ L Q S (by rw [e1]; exact q1))
  | bad => rw [e1] at q1; exact .inr (k2 σ H B A ρ L Q S q1)
theorem qi_or2 {tg e : Expr} {m1 m2 : DI} (h1 : QI G X Φ W tg e m1) (h2 : QI G X Φ W tg e m2) : QI G X Φ W tg e (orI m1 m2) := by
  obtain ⟨t1, p1, k1⟩ := h1
  obtain ⟨t2, p2, k2⟩ := h2
  refine ⟨fun σ H Q => t1 σ H Q ∨ t2 σ H Q, ⟨fun pins s σ H Q I h => h.elim (p1.run pins s σ H Q I) (p2.run pins s σ H Q I)⟩, fun σ H B A ρ L R S q => ?_⟩
  have q1 : RP G (RelJ G) (match m1 ρ L with | .bad => m2 ρ L | r => r) B A H R (fun c d H' => W c d σ H') := q
  cases e1 : m1 ρ L with
  | ok v L1 => rw [e1] at q1; exact .inl (k1 σ H B A ρ L R S (by rw [e1]; exact q1))
  | exc c xs L1 => rw [e1] at q1; exact .inl (k1 σ H B A ρ L R S (by rw [e1]; exact q1))
  | bad => rw [e1] at q1; exact .inr (k2 σ H B A ρ L R S q1)
theorem qs_or2 {st : Stmt} {m1 m2 : DS} (h1 : QS G X Φ W st m1) (h2 : QS G X Φ W st m2) : QS G X Φ W st (orS m1 m2) := by
  obtain ⟨t1, p1, k1⟩ := h1
  obtain ⟨t2, p2, k2⟩ := h2
  refine ⟨fun D σ H => t1 D σ H ∨ t2 D σ H, ⟨fun pins s σ H D I h => h.elim (p1.run pins s σ H D I) (p2.run pins s σ H D I)⟩, fun σ H B A ρ L D S q => ?_⟩
  have q1 : FP G Φ W (match m1 ρ L with | .bad => m2 ρ L | r => r) B A H D := q
  cases e1 : m1 ρ L with
  | bad => rw [e1] at q1; exact .inr (k2 σ H B A ρ L D S q1)
  | next a b => rw [e1] at q1; exact .inl (k1 σ H B A ρ L D S (by rw [e1]; exact q1))
  | ret a b => rw [e1] at q1; exact .inl (k1 σ H B A ρ L D S (by rw [e1]; exact q1))
  | brk a b => rw [e1] at q1; exact .inl (k1 σ H B A ρ L D S (by rw [e1]; exact q1))
  | cont a b => rw [e1] at q1; exact .inl (k1 σ H B A ρ L D S (by rw [e1]; exact q1))
  | exc a b c d => rw [e1] at q1; exact .inl (k1 σ H B A ρ L D S (by rw [e1]; exact q1))
end

/-! ### lists of cells -/
section
variable {G : Cfg} {X : Cx} {Φ : Ph} {W : WX} {tg : Expr} {pos : Pos}
theorem lc_readS {wi : TI} {mi : DI} {p : Pat} {mc : DT} {me : DE} {vs : List Nat} (ki : IR G Φ W wi mi) (hp : p.inn vs = true) (ho : p.off Φ.off = true) (hov : vs.all Φ.off = true) : ER G Φ W (tLc wi (gOf G p) (tOf G Φ NoW mc) (eOf G Φ NoW me) vs) (eCompS mi p vs mc me) := fun σ H B A ρ L Q S q => by
  refine ki σ H B A ρ L _ S (RP.bind q fun src L1 B1 A1 H1 J x1 c1 ok q1 => ?_)
  intro D hD
  have s1 := S.step x1 c1
  have hB1 : B1 D = none := by
    cases e : B1 D with
    | none => rfl
    | some o =>
      rw [c1.sub _ _ e] at hD
      cases hD
  have hA1 : D ∉ A1 := fun h => by
    obtain ⟨u, e⟩ := c1.mem h
    rw [hD] at e
    cases e
  let P (i k : Nat) (H' : Hp) : Prop := ∃ B' A' L' acc ws, Ext B1 A1 H1 B' A' H' ∧ Ctx G B' A' L' H' ∧ H' D = some (.lst ws) ∧ D ∉ A' ∧ B' D = none ∧ RepRs G B' A' acc ws ∧ i + k = src.len ∧ RP G (RepR G) ((compR src p mc me (Dl.wipe ρ vs) k i acc L').bind fun ys L2 => (Res.ok (Rv.loc L2.length) (L2 ++ [Cell.seq ys]) : Res Rv)) B1 A1 H1 Q (fun c d H' => W c d σ H')
  -- a step that leaves D
  have keep : ∀ {B' A' H' B2 A2 H2 ws}, H' D = some (.lst ws) → D ∉ A' → B' D = none → Ext B' A' H' B2 A2 H2 → H2 D = some (.lst ws) ∧ D ∉ A2 ∧ B2 D = none := fun {B' A' H' B2 A2 H2 ws} h1 h2 h3 x => by
    refine ⟨x.fr _ _ h1 h2, fun h => ?_, ?_⟩
    · obtain ⟨N, e, n⟩ := x.pre
      rw [e] at h
      rcases List.mem_append.mp h with h | h
      · exact h2 h
      · have := n D h
        rw [h1] at this
        cases this
    · cases e : B2 D with
      | none => rfl
      | some o =>
        rcases x.grow D o e with h | h | h | h
        · rw [h3] at h
          cases h
        · rw [h1] at h
          cases h
        · exact absurd h h2
        · obtain ⟨_, h⟩ := h
          rw [h1] at h
          cases h
  refine ⟨P, ⟨src.len, B1, A1, L1, [], [], (Ext.refl (B := B1) (A := A1) (H := H1)).beside hD, c1.beside hB1 hA1, upd_same, hA1, hB1, rfl, Nat.zero_add _, q1⟩, ?_⟩
  rintro i k H' ⟨B', A', L', acc, ws, x, c, hd, ha, hb, ra, ei, f⟩
  obtain ⟨z1, z2⟩ := ok i B' A' L' H' x.base x.Pre c
  cases k with
  | zero =>
    have f1 : RP G (RepR G) ((if src.fin L' = true then (.ok acc L' : Res (List Rv)) else .bad).bind fun ys L2 => (Res.ok (Rv.loc L2.length) (L2 ++ [Cell.seq ys]) : Res Rv)) B1 A1 H1 Q (fun c d H' => W c d σ H') := f
    by_cases hf : src.fin L' = true
    · rw [if_pos hf] at f1
      refine .inl ⟨z1 ei hf, ?_⟩
      have f2 : RPV G (.ok (.loc L'.length) (L' ++ [.seq acc])) B1 A1 H1 Q (fun c d H' => W c d σ H') := f1
      obtain ⟨c2, g2⟩ := c.adopt hd hb ha (c := .seq acc) ⟨ws, rfl, ra⟩
      obtain ⟨N, eN, nN⟩ := x.pre
      refine f2 B' (A' ++ [D]) H' (.ref D) ⟨x.base, ⟨N ++ [D], by rw [eN, List.append_assoc], fun a h => ?_⟩, x.fr, x.there, x.grow⟩ c2 ⟨D, g2, rfl⟩
      rcases List.mem_append.mp h with h | h
      · exact nN a h
      · rw [List.mem_singleton.mp h]
        exact hD
    · rw [if_neg hf] at f1
      exact f1.elim
  | succ k =>
    have f1 : RP G (RepR G) ((match src.get L' i with
      | none => (.bad : Res (List Rv))
      | some v => match bindP p v (Dl.wipe ρ vs) with
        | none => (.bad : Res (List Rv))
        | some ρ1 => match mc ρ1 L' with
          | .ok true L1 => (match me ρ1 L1 with
            | .ok y L2 => if acc.length < SZ then compR src p mc me (Dl.wipe ρ vs) k (i + 1) (acc ++ [y]) L2 else .bad
            | _ => .bad)
          | .ok false L1 => compR src p mc me (Dl.wipe ρ vs) k (i + 1) acc L1
          | _ => (.bad : Res (List Rv))).bind fun ys L2 => (Res.ok (Rv.loc L2.length) (L2 ++ [Cell.seq ys]) : Res Rv)) B1 A1 H1 Q (fun c d H' => W c d σ H') := f
    cases e1 : src.get L' i with
    | none =>
      rw [e1] at f1
      exact f1.elim
    | some v =>
      rw [e1] at f1
      cases e2 : bindP p v (Dl.wipe ρ vs) with
      | none =>
        simp only [e2] at f1
        exact f1.elim
      | some ρ1 =>
        simp only [e2] at f1
        obtain ⟨go, yl⟩ := z2 v e1
        refine .inr ⟨go, P (i + 1) k, fun H3 h3 => ⟨k, Nat.lt_succ_self k, h3⟩, fun w H2 y => ?_⟩
        obtain ⟨B2, x2, c2, r2⟩ := yl w H2 y
        obtain ⟨hd2, ha2, hb2⟩ := keep hd ha hb x2
        have xx2 := x.trans x2
        have st2 : StR G Φ B2 A' (Dl.wipe ρ vs) L' (L2.wipe σ vs) H2 := ⟨Φ.wipe (Φ.mono _ _ _ xx2.base s1.phi) vs hov, (s1.env.mono xx2.base xx2.Pre).wipe vs, c2⟩
        refine ⟨Φ, v, Dl.wipe ρ vs, ρ1, B2, A', L', ho, st2, r2, e2, fun σ1 S1 w1 => ⟨by rw [w1 vs hp, wipe_wipe], ?_⟩⟩
        refine ⟨B2, A', ρ1, L', S1, ?_⟩
        cases e3 : mc ρ1 L' with
        | exc c xs L => rw [e3] at f1; exact f1.elim
        | bad => rw [e3] at f1; exact f1.elim
        | ok b L3 =>
          rw [e3] at f1
          intro B3 A3 H3 b' x3 c3 eb
          obtain rfl : b = b' := eb
          obtain ⟨hd3, ha3, hb3⟩ := keep hd2 ha2 hb2 x3
          cases b with
          | false => exact ⟨B3, A3, L3, acc, ws, xx2.trans x3, c3, hd3, ha3, hb3, (ra.mono x2.base x2.Pre).mono x3.base x3.Pre, by omega, f1⟩
          | true =>
            refine ⟨B3, A3, ρ1, L3, S1.step x3 c3, ?_⟩
            cases e4 : me ρ1 L3 with
            | exc c xs L => simp only [e4] at f1; exact f1.elim
            | bad => simp only [e4] at f1; exact f1.elim
            | ok u L4 =>
              simp only [e4] at f1
              intro B4 A4 H4 v4 x4 c4 r4
              have f2 : RP G (RepR G) ((if acc.length < SZ then compR src p mc me (Dl.wipe ρ vs) k (i + 1) (acc ++ [u]) L4 else .bad).bind fun ys L2 => (Res.ok (Rv.loc L2.length) (L2 ++ [Cell.seq ys]) : Res Rv)) B1 A1 H1 Q (fun c d H' => W c d σ H') := f1
              obtain ⟨hd4, ha4, hb4⟩ := keep hd3 ha3 hb3 x4
              have ra4 : RepRs G B4 A4 acc ws := ((ra.mono x2.base x2.Pre).mono x3.base x3.Pre).mono x4.base x4.Pre
              by_cases hz : acc.length < SZ
              · rw [if_pos hz] at f2
                refine ⟨ws, hd4, by rw [ra4.len]; exact hz, B4, A4, L4, acc ++ [u], ws ++ [v4], ((xx2.trans x3).trans x4).beside hD, c4.beside hb4 ha4, upd_same, ha4, hb4, RepRs.append (show RepRs G B4 A4 [u] [v4] from ⟨v4, [], rfl, r4, rfl⟩) ra4, by omega, f2⟩
              · rw [if_neg hz] at f2
                exact f2.elim
/-- [elt for tg in iter if ..] -/
theorem qe_compS {elt iter : Expr} {ifs : List Expr} {scope : Scope} {own : List (PySem.Str × Nat)} {mi : DI} {p : Pat} {mc : DT} {me : DE} (hc : X.calm = true) (hN : X.N.Nodup) (hi : QI G X Φ W tg iter mi) (ok : BlkOk X.N X.env.scope scope own)
    (hg : ∀ (s : Shared) (H : Hp) (C : Addr) (cl : List (PySem.Str × Addr)) (fp : List Addr), QG G (X.blk s H scope (compEnvC scope cl C X.env) fp) tg p) (ht : ∀ (s : Shared) (H : Hp) (C : Addr) (cl : List (PySem.Str × Addr)) (fp : List Addr), QTs G (X.blk s H scope (compEnvC scope cl C X.env) fp) Φ NoW ifs mc)
    (he : ∀ (s : Shared) (H : Hp) (C : Addr) (cl : List (PySem.Str × Addr)) (fp : List Addr), QE G (X.blk s H scope (compEnvC scope cl C X.env) fp) Φ NoW elt me) (hp : p.inn (own.map (·.2)) = true := by rfl) (ho : p.off Φ.off = true := by rfl) (hov : (own.map (·.2)).all Φ.off = true := by rfl) (hs : ∀ x, foldedSetIterable iter X.env x = pure x := by intro _; rfl) :
    QE G X Φ W (.ListComp elt [⟨tg, iter, ifs, 0⟩] scope pos) (eCompS mi p (own.map (·.2)) mc me) := by
  obtain ⟨wi, pi, ki⟩ := hi
  exact ⟨_, pe_lc hc hN pi ok (fun s H C cl fp => (hg s H C cl fp).can) (fun s H C cl fp => (ht s H C cl fp).can) (fun s H C cl fp => (he s H C cl fp).can) hs, lc_readS ki hp ho hov⟩
/-- y = [elt for tg in iter if ..] -/
theorem qs_compS {i : Nat} {y : PySem.Str} {py : Pos} {spos : Pos} {elt iter : Expr} {ifs : List Expr} {scope : Scope} {own : List (PySem.Str × Nat)} {mi : DI} {p : Pat} {mc : DT} {me : DE} (hc : X.calm = true) (hN : X.N.Nodup) (hi : QI G X Φ W tg iter mi) (ok : BlkOk X.N X.env.scope scope own)
    (hg : ∀ (s : Shared) (H : Hp) (C : Addr) (cl : List (PySem.Str × Addr)) (fp : List Addr), QG G (X.blk s H scope (compEnvC scope cl C X.env) fp) tg p) (ht : ∀ (s : Shared) (H : Hp) (C : Addr) (cl : List (PySem.Str × Addr)) (fp : List Addr), QTs G (X.blk s H scope (compEnvC scope cl C X.env) fp) Φ NoW ifs mc)
    (he : ∀ (s : Shared) (H : Hp) (C : Addr) (cl : List (PySem.Str × Addr)) (fp : List Addr), QE G (X.blk s H scope (compEnvC scope cl C X.env) fp) Φ NoW elt me) (hp : p.inn (own.map (·.2)) = true := by rfl) (ho : p.off Φ.off = true := by rfl) (hov : (own.map (·.2)).all Φ.off = true := by rfl) (hoi : Φ.off i = true := by rfl) (hy : X.N[i]? = some y := by rfl) (hyl : X.env.scope.names.lookup y = some .local := by rfl)
    (hsw : swapsWith (.ListComp elt [⟨tg, iter, ifs, 0⟩] scope pos) (some (.Name y py)) spos.line X.env = pure true := by rfl) (hs : ∀ x, foldedSetIterable iter X.env x = pure x := by intro _; rfl) :
    QS G X Φ W (.Assign [.Name y py] (.ListComp elt [⟨tg, iter, ifs, 0⟩] scope pos) spos) (sAsg i (eCompS mi p (own.map (·.2)) mc me)) := by
  obtain ⟨wi, pi, ki⟩ := hi
  exact ⟨_, ps_setLc hc hN hy hyl hsw pi ok (fun s H C cl fp => (hg s H C cl fp).can) (fun s H C cl fp => (ht s H C cl fp).can) (fun s H C cl fp => (he s H C cl fp).can) hs, sr_asg (lc_readS ki hp ho hov) hoi⟩
end

/-! ### in: tuples, texts -/
section
variable {G : Cfg} {X : Cx} {Φ : Ph} {W : WX}
theorem flat_V {B : Hp} : ∀ {d : D} {u : V}, flatD d = true → Rep G B d u → flatV u = true
  | .non, u, _, r => by obtain rfl : u = .non := r; rfl
  | .bl b, u, _, r => by obtain rfl : u = .bl b := r; rfl
  | .int b, u, _, r => by obtain rfl : u = .int b := r; rfl
  | .str b, u, _, r => by obtain rfl : u = .str (sOf b) := r; rfl
theorem flat_eq {B : Hp} : ∀ {z d : D} {w u : V}, flatD z = true → flatD d = true → Rep G B z w → Rep G B d u → L2.eqV w u = deq z d := fun {z d w u} hz hd rz rd => by
  cases z <;> first | cases hz | skip
  all_goals cases d <;> first | cases hd | skip
  all_goals first
    | (obtain rfl := rz; obtain rfl := rd; rfl)
    | (obtain rfl := rz; obtain rfl := rd; exact sOf_beq _ _)
theorem flat_all {B : Hp} : ∀ {xs : List D} {vs : List V}, xs.all flatD = true → Reps G B xs vs → vs.all flatV = true
  | [], _, _, r => by
    have e : _ = [] := r
    rw [e]
    rfl
  | x :: xs, _, h, ⟨v, ws, e, q, t⟩ => by
    rw [List.all_cons, Bool.and_eq_true] at h
    rw [e, List.all_cons, flat_V h.1 q, flat_all h.2 t]
    rfl
theorem flat_any {B : Hp} {d : D} {u : V} (hd : flatD d = true) (rd : Rep G B d u) : ∀ {xs : List D} {vs : List V}, xs.all flatD = true → Reps G B xs vs → (vs.any fun y => L2.eqV y u) = xs.any fun z => deq z d
  | [], _, _, r => by
    have e : _ = [] := r
    rw [e]
    rfl
  | x :: xs, _, h, ⟨v, ws, e, q, t⟩ => by
    rw [List.all_cons, Bool.and_eq_true] at h
    rw [e, List.any_cons, List.any_cons, flat_eq h.1 hd q rd, flat_any hd rd h.2 t]
theorem in2_go {f : Value → Value → Sem Value} {neg : Bool} (h0 : O2 G X f (inV neg)) (h1 : OpR X f (rIn X.K neg)) (h2 : OpR X f (fun x y H Q => ∃ (c : Nat) (z : PySem.Str), x = .str ⟨#[c]⟩ ∧ y = .str z ∧ Q (.bl (decide (c ∈ z.cps.toList) != neg)) H)) (hK : X.K = G.K) : O2 G X f (in2V neg) := by
  obtain ⟨r, hr, kr⟩ := h0
  refine ⟨_, hr.or (h1.or h2), fun x y u w H B A L Q W C s1 s2 q => ?_⟩
  have flat : ∀ {ys : List D} {p : Addr} {vs : List V}, RPV G (inFlat neg x ys L) B A H Q W → w = .ref p → SqT X.K H p vs → Reps G B ys vs → rIn X.K neg u w H Q := fun {ys p vs} q e hq rs => by
    unfold inFlat at q
    cases x with
    | loc n => exact q.elim
    | d d =>
      dsimp only at q
      by_cases hp : (flatD d && ys.all flatD) = true
      · rw [if_pos hp] at q
        obtain ⟨p1, p2⟩ := Bool.and_eq_true_iff.mp hp
        refine ⟨p, vs, e, .inr hq, flat_V p1 s1, flat_all p2 rs, ?_⟩
        have e2 : L2.inV u vs = ys.any fun z => deq z d := flat_any p1 s1 p2 rs
        rw [e2]
        have q2 : Q (.bl ((ys.any fun z => deq z d) != neg)) H := q B A H _ Ext.refl C rfl
        cases neg with
        | true => rw [Bool.bne_true] at q2; exact q2
        | false => rw [Bool.bne_false] at q2; exact q2
      · rw [if_neg hp] at q
        exact q.elim
  cases y with
  | loc n => exact .inl (kr x (.loc n) u w H B A L Q W C s1 s2 q)
  | d y =>
    cases y with
    | tup ys =>
      obtain ⟨p, vs, e1, e2, e3⟩ := s2
      exact .inr (.inl (flat q e1 (SqT.of (C.sub _ _ e2)) e3))
    | stup ys =>
      obtain ⟨p, vs, e1, e2, e3⟩ := s2
      exact .inr (.inl (flat q e1 (by rw [hK]; exact sqt_same C.sub e2) e3))
    | str s =>
      cases x with
      | loc n => exact q.elim
      | d x =>
        cases x with
        | str t =>
          cases t with
          | nil => exact q.elim
          | cons c r =>
            cases r with
            | cons c2 r2 => exact q.elim
            | nil =>
              obtain rfl : u = .str (sOf [c]) := s1
              obtain rfl : w = .str (sOf s) := s2
              refine .inr (.inr ⟨c, sOf s, rfl, rfl, ?_⟩)
              have e : (sOf s).cps.toList = s := by simp [sOf]
              rw [e]
              exact q B A H _ Ext.refl C rfl
        | _ => exact q.elim
    | non => exact .inl (kr x _ u w H B A L Q W C s1 s2 q)
    | bl b => exact .inl (kr x _ u w H B A L Q W C s1 s2 q)
    | int b => exact .inl (kr x _ u w H B A L Q W C s1 s2 q)
    | lst b => exact .inl (kr x _ u w H B A L Q W C s1 s2 q)
    | slst b => exact .inl (kr x _ u w H B A L Q W C s1 s2 q)
    | obj c b => exact .inl (kr x _ u w H B A L Q W C s1 s2 q)
    | cls c => exact .inl (kr x _ u w H B A L Q W C s1 s2 q)
theorem o_in2 (hu : X.A.units + 65 < cLine) (hK : X.K = G.K := by rfl) : O2 G X (compareOp .In) (in2V false) := in2_go (o_in hu) op_in_seq (fun pins s σ H x y v u Q I rx ry h => op_in_sign pins s σ H x y v u Q I rx ry (by
  obtain ⟨c, z, e1, e2, q⟩ := h
  rw [Bool.bne_false] at q
  exact ⟨c, z, e1, e2, q⟩)) hK
theorem o_nin2 (hu : X.A.units + 65 < cLine) (hK : X.K = G.K := by rfl) : O2 G X (compareOp .NotIn) (in2V true) := in2_go (o_nin hu) op_notIn_seq (fun pins s σ H x y v u Q I rx ry h => op_notIn_sign pins s σ H x y v u Q I rx ry (by
  obtain ⟨c, z, e1, e2, q⟩ := h
  rw [Bool.bne_true] at q
  exact ⟨c, z, e1, e2, q⟩)) hK
/-! ### the constants of a module -/
def strsB : List Txt → List Value → Bool
  | [], [] => true
  | t :: ts, .str z _ :: vs => decide (z = sOf t) && strsB ts vs
  | _, _ => false
theorem strsB_ok {B : Hp} : ∀ {ts : List Txt} {us : List Value}, strsB ts us = true → ∃ vs, Vals vs us ∧ Reps G B (ts.map D.str) vs ∧ us.length = ts.length
  | [], [], _ => ⟨[], .nil, rfl, rfl⟩
  | t :: ts, .str z k :: us, h => by
    have h1 : (decide (z = sOf t) && strsB ts us) = true := h
    rw [Bool.and_eq_true, decide_eq_true_eq] at h1
    obtain ⟨vs, h2, h3, h4⟩ := strsB_ok (B := B) h1.2
    refine ⟨.str z :: vs, .cons ⟨k, rfl⟩ h2, ⟨_, vs, rfl, ?_, h3⟩, by rw [List.length_cons, List.length_cons, h4]⟩
    show V.str z = V.str (sOf t)
    rw [h1.1]
/-- a module's tuple of texts -/
def tupB (K : PySem.W.Frag) (x : PySem.Str) (ts : List Txt) : Bool := decide (ts.length ≤ 1000) && (match K.lookup (He.ga K x) with
  | some o => decide (o.cls = .type "tuple") && (match o.data with
    | .seq its _ => strsB ts its.toList
    | _ => false)
  | _ => false)
theorem tupB_ok {mg : PySem.Str → Option Value} {K : PySem.W.Frag} {x : PySem.Str} {ts : List Txt} (hK : K = G.K) (h : tupB K x ts = true) (hm : mg x = some (.ref (He.ga K x))) : GloD G mg x (.stup (ts.map D.str)) := by
  unfold tupB at h
  rw [Bool.and_eq_true, decide_eq_true_eq] at h
  obtain ⟨hl, h⟩ := h
  refine ⟨.ref (He.ga K x), _, hm, rfl, fun B => ?_⟩
  split at h
  · rename_i o ho
    rw [Bool.and_eq_true, decide_eq_true_eq] at h
    obtain ⟨h1, h2⟩ := h
    split at h2
    · rename_i its n hd
      obtain ⟨vs, h3, h4, h5⟩ := strsB_ok (G := G) (B := B) h2
      refine ⟨_, vs, rfl, .inr ⟨o, its, n, by rw [← hK]; exact ho, h1, hd, ?_, h3⟩, h4⟩
      have : its.size = ts.length := by rw [← h5]; simp
      rw [this, sizeLine_eq]
      omega
    · cases h2
  · cases h
theorem gloI_ok {mg : PySem.Str → Option Value} {x : PySem.Str} {i : Int} (h : ∃ t, mg x = some (.int i t)) : GloD G mg x (.int i) := by
  obtain ⟨t, h⟩ := h
  exact ⟨.int i, _, h, ⟨t, rfl⟩, fun _ => rfl⟩
end

/-! ### d.get(k), d.get(k, x) -/
section
variable {G : Cfg} {X : Cx} {Φ : Ph} {W : WX} {o e f : Expr} {apos cpos : Pos} {mo me mf : DE}
theorem isD_of {B H : Hp} {A : List Addr} {L : Led} (C : Ctx G B A L H) {n : Nat} {a : Addr} {c : Cell} (ha : A[n]? = some a) (hc : L[n]? = some c) (hd : c.dict = true) : IsD H a := by
  obtain ⟨u, hu, r⟩ := C.cell ha hc
  cases c with
  | dK kvs => obtain ⟨ws, rfl, _⟩ := r; exact .inl ⟨ws, .inl hu⟩
  | dT kvs => obtain ⟨ws, rfl, _⟩ := r; exact .inr ⟨ws, .inl hu⟩
  | rcd ks xs => obtain ⟨vs, rfl, _⟩ := r; exact .inl ⟨_, .inl hu⟩
  | _ => cases hd
theorem qe_get2 (hu : X.A.units + 1 < cLine) (ho : QE G X Φ W o mo) (he : QE G X Φ W e me) (hf : QE G X Φ W f mf) (m : M2 X o "get" apos e f cpos := by exact ⟨rfl, rfl, rfl, rfl⟩) : QE G X Φ W (.Call (.Attribute o "get" apos) [e, f] [] cpos) (getDV mo me mf) := by
  obtain ⟨to, po, ko⟩ := ho
  obtain ⟨te, pe, ke⟩ := he
  obtain ⟨tf, pf, kf⟩ := hf
  refine ⟨_, pe_dget2 hu po pe pf m, fun σ H B A ρ L Q S q => ko σ H B A ρ L _ S (RP.bind q fun x L1 B1 A1 H1 u x1 c1 r1 q1 => ?_)⟩
  cases x with
  | d d => exact q1.elim
  | loc n =>
    cases hc : L1[n]? with
    | none => simp only [hc] at q1; exact q1.elim
    | some c =>
      simp only [hc] at q1
      by_cases hd : c.dict = true
      · rw [if_pos hd] at q1
        obtain ⟨a, ha, eu⟩ := r1
        refine ⟨a, eu, isD_of c1 ha hc hd, ke σ H1 B1 A1 ρ L1 _ (S.step x1 c1) (RP.bind q1 fun y L2 B2 A2 H2 v x2 c2 r2 q2 => ?_)⟩
        refine kf σ H2 B2 A2 ρ L2 _ ((S.step x1 c1).step x2 c2) (RP.bind q2 fun z L3 B3 A3 H3 w x3 c3 r3 q3 => ?_)
        cases y with
        | loc m => exact q3.elim
        | d y =>
          cases hc3 : L3[n]? with
          | none => simp only [hc3] at q3; exact q3.elim
          | some c' =>
            cases hg : dget c' y with
            | none => simp only [hc3, hg] at q3; exact q3.elim
            | some r =>
              obtain ⟨ov, g1, g2⟩ := dget_at c3 hc3 (x3.Pre.get (x2.Pre.get ha)) (Rep.mono x3.base _ _ r2) hg
              refine ⟨ov, g1, ?_⟩
              cases r with
              | none =>
                simp only [hc3, hg] at q3
                obtain rfl : ov = none := g2
                exact q3 B3 A3 H3 w Ext.refl c3 r3
              | some wv =>
                simp only [hc3, hg] at q3
                obtain ⟨v', rfl, g3⟩ := g2
                exact q3 B3 A3 H3 v' Ext.refl c3 g3
      · rw [if_neg hd] at q1
        exact q1.elim
theorem qe_get1 (hu : X.A.units + 1 < cLine) (ho : QE G X Φ W o mo) (he : QE G X Φ W e me) (m : M1 X o "get" apos e cpos := by exact ⟨rfl, rfl, rfl, rfl⟩) : QE G X Φ W (.Call (.Attribute o "get" apos) [e] [] cpos) (getD1 mo me) := by
  obtain ⟨to, po, ko⟩ := ho
  obtain ⟨te, pe, ke⟩ := he
  refine ⟨_, pe_dget1 hu po pe m, fun σ H B A ρ L Q S q => ko σ H B A ρ L _ S (RP.bind q fun x L1 B1 A1 H1 u x1 c1 r1 q1 => ?_)⟩
  cases x with
  | d d => exact q1.elim
  | loc n =>
    cases hc : L1[n]? with
    | none => simp only [hc] at q1; exact q1.elim
    | some c =>
      simp only [hc] at q1
      by_cases hd : c.dict = true
      · rw [if_pos hd] at q1
        obtain ⟨a, ha, eu⟩ := r1
        refine ⟨a, eu, isD_of c1 ha hc hd, ke σ H1 B1 A1 ρ L1 _ (S.step x1 c1) (RP.bind q1 fun y L2 B2 A2 H2 v x2 c2 r2 q2 => ?_)⟩
        cases y with
        | loc m => exact q2.elim
        | d y =>
          cases hc3 : L2[n]? with
          | none => simp only [hc3] at q2; exact q2.elim
          | some c' =>
            cases hg : dget c' y with
            | none => simp only [hc3, hg] at q2; exact q2.elim
            | some r =>
              obtain ⟨ov, g1, g2⟩ := dget_at c2 hc3 (x2.Pre.get ha) r2 hg
              refine ⟨ov, g1, ?_⟩
              cases r with
              | none =>
                simp only [hc3, hg] at q2
                obtain rfl : ov = none := g2
                exact q2 B2 A2 H2 .non Ext.refl c2 rfl
              | some wv =>
                simp only [hc3, hg] at q2
                obtain ⟨v', rfl, g3⟩ := g2
                exact q2 B2 A2 H2 v' Ext.refl c2 g3
      · rw [if_neg hd] at q1
        exact q1.elim
end
/-! ### C(k = v, ..) -/
section
variable {X : Cx} {CX : CXT} {k : Nat} {f C : Addr} {fd : FuncData} {ps ks : List PySem.Str} {sp : Sp} {E : L2.St → XK} {x : PySem.Str} {p pos : Pos} {kws : List Keyword} {tk : TA} {g : List Value → List Value → List Value} {gV : List V → List V → List V}
theorem pe_makeKQ0 (M : Mk X.K C f) (F : FnOk X.prog X.w X.K X.mg X.base CX k f fd ps sp) (hr : Room (k + 1) X.A) (hg : Gl X x) (hm : X.mg x = some (.ref C)) (hb : KBn X.K fd ps 1 ks g gV) (hx : ∀ σ, PassesAt CX X σ (E σ)) (hkw : PK X kws tk)
    (hall : (backToKw pos (keywordEach kws X.env)).all (·.1.isSome) = true := by rfl) (hks : (backToKw pos (keywordEach kws X.env)).filterMap (·.1) = ks := by rfl) (hdb : (x == ("__debug__" : PySem.Str)) = false := by decide)
    (hpl : ((backTo pos (starEach [] X.env)).any (·.1) || (backToKw pos (keywordEach kws X.env)).any (·.1.isNone)) = false := by rfl) :
    PE X (.Call (.Name x p) [] kws pos) (tMakeKQ C 0 ks.length sp gV E tNil tk) := by
  refine ⟨fun pins s σ H Q I h => ?_⟩
  refine wpAny_Call_Name_kw (ld_glob I hg hm ?_ hdb)
  refine PySem.W.callWith_KW0 (h₀ := X.base) I.ok.mod.kin M.kp hall ?_ hpl
  refine thn (hkw.run pos pins s σ H _ I h) fun ws s2 ⟨zs, H2, I2, rz, l1, l2, q2⟩ => ⟨I2.kIn, ?_⟩
  rw [hks]
  exact run_makeKQ (us := []) (vs := []) M F hr hb (hx σ) I2 .nil rz rfl l2 q2
end
section
variable {G : Cfg} {X : Cx} {Φ : Ph} {W : WX} {k j n c : Nat} {x : PySem.Str} {fn : Fn} {p pos : Pos} {kws : List Keyword} {mk : DA} {ks : List PySem.Str} {gD : List Rv → List Rv → List Rv}
theorem qe_makek0 (imm : Bool) (cm : MakK G X.prog X.w X.K X.mg X.base k x c fn n 0 ks gD) (hr : Room j X.A) (hx : ∀ σ, PassesAt (L2.CX X.prog X.w) X σ (WE W σ)) (hk : k + 1 ≤ j) (hg : Gl X x) (hkw : QK G X Φ W kws mk)
    (lk : AL mk ks.length)
    (hall : (backToKw pos (keywordEach kws X.env)).all (·.1.isSome) = true := by rfl) (hks : (backToKw pos (keywordEach kws X.env)).filterMap (·.1) = ks := by rfl)
    (hdb : (x == ("__debug__" : PySem.Str)) = false := by decide)
    (hpl : ((backTo pos (starEach [] X.env)).any (·.1) || (backToKw pos (keywordEach kws X.env)).any (·.1.isNone)) = false := by rfl) : QE G X Φ W (.Call (.Name x p) [] kws pos) (makeK imm c fn n gD aN mk) := by
  obtain ⟨f, fd, ps, g, gV, F, M, hm, hb, hv⟩ := cm.ex
  obtain ⟨tk, pk, kk⟩ := hkw
  refine ⟨_, pe_makeKQ0 M F (hr.mono hk) hg hm hb hx pk hall hks hdb hpl, fun σ H B A ρ L Q S q => ?_⟩
  have q3 : RPV G ((mk ρ L).bind fun ys L2 => if (gD [] ys).length + 1 = n then makeF imm c fn (gD [] ys) L2 else .bad) B A H Q (fun c d H' => W c d σ H') := q
  show tk σ H fun zs H2 => _
  refine kk σ H B A ρ L _ S ?_
  cases e2 : mk ρ L with
  | bad => rw [e2] at q3; exact q3.elim
  | exc c xs L1 => rw [e2] at q3; exact q3
  | ok ys L2 =>
    rw [e2] at q3
    intro B2 A2 H2 zs x2 c2 r2
    have q4 := RP.ext x2 q3
    refine ⟨rfl, by rw [r2.len]; exact lk _ _ _ _ e2, ?_⟩
    have q5 : RPV G (if (gD [] ys).length + 1 = n then makeF imm c fn (gD [] ys) L2 else .bad) B2 A2 H2 Q (fun c d H' => W c d σ H') := q4
    by_cases z : (gD [] ys).length + 1 = n
    · rw [if_pos z] at q5
      intro x dx hx1 hx2 ne
      obtain ⟨rest, er, hr2⟩ := hv (.ref x) [] zs
      have rr := hr2 B2 A2 [] ys (show RepRs G B2 A2 [] [] from rfl) r2
      rw [er]
      exact make_sp (by rw [rr.len]; exact z) c2 rr q5 x dx hx1 hx2 ne
    · rw [if_neg z] at q5
      exact q5.elim
/-- the keywords' values and the defaults, in the parameters' order -/
theorem valsAt {zs : List V} {ws : List Value} (r : Vals zs ws) (i : Nat) : Vals (zs[i]?).toList (ws[i]?).toList := by
  induction r generalizing i with
  | nil => exact .nil
  | cons h t ih =>
    cases i with
    | zero => exact .cons h .nil
    | succ i => exact ih i
theorem repsAt {B : Hp} {A : List Addr} : ∀ {ys : List Rv} {zs : List V} (_ : RepRs G B A ys zs) (i : Nat), RepRs G B A (ys[i]?).toList (zs[i]?).toList
  | [], _, r, i => by
    have e : _ = [] := r
    rw [e]
    exact rfl
  | y :: ys, _, ⟨v, ws, e, q, t⟩, 0 => by
    rw [e]
    exact ⟨v, [], rfl, q, rfl⟩
  | y :: ys, _, ⟨v, ws, e, q, t⟩, i + 1 => by
    rw [e]
    exact repsAt (ys := ys) t i
end
end Dl

set_option Elab.async false
set_option linter.all false
set_option maxRecDepth 100000
/-! k24: the mirrors (written by gen.py). -/
namespace K24
open Dl
abbrev errs : List Nat := [0, 1, 2, 3, 4, 5, 6, 7]
def sub (c b : Nat) : Bool := c == b || b == 0
def m__law_begin_b1 : DS := (sAsg 1 (e2 modV (eN intV (aC (e2 (addV false) (e2 (addV false) (e2 (mulV false) (varE 1) (cE (.int 31))) (varE 2)) (cE (.int 7))) aN)) (cE (.int 2147483647))))
def m__law_begin : DS := (sSeq (sAsg 1 (cE (.int 0))) (sSeq (sFor (iL (varE 0)) (.name 2) m__law_begin_b1) (sRet (eN (dictV [[99, 101, 108, 108, 115], [97, 116], [114, 101, 115, 116], [115, 101, 101, 100], [99, 111, 117, 110, 116]]) (aC (eN (listV false) (aC (varE 0) aN)) (aC (cE (.int 0)) (aC (cE (.int 0)) (aC (varE 1) (aC (cE (.int 0)) aN)))))))))
def f__law_begin : Fn := defF 3 1 m__law_begin
def m0_BadNumber : DE := (e2 (addV false) (cE (.str [110, 117, 109, 98, 101, 114, 32, 111, 117, 116, 32, 111, 102, 32, 114, 97, 110, 103, 101, 58, 32])) (varE 1))
def m_within : DS := (sIf (tNot (tB (chainE leV leV (varE 2) (varE 1) (varE 3)))) (sRaiseI 1 1 m0_BadNumber (aC (varE 0) aN)) sNext)
def f_within : Fn := defF 4 4 m_within
def m_Drill_init : DS := (sSeq (sExpr (eN (callD f_within 4 []) (aC (cE (.str [112, 105, 112, 101, 115])) (aC (varE 1) (aC (cE (.int 1)) (aC (cE (.int 6)) aN)))))) (sSeq (sExpr (eN (callD f_within 4 []) (aC (cE (.str [114, 111, 119, 115])) (aC (varE 2) (aC (cE (.int 1)) (aC (cE (.int 16)) aN)))))) (sSeq (sExpr (eN (callD f_within 4 []) (aC (cE (.str [112, 108, 97, 99, 101, 115])) (aC (varE 3) (aC (cE (.int 1)) (aC (cE (.int 16)) aN)))))) (sSeq (sExpr (eN (callD f_within 4 []) (aC (cE (.str [116, 117, 114, 110, 105, 110, 103])) (aC (varE 4) (aC (cE (.int 0)) (aC (cE (.int 6)) aN)))))) (sSeq (sAttr [(8, 0)] (varE 0) (varE 1)) (sSeq (sAttr [(8, 1)] (varE 0) (varE 2)) (sSeq (sAttr [(8, 2)] (varE 0) (varE 3)) (sAttr [(8, 3)] (varE 0) (varE 4)))))))))
def f_Drill_init : Fn := defF 5 5 m_Drill_init
def m__law_mix : DS := (sSeq (sAsg 2 (e2 modV (eN intV (aC (e2 (addV false) (e2 (addV false) (e2 (mulV false) (varE 0) (cE (.int 48271))) (e2 (mulV false) (varE 1) (cE (.int 69621)))) (cE (.int 11))) aN)) (cE (.int 2147483647)))) (sSeq (sAsg 2 (e2 modV (eN intV (aC (e2 (addV false) (e2 (addV false) (e2 (mulV false) (varE 2) (varE 2)) (e2 (mulV false) (varE 1) (cE (.int 40692)))) (cE (.int 5))) aN)) (cE (.int 2147483629)))) (sSeq (sAsg 2 (e2 modV (eN intV (aC (e2 (addV false) (e2 (addV false) (e2 (mulV false) (varE 2) (varE 2)) (e2 (mulV false) (varE 0) (cE (.int 3)))) (cE (.int 1))) aN)) (cE (.int 2147483587)))) (sRet (e2 divV (varE 2) (cE (.int 3)))))))
def f__law_mix : Fn := defF 3 2 m__law_mix
def m__law_draw : DS := (sSeq (sSet setV (varE 0) (cE (.str [99, 111, 117, 110, 116])) (e2 (addV false) (e2 ixV (varE 0) (cE (.str [99, 111, 117, 110, 116]))) (cE (.int 1)))) (sSeq (sIf (tAnd (tB (e2 (eqV false) (e2 ixV (varE 0) (cE (.str [114, 101, 115, 116]))) (cE (.int 0)))) (tB (e2 ltV (e2 ixV (varE 0) (cE (.str [97, 116]))) (eN lenV (aC (e2 ixV (varE 0) (cE (.str [99, 101, 108, 108, 115]))) aN))))) (sSeq (sAsg 3 (eN absV (aC (e2 ixV (e2 ixV (varE 0) (cE (.str [99, 101, 108, 108, 115]))) (e2 ixV (varE 0) (cE (.str [97, 116])))) aN))) (sSeq (sSet setV (varE 0) (cE (.str [97, 116])) (e2 (addV false) (e2 ixV (varE 0) (cE (.str [97, 116]))) (cE (.int 1)))) (sSeq (sIf (tB (e2 ltV (varE 3) (e2 powV (cE (.int 10)) (cE (.int 18))))) (sRet (e2 modV (eN intV (aC (varE 3) aN)) (varE 1))) sNext) (sSet setV (varE 0) (cE (.str [114, 101, 115, 116])) (varE 3))))) sNext) (sSeq (sIf (tB (e2 gtV (e2 ixV (varE 0) (cE (.str [114, 101, 115, 116]))) (cE (.int 0)))) (sSeq (sAsg 2 (e2 modV (eN intV (aC (e2 ixV (varE 0) (cE (.str [114, 101, 115, 116]))) aN)) (varE 1))) (sSeq (sSet setV (varE 0) (cE (.str [114, 101, 115, 116])) (e2 divV (e2 ixV (varE 0) (cE (.str [114, 101, 115, 116]))) (varE 1))) (sRet (varE 2)))) sNext) (sSeq (sIf (tB (e2 (eqV false) (eN lenV (aC (e2 ixV (varE 0) (cE (.str [99, 101, 108, 108, 115]))) aN)) (cE (.int 0)))) (sRet (e2 modV (eN intV (aC (e2 ixV (varE 0) (cE (.str [99, 111, 117, 110, 116]))) aN)) (varE 1))) sNext) (sRet (e2 modV (eN intV (aC (eN (callD f__law_mix 2 []) (aC (e2 ixV (varE 0) (cE (.str [115, 101, 101, 100]))) (aC (e2 ixV (varE 0) (cE (.str [99, 111, 117, 110, 116]))) aN))) aN)) (varE 1)))))))
def f__law_draw : Fn := defF 4 2 m__law_draw
def m_Field_init : DS := (sSeq (sAttr [(11, 0)] (varE 0) (varE 1)) (sAttr [(11, 1)] (varE 0) (eCompS (iRange1 (e1 (attrV [(8, 1)]) (varE 1))) (.name 2) [2] tYes (e2 (mulV true) (eN (lstV false) (aC (cE (.str [117, 110, 115, 101, 101, 110])) aN)) (e1 (attrV [(8, 2)]) (varE 1))))))
def f_Field_init : Fn := defF 3 2 m_Field_init
def m__law_numbers : DS := (sSeq (sAsg 3 (e2 (addV false) (cE (.int 1)) (eN (callD f__law_draw 2 []) (aC (varE 0) (aC (cE (.int 3)) aN))))) (sSeq (sAsg 2 (e2 (addV false) (varE 3) (eN (callD f__law_draw 2 []) (aC (varE 0) (aC (cE (.int 4)) aN))))) (sSeq (sAsg 1 (e2 (addV false) (cE (.int 1)) (eN (callD f__law_draw 2 []) (aC (varE 0) (aC (cE (.int 3)) aN))))) (sSeq (sIf (tB (e2 (eqV false) (eN (callD f__law_draw 2 []) (aC (varE 0) (aC (cE (.int 8)) aN))) (cE (.int 7)))) (sSeq (sAsg 3 (e2 (addV false) (cE (.int 1)) (eN (callD f__law_draw 2 []) (aC (varE 0) (aC (cE (.int 16)) aN))))) (sSeq (sAsg 2 (e2 (addV false) (varE 3) (eN (callD f__law_draw 2 []) (aC (varE 0) (aC (e2 subV (cE (.int 17)) (varE 3)) aN))))) (sAsg 1 (e2 (addV false) (cE (.int 1)) (eN (callD f__law_draw 2 []) (aC (varE 0) (aC (cE (.int 16)) aN))))))) sNext) (sRet (eN (lstV false) (aC (varE 3) (aC (varE 2) (aC (varE 1) aN)))))))))
def f__law_numbers : Fn := defF 4 1 m__law_numbers
def m_Rules_init : DS := (sSeq (sExpr (eN (callD f_within 4 []) (aC (cE (.str [108, 101, 97, 115, 116])) (aC (varE 1) (aC (cE (.int 1)) (aC (cE (.int 16)) aN)))))) (sSeq (sExpr (eN (callD f_within 4 []) (aC (cE (.str [109, 111, 115, 116])) (aC (varE 2) (aC (varE 1) (aC (cE (.int 16)) aN)))))) (sSeq (sExpr (eN (callD f_within 4 []) (aC (cE (.str [114, 101, 115, 116])) (aC (varE 3) (aC (cE (.int 1)) (aC (cE (.int 16)) aN)))))) (sSeq (sAttr [(12, 0)] (varE 0) (varE 1)) (sSeq (sAttr [(12, 1)] (varE 0) (varE 2)) (sAttr [(12, 2)] (varE 0) (varE 3)))))))
def f_Rules_init : Fn := defF 4 4 m_Rules_init
def mkk_Rules_0_least_most_rest_g (xs ys : List Rv) : List Rv := xs ++ ys
def m_Inquiry_init : DS := (sSeq (sExpr (eN (callD f_within 4 []) (aC (cE (.str [108, 105, 109, 105, 116])) (aC (varE 3) (aC (cE (.int 0)) (aC (cE (.int 8)) aN)))))) (sSeq (sAttr [(10, 0)] (varE 0) (varE 1)) (sSeq (sAttr [(10, 1)] (varE 0) (varE 2)) (sAttr [(10, 2)] (varE 0) (varE 3)))))
def f_Inquiry_init : Fn := defF 4 4 m_Inquiry_init
def mkk_Inquiry_2_limit_g (xs ys : List Rv) : List Rv := xs ++ ys
def m_Inquiry_limit : DS := (sRet (e1 (attrV [(10, 2)]) (varE 0)))
def f_Inquiry_limit : Fn := defF 1 1 m_Inquiry_limit
def m__law_number : DS := (sRet (andE (e1 (isTyV .int) (varE 0)) (notE (e1 (isTyV .bool) (varE 0)))))
def f__law_number : Fn := defF 1 1 m__law_number
def m0_OutOfField : DE := (cE (.str [99, 101, 108, 108, 32, 111, 117, 116, 115, 105, 100, 101, 32, 111, 102, 32, 116, 104, 101, 32, 102, 105, 101, 108, 100]))
def m_Drill_require : DS := (sIf (tNot (tAnd (tB (chainE leV ltV (cE (.int 0)) (varE 1) (e1 (attrV [(8, 1)]) (varE 0)))) (tB (chainE leV ltV (cE (.int 0)) (varE 2) (e1 (attrV [(8, 2)]) (varE 0)))))) (sRaiseI 3 2 m0_OutOfField (aC (varE 1) (aC (varE 2) aN))) sNext)
def f_Drill_require : Fn := defF 3 3 m_Drill_require
def m_Field___setitem__ : DS := (sSeq (sUnp (.tup [(.name 3), (.name 4)]) (varE 1)) (sSeq (sIf (tB (e2 (in2V true) (varE 2) (cE (.stup ([[98, 97, 114, 101], [103, 114, 101, 101, 110], [117, 110, 115, 101, 101, 110]].map D.str))))) (sRaise0 2) sNext) (sSeq (sExpr (methD 8 f_Drill_require 3 [] (e1 (attrV [(11, 0)]) (varE 0)) (aC (varE 3) (aC (varE 4) aN)))) (sSet setV (e2 ixV (e1 (attrV [(11, 1)]) (varE 0)) (varE 3)) (varE 4) (varE 2)))))
def f_Field___setitem__ : Fn := defF 5 3 m_Field___setitem__
def m_Field___getitem__ : DS := (sSeq (sUnp (.tup [(.name 2), (.name 3)]) (varE 1)) (sSeq (sExpr (methD 8 f_Drill_require 3 [] (e1 (attrV [(11, 0)]) (varE 0)) (aC (varE 2) (aC (varE 3) aN)))) (sRet (e2 ixV (e2 ixV (e1 (attrV [(11, 1)]) (varE 0)) (varE 2)) (varE 3)))))
def f_Field___getitem__ : Fn := defF 4 2 m_Field___getitem__
def m_Inquiry_limit_set : DS := (sSeq (sExpr (eN (callD f_within 4 []) (aC (cE (.str [108, 105, 109, 105, 116])) (aC (varE 1) (aC (cE (.int 0)) (aC (cE (.int 8)) aN)))))) (sAttr [(10, 2)] (varE 0) (varE 1)))
def f_Inquiry_limit_set : Fn := defF 2 2 m_Inquiry_limit_set
def m_Inquiry_allow : DS := (sPropO 10 f_Inquiry_limit_set (varE 0) (varE 1))
def f_Inquiry_allow : Fn := defF 2 2 m_Inquiry_allow
def m__law_allowed : DS := (sSeq (sTry sub errs (sAsg 2 (methD 10 f_Inquiry_allow 2 [] (varE 0) (aC (varE 1) aN))) [(1, some 3, fun c xs => (sSeq (sIf (tOr (tB (eIsE sub errs c (eN tupV (aC (cE (.cls 2)) (aC (cE (.cls 4)) (aC (cE (.cls 6)) (aC (cE (.cls 3)) (aC (cE (.cls 5)) (aC (cE (.cls 7)) aN))))))))) (tNot (tB (eIsE sub errs c (cE (.cls 0)))))) (sRet (eN (lstV false) (aC (cE (.str [111, 116, 104, 101, 114])) aN))) sNext) (sRet (eN (lstV false) (aC (cE (.str [114, 101, 102, 117, 115, 101, 100])) (aC (excE xs 0) aN))))))]) (sRet (eN (lstV false) (aC (varE 2) aN))))
def f__law_allowed : Fn := defF 4 2 m__law_allowed
def m__law_made : DS := (sSeq (sTry sub errs (sAsg 3 (makeK false 10 f_Inquiry_init 4 mkk_Inquiry_2_limit_g (aC (varE 0) (aC (varE 1) aN)) (aC (varE 2) aN))) [(1, some 4, fun c xs => (sSeq (sIf (tOr (tB (eIsE sub errs c (eN tupV (aC (cE (.cls 2)) (aC (cE (.cls 4)) (aC (cE (.cls 6)) (aC (cE (.cls 3)) (aC (cE (.cls 5)) (aC (cE (.cls 7)) aN))))))))) (tNot (tB (eIsE sub errs c (cE (.cls 0)))))) (sRet (eN (lstV false) (aC (cE (.str [111, 116, 104, 101, 114])) aN))) sNext) (sRet (eN (lstV false) (aC (cE (.str [114, 101, 102, 117, 115, 101, 100])) (aC (excE xs 0) aN))))))]) (sRet (eN (lstV false) (aC (propD 10 f_Inquiry_limit (varE 3)) aN))))
def f__law_made : Fn := defF 5 3 m__law_made
def m_law_b1 : DS := (sSeq (sAsg 12 (e2 subV (eN (callD f__law_draw 2 []) (aC (varE 1) (aC (cE (.int 14)) aN))) (cE (.int 2)))) (sSeq (sIf (tB (e2 (eqV false) (eN (callD f__law_draw 2 []) (aC (varE 1) (aC (cE (.int 8)) aN))) (cE (.int 0)))) (sAsg 12 (e2 subV (eN (callD f__law_draw 2 []) (aC (varE 1) (aC (e2 (addV false) (e2 (mulV false) (cE (.int 2)) (e2 powV (cE (.int 10)) (cE (.int 9)))) (cE (.int 1))) aN))) (e2 powV (cE (.int 10)) (cE (.int 9))))) sNext) (sSeq (sAsg 13 (eN (lstV false) (aC (varE 12) aN))) (sSeq (sAsg 11 (eN (lstV false) (aC (cE .non) aN))) (sSeq (sIf (tOr (tB (e2 ltV (varE 12) (cE (.int 0)))) (tB (e2 gtV (varE 12) (cE (.int 8))))) (sSeq (sAsg 13 (eN (lstV false) (aC (cE (.str [114, 101, 102, 117, 115, 101, 100])) (aC (cE (.str [108, 105, 109, 105, 116])) aN)))) (sAsg 11 (eN (lstV false) (aC (cE (.str [114, 101, 102, 117, 115, 101, 100])) (aC (cE (.str [108, 105, 109, 105, 116])) aN))))) sNext) (sSeq (sIf (tOr (tB (e2 (eqV true) (eN (callD f__law_made 3 []) (aC (varE 3) (aC (varE 5) (aC (varE 12) aN)))) (varE 13))) (tB (e2 (eqV true) (eN (callD f__law_allowed 2 []) (aC (varE 6) (aC (varE 12) aN))) (varE 11)))) (sRet (cE (.bl false))) sNext) (sSeq (sIf (tB (e2 (eqV false) (varE 11) (eN (lstV false) (aC (cE .non) aN)))) (sAsg 9 (varE 12)) sNext) (sIf (tOr (tNot (tTru (eN (callD f__law_number 1 []) (aC (propD 10 f_Inquiry_limit (varE 6)) aN)))) (tOr (tB (e2 (eqV true) (propD 10 f_Inquiry_limit (varE 6)) (varE 9))) (tB (e2 (eqV true) (propD 10 f_Inquiry_limit (varE 7)) (varE 8))))) (sRet (cE (.bl false))) sNext))))))))
def m_law_s1 : DS := (sAsg 1 (eN (callD f__law_begin 1 []) (aC (varE 0) aN)))
def m_law_s2 : DS := (sAsg 2 (eN (makeD true 8 f_Drill_init 5 [(.int 0)]) (aC (e2 (addV false) (cE (.int 1)) (eN (callD f__law_draw 2 []) (aC (varE 1) (aC (cE (.int 6)) aN)))) (aC (e2 (addV false) (cE (.int 1)) (eN (callD f__law_draw 2 []) (aC (varE 1) (aC (cE (.int 16)) aN)))) (aC (e2 (addV false) (cE (.int 1)) (eN (callD f__law_draw 2 []) (aC (varE 1) (aC (cE (.int 16)) aN)))) aN)))))
def m_law_s3 : DS := (sAsg 3 (eN (makeD false 11 f_Field_init 2 []) (aC (varE 2) aN)))
def m_law_s4 : DS := (sAsg 4 (eN (callD f__law_numbers 1 []) (aC (varE 1) aN)))
def m_law_s5 : DS := (sAsg 5 (makeK true 12 f_Rules_init 4 mkk_Rules_0_least_most_rest_g aN (aC (e2 ixV (varE 4) (cE (.int 0))) (aC (e2 ixV (varE 4) (cE (.int 1))) (aC (e2 ixV (varE 4) (cE (.int 2))) aN)))))
def m_law_s6 : DS := (sAsg 6 (eN (makeD false 10 f_Inquiry_init 4 [(.int 3)]) (aC (varE 3) (aC (varE 5) aN))))
def m_law_s7 : DS := (sAsg 7 (makeK false 10 f_Inquiry_init 4 mkk_Inquiry_2_limit_g (aC (varE 3) (aC (varE 5) aN)) (aC (eN (callD f__law_draw 2 []) (aC (varE 1) (aC (cE (.int 9)) aN))) aN)))
def m_law_s8 : DS := (sAsg 8 (propD 10 f_Inquiry_limit (varE 7)))
def m_law_s9 : DS := (sAsg 9 (cE (.int 3)))
def m_law_s10 : DS := (sIf (tOr (tNot (tTru (eN (callD f__law_number 1 []) (aC (propD 10 f_Inquiry_limit (varE 6)) aN)))) (tOr (tB (e2 (eqV true) (propD 10 f_Inquiry_limit (varE 6)) (cE (.int 3)))) (tB (e2 (eqV true) (cE (.int 8)) (cE (.int 8)))))) (sRet (cE (.bl false))) sNext)
def m_law_s11 : DS := (sSetO 11 f_Field___setitem__ (varE 3) (eN tupV (aC (cE (.int 0)) (aC (cE (.int 0)) aN))) (cE (.str [98, 97, 114, 101])))
def m_law_s12 : DS := (sIf (tOr (tB (e2 (eqV true) (getO 11 f_Field___getitem__ (e1 (attrV [(10, 0)]) (varE 6)) (eN tupV (aC (cE (.int 0)) (aC (cE (.int 0)) aN)))) (cE (.str [98, 97, 114, 101])))) (tB (e2 (eqV true) (eN (lstV false) (aC (e1 (attrV [(12, 0)]) (e1 (attrV [(10, 1)]) (varE 6))) (aC (e1 (attrV [(12, 1)]) (e1 (attrV [(10, 1)]) (varE 6))) (aC (e1 (attrV [(12, 2)]) (e1 (attrV [(10, 1)]) (varE 6))) aN)))) (varE 4)))) (sRet (cE (.bl false))) sNext)
def m_law_s13 : DS := (sFor (iRange1 (eN (callD f__law_draw 2 []) (aC (varE 1) (aC (cE (.int 10)) aN)))) (.name 10) m_law_b1)
def m_law_s14 : DS := (sRet (andE (e2 (eqV false) (eN (callD f__law_made 3 []) (aC (varE 3) (aC (varE 5) (aC (cE (.int 8)) aN)))) (eN (lstV false) (aC (cE (.int 8)) aN))) (e2 (eqV false) (eN (callD f__law_made 3 []) (aC (varE 3) (aC (varE 5) (aC (cE (.int 9)) aN)))) (eN (lstV false) (aC (cE (.str [114, 101, 102, 117, 115, 101, 100])) (aC (cE (.str [108, 105, 109, 105, 116])) aN))))))
def m_law : DS := (sSeq m_law_s1 (sSeq m_law_s2 (sSeq m_law_s3 (sSeq m_law_s4 (sSeq m_law_s5 (sSeq m_law_s6 (sSeq m_law_s7 (sSeq m_law_s8 (sSeq m_law_s9 (sSeq m_law_s10 (sSeq m_law_s11 (sSeq m_law_s12 (sSeq m_law_s13 m_law_s14)))))))))))))
def f_law : Fn := defF 14 1 m_law
end K24

set_option Elab.async false
set_option linter.all false
set_option maxRecDepth 100000
set_option maxHeartbeats 0
/-! k24: the walk (written by gen.py). -/
namespace K24
open PySem PySem.Spec PyProof.Rows L2 Dl
abbrev PW : Program := PySem.Challenge.pw_coulter_k24_limit_of_an_inquiry
abbrev top (i : Nat) : Stmt := PW.main.body.getD i (.Pass ⟨0, 0, 0, 0⟩)
def clB : Stmt → List Stmt
  | .ClassDef (body := b) .. => b
  | _ => []
abbrev mth (i j : Nat) : Stmt := (clB (top i)).getD j (.Pass ⟨0, 0, 0, 0⟩)
/-! the classes, by numbers -/
def cls : Nat → PySem.Str
  | 0 => "CoulterError"
  | 1 => "BadNumber"
  | 2 => "BadKind"
  | 3 => "OutOfField"
  | 4 => "Clash"
  | 5 => "Refused"
  | 6 => "NoCase"
  | 7 => "Unfit"
  | 8 => "Drill"
  | 9 => "Spans"
  | 10 => "Inquiry"
  | 11 => "Field"
  | 12 => "Rules"
  | _ => ""
def nms : Nat → List PySem.Str
  | 0 => []
  | 1 => ["name"]
  | 2 => []
  | 3 => ["place", "row"]
  | 4 => ["place", "row"]
  | 5 => ["index"]
  | 6 => []
  | 7 => []
  | 8 => ["pipes", "rows", "places", "turning"]
  | 9 => ["parts"]
  | 10 => ["field", "rules", "bound"]
  | 11 => ["drill", "kinds"]
  | 12 => ["least", "most", "rest"]
  | _ => []
def G (K : PySem.W.Frag) : Cfg := ⟨fun n => He.ga K (cls n), nms, K⟩
theorem leaf_of {b c : Nat} (h : (errs.all fun c => !sub c b || c == b) = true) (hc : c ∈ errs) (hs : sub c b = true) : c = b := by
  rw [List.all_eq_true] at h
  have h1 := h c hc
  rw [hs] at h1
  exact eq_of_beq h1
structure Fx (K : PySem.W.Frag) (mg : PySem.Str → Option Value) : Prop where
  n_list : mg "list" = none
  n_int : mg "int" = none
  d__law_begin : ∃ fd, FunD K "_law_begin" "_law_begin" (defArgs (top 27)) (defBody (top 27)) (defScope (top 27)) [] [] (He.ga K "_law_begin") fd
  g__law_begin : mg "_law_begin" = some (.ref (He.ga K "_law_begin"))
  cls_Drill : Cls K (He.ga K "Drill")
  na_Drill_turning : PySem.W.findIn K (.ref (He.ga K "Drill")) "turning" = some none
  na_Drill_places : PySem.W.findIn K (.ref (He.ga K "Drill")) "places" = some none
  na_Drill_rows : PySem.W.findIn K (.ref (He.ga K "Drill")) "rows" = some none
  na_Drill_pipes : PySem.W.findIn K (.ref (He.ga K "Drill")) "pipes" = some none
  s_BadNumber : SupD PW K mg ⟨"BadNumber", "__init__", "BadNumber.__init__", defArgs (mth 3 0), defBody (mth 3 0), defScope (mth 3 0)⟩
  g_BadNumber : mg "BadNumber" = some (.ref (He.ga K "BadNumber"))
  na_BadNumber_name : PySem.W.findIn K (.ref (He.ga K "BadNumber")) "name" = some none
  d_within : ∃ fd, FunD K "within" "within" (defArgs (top 10)) (defBody (top 10)) (defScope (top 10)) [] [] (He.ga K "within") fd
  g_within : mg "within" = some (.ref (He.ga K "within"))
  g_Drill : mg "Drill" = some (.ref (He.ga K "Drill"))
  con_Drill_MOST_TURNING : ConD (G K) K 8 "MOST_TURNING" (.int 6)
  con_Drill_MOST_PLACES : ConD (G K) K 8 "MOST_PLACES" (.int 16)
  con_Drill_MOST_ROWS : ConD (G K) K 8 "MOST_ROWS" (.int 16)
  con_Drill_MOST_PIPES : ConD (G K) K 8 "MOST_PIPES" (.int 6)
  d_Drill_init : ∃ fd, FunD K "__init__" "Drill.__init__" (defArgs (mth 12 4)) (defBody (mth 12 4)) (defScope (mth 12 4)) [] [("turning", .int 0)] (He.ma K (He.ga K "Drill") "__init__") fd
  d__law_mix : ∃ fd, FunD K "_law_mix" "_law_mix" (defArgs (top 28)) (defBody (top 28)) (defScope (top 28)) [] [] (He.ga K "_law_mix") fd
  g__law_mix : mg "_law_mix" = some (.ref (He.ga K "_law_mix"))
  n_len : mg "len" = none
  n_abs : mg "abs" = none
  d__law_draw : ∃ fd, FunD K "_law_draw" "_law_draw" (defArgs (top 29)) (defBody (top 29)) (defScope (top 29)) [] [] (He.ga K "_law_draw") fd
  g__law_draw : mg "_law_draw" = some (.ref (He.ga K "_law_draw"))
  mk_Drill : Mk K (He.ga K "Drill") (He.ma K (He.ga K "Drill") "__init__")
  cls_Field : Cls K (He.ga K "Field")
  na_Field_kinds : PySem.W.findIn K (.ref (He.ga K "Field")) "kinds" = some none
  n_range : mg "range" = none
  na_Field_drill : PySem.W.findIn K (.ref (He.ga K "Field")) "drill" = some none
  d_Field_init : ∃ fd, FunD K "__init__" "Field.__init__" (defArgs (mth 22 0)) (defBody (mth 22 0)) (defScope (mth 22 0)) [] [] (He.ma K (He.ga K "Field") "__init__") fd
  mk_Field : Mk K (He.ga K "Field") (He.ma K (He.ga K "Field") "__init__")
  g_Field : mg "Field" = some (.ref (He.ga K "Field"))
  d__law_numbers : ∃ fd, FunD K "_law_numbers" "_law_numbers" (defArgs (top 31)) (defBody (top 31)) (defScope (top 31)) [] [] (He.ga K "_law_numbers") fd
  g__law_numbers : mg "_law_numbers" = some (.ref (He.ga K "_law_numbers"))
  cls_Rules : Cls K (He.ga K "Rules")
  na_Rules_rest : PySem.W.findIn K (.ref (He.ga K "Rules")) "rest" = some none
  na_Rules_most : PySem.W.findIn K (.ref (He.ga K "Rules")) "most" = some none
  na_Rules_least : PySem.W.findIn K (.ref (He.ga K "Rules")) "least" = some none
  ci_LONGEST : ∃ t, mg "LONGEST" = some (.int 16 t)
  d_Rules_init : ∃ fd, FunD K "__init__" "Rules.__init__" (defArgs (mth 25 0)) (defBody (mth 25 0)) (defScope (mth 25 0)) [] [("least", .int 1), ("most", .int 16), ("rest", .int 1)] (He.ma K (He.ga K "Rules") "__init__") fd
  mk_Rules : Mk K (He.ga K "Rules") (He.ma K (He.ga K "Rules") "__init__")
  g_Rules : mg "Rules" = some (.ref (He.ga K "Rules"))
  cls_Inquiry : Cls K (He.ga K "Inquiry")
  na_Inquiry_bound : PySem.W.findIn K (.ref (He.ga K "Inquiry")) "bound" = some none
  na_Inquiry_rules : PySem.W.findIn K (.ref (He.ga K "Inquiry")) "rules" = some none
  na_Inquiry_field : PySem.W.findIn K (.ref (He.ga K "Inquiry")) "field" = some none
  g_Inquiry : mg "Inquiry" = some (.ref (He.ga K "Inquiry"))
  con_Inquiry_MOST_LIMIT : ConD (G K) K 10 "MOST_LIMIT" (.int 8)
  d_Inquiry_init : ∃ fd, FunD K "__init__" "Inquiry.__init__" (defArgs (mth 19 1)) (defBody (mth 19 1)) (defScope (mth 19 1)) [] [("limit", .int 3)] (He.ma K (He.ga K "Inquiry") "__init__") fd
  mk_Inquiry : Mk K (He.ga K "Inquiry") (He.ma K (He.ga K "Inquiry") "__init__")
  d_Inquiry_limit : ∃ fd, FunD K "limit" "Inquiry.limit" (defArgs (mth 19 2)) (defBody (mth 19 2)) (defScope (mth 19 2)) [] [] (gA K "Inquiry" "limit") fd
  p_Inquiry_limit : PropOf K (He.ga K "Inquiry") "limit" (He.ma K (He.ga K "Inquiry") "limit") (gA K "Inquiry" "limit")
  n_isinstance : mg "isinstance" = none
  n_bool : mg "bool" = none
  d__law_number : ∃ fd, FunD K "_law_number" "_law_number" (defArgs (top 30)) (defBody (top 30)) (defScope (top 30)) [] [] (He.ga K "_law_number") fd
  g__law_number : mg "_law_number" = some (.ref (He.ga K "_law_number"))
  s_OutOfField : SupD PW K mg ⟨"OutOfField", "__init__", "OutOfField.__init__", defArgs (mth 5 0), defBody (mth 5 0), defScope (mth 5 0)⟩
  g_OutOfField : mg "OutOfField" = some (.ref (He.ga K "OutOfField"))
  na_OutOfField_row : PySem.W.findIn K (.ref (He.ga K "OutOfField")) "row" = some none
  na_OutOfField_place : PySem.W.findIn K (.ref (He.ga K "OutOfField")) "place" = some none
  d_Drill_require : ∃ fd, FunD K "require" "Drill.require" (defArgs (mth 12 5)) (defBody (mth 12 5)) (defScope (mth 12 5)) [] [] (He.ma K (He.ga K "Drill") "require") fd
  m_Drill_require : Meth K (He.ga K "Drill") "require" (He.ma K (He.ga K "Drill") "require")
  g_KINDS : mg "KINDS" = some (.ref (He.ga K "KINDS"))
  tp_KINDS : tupB K "KINDS" [[98, 97, 114, 101], [103, 114, 101, 101, 110], [117, 110, 115, 101, 101, 110]] = true
  er_BadKind : Err0 (G K) K mg "BadKind" 2
  d_Field___setitem__ : ∃ fd, FunD K "__setitem__" "Field.__setitem__" (defArgs (mth 22 3)) (defBody (mth 22 3)) (defScope (mth 22 3)) [] [] (He.ma K (He.ga K "Field") "__setitem__") fd
  ow_Field___setitem__ : ownB K "Field" "__setitem__" = true
  d_Field___getitem__ : ∃ fd, FunD K "__getitem__" "Field.__getitem__" (defArgs (mth 22 2)) (defBody (mth 22 2)) (defScope (mth 22 2)) [] [] (He.ma K (He.ga K "Field") "__getitem__") fd
  ow_Field___getitem__ : ownB K "Field" "__getitem__" = true
  d_Inquiry_limit_set : ∃ fd, FunD K "limit" "Inquiry.limit" (defArgs (mth 19 3)) (defBody (mth 19 3)) (defScope (mth 19 3)) [] [] (gS K "Inquiry" "limit") fd
  q_Inquiry_limit : SetOf K (He.ga K "Inquiry") "limit" (He.ma K (He.ga K "Inquiry") "limit") (gS K "Inquiry" "limit")
  d_Inquiry_allow : ∃ fd, FunD K "allow" "Inquiry.allow" (defArgs (mth 19 4)) (defBody (mth 19 4)) (defScope (mth 19 4)) [] [] (He.ma K (He.ga K "Inquiry") "allow") fd
  m_Inquiry_allow : Meth K (He.ga K "Inquiry") "allow" (He.ma K (He.ga K "Inquiry") "allow")
  rels : relsB K (G K).cl sub errs = true
  exm_BadNumber : exmB K (He.ga K "BadNumber") = true
  g_CoulterError : mg "CoulterError" = some (.ref (He.ga K "CoulterError"))
  g_Unfit : mg "Unfit" = some (.ref (He.ga K "Unfit"))
  g_Refused : mg "Refused" = some (.ref (He.ga K "Refused"))
  g_NoCase : mg "NoCase" = some (.ref (He.ga K "NoCase"))
  g_Clash : mg "Clash" = some (.ref (He.ga K "Clash"))
  g_BadKind : mg "BadKind" = some (.ref (He.ga K "BadKind"))
  d__law_allowed : ∃ fd, FunD K "_law_allowed" "_law_allowed" (defArgs (top 33)) (defBody (top 33)) (defScope (top 33)) [] [] (He.ga K "_law_allowed") fd
  g__law_allowed : mg "_law_allowed" = some (.ref (He.ga K "_law_allowed"))
  d__law_made : ∃ fd, FunD K "_law_made" "_law_made" (defArgs (top 32)) (defBody (top 32)) (defScope (top 32)) [] [] (He.ga K "_law_made") fd
  g__law_made : mg "_law_made" = some (.ref (He.ga K "_law_made"))
  d_law : ∃ fd, FunD K "law" "law" (defArgs (top 34)) (defBody (top 34)) (defScope (top 34)) [] [] (He.ga K "law") fd
  g_law : mg "law" = some (.ref (He.ga K "law"))
  exm_CoulterError : exmB K (He.ga K "CoulterError") = true
  exm_BadKind : exmB K (He.ga K "BadKind") = true
  exm_OutOfField : exmB K (He.ga K "OutOfField") = true
  exm_Clash : exmB K (He.ga K "Clash") = true
  exm_Refused : exmB K (He.ga K "Refused") = true
  exm_NoCase : exmB K (He.ga K "NoCase") = true
  exm_Unfit : exmB K (He.ga K "Unfit") = true
section
variable {w : World} {K : PySem.W.Frag} {mg : PySem.Str → Option Value} {base : Heap}
theorem gl_BadKind (Z : Fx K mg) : GloD (G K) mg "BadKind" (.cls 2) := ⟨.ref (He.ga K "BadKind"), .ref (He.ga K "BadKind"), Z.g_BadKind, rfl, fun _ => rfl⟩
theorem gl_BadNumber (Z : Fx K mg) : GloD (G K) mg "BadNumber" (.cls 1) := ⟨.ref (He.ga K "BadNumber"), .ref (He.ga K "BadNumber"), Z.g_BadNumber, rfl, fun _ => rfl⟩
theorem gl_Clash (Z : Fx K mg) : GloD (G K) mg "Clash" (.cls 4) := ⟨.ref (He.ga K "Clash"), .ref (He.ga K "Clash"), Z.g_Clash, rfl, fun _ => rfl⟩
theorem gl_CoulterError (Z : Fx K mg) : GloD (G K) mg "CoulterError" (.cls 0) := ⟨.ref (He.ga K "CoulterError"), .ref (He.ga K "CoulterError"), Z.g_CoulterError, rfl, fun _ => rfl⟩
theorem gl_Drill (Z : Fx K mg) : GloD (G K) mg "Drill" (.cls 8) := ⟨.ref (He.ga K "Drill"), .ref (He.ga K "Drill"), Z.g_Drill, rfl, fun _ => rfl⟩
theorem gl_Field (Z : Fx K mg) : GloD (G K) mg "Field" (.cls 11) := ⟨.ref (He.ga K "Field"), .ref (He.ga K "Field"), Z.g_Field, rfl, fun _ => rfl⟩
theorem gl_Inquiry (Z : Fx K mg) : GloD (G K) mg "Inquiry" (.cls 10) := ⟨.ref (He.ga K "Inquiry"), .ref (He.ga K "Inquiry"), Z.g_Inquiry, rfl, fun _ => rfl⟩
theorem gl_NoCase (Z : Fx K mg) : GloD (G K) mg "NoCase" (.cls 6) := ⟨.ref (He.ga K "NoCase"), .ref (He.ga K "NoCase"), Z.g_NoCase, rfl, fun _ => rfl⟩
theorem gl_OutOfField (Z : Fx K mg) : GloD (G K) mg "OutOfField" (.cls 3) := ⟨.ref (He.ga K "OutOfField"), .ref (He.ga K "OutOfField"), Z.g_OutOfField, rfl, fun _ => rfl⟩
theorem gl_Refused (Z : Fx K mg) : GloD (G K) mg "Refused" (.cls 5) := ⟨.ref (He.ga K "Refused"), .ref (He.ga K "Refused"), Z.g_Refused, rfl, fun _ => rfl⟩
theorem gl_Rules (Z : Fx K mg) : GloD (G K) mg "Rules" (.cls 12) := ⟨.ref (He.ga K "Rules"), .ref (He.ga K "Rules"), Z.g_Rules, rfl, fun _ => rfl⟩
theorem gl_Unfit (Z : Fx K mg) : GloD (G K) mg "Unfit" (.cls 7) := ⟨.ref (He.ga K "Unfit"), .ref (He.ga K "Unfit"), Z.g_Unfit, rfl, fun _ => rfl⟩
theorem fld_turning (Z : Fx K mg) : FldOk (G K) K "turning" [(8, 3)] := (fldOk_cons Z.cls_Drill Z.na_Drill_turning rfl (show (nms 8).Nodup by decide) (show (nms 8).length < 900 by decide) fldOk_nil)
theorem fld_places (Z : Fx K mg) : FldOk (G K) K "places" [(8, 2)] := (fldOk_cons Z.cls_Drill Z.na_Drill_places rfl (show (nms 8).Nodup by decide) (show (nms 8).length < 900 by decide) fldOk_nil)
theorem fld_rows (Z : Fx K mg) : FldOk (G K) K "rows" [(8, 1)] := (fldOk_cons Z.cls_Drill Z.na_Drill_rows rfl (show (nms 8).Nodup by decide) (show (nms 8).length < 900 by decide) fldOk_nil)
theorem fld_pipes (Z : Fx K mg) : FldOk (G K) K "pipes" [(8, 0)] := (fldOk_cons Z.cls_Drill Z.na_Drill_pipes rfl (show (nms 8).Nodup by decide) (show (nms 8).length < 900 by decide) fldOk_nil)
theorem fld_kinds (Z : Fx K mg) : FldOk (G K) K "kinds" [(11, 1)] := (fldOk_cons Z.cls_Field Z.na_Field_kinds rfl (show (nms 11).Nodup by decide) (show (nms 11).length < 900 by decide) fldOk_nil)
theorem fld_drill (Z : Fx K mg) : FldOk (G K) K "drill" [(11, 0)] := (fldOk_cons Z.cls_Field Z.na_Field_drill rfl (show (nms 11).Nodup by decide) (show (nms 11).length < 900 by decide) fldOk_nil)
theorem fld_rest (Z : Fx K mg) : FldOk (G K) K "rest" [(12, 2)] := (fldOk_cons Z.cls_Rules Z.na_Rules_rest rfl (show (nms 12).Nodup by decide) (show (nms 12).length < 900 by decide) fldOk_nil)
theorem fld_most (Z : Fx K mg) : FldOk (G K) K "most" [(12, 1)] := (fldOk_cons Z.cls_Rules Z.na_Rules_most rfl (show (nms 12).Nodup by decide) (show (nms 12).length < 900 by decide) fldOk_nil)
theorem fld_least (Z : Fx K mg) : FldOk (G K) K "least" [(12, 0)] := (fldOk_cons Z.cls_Rules Z.na_Rules_least rfl (show (nms 12).Nodup by decide) (show (nms 12).length < 900 by decide) fldOk_nil)
theorem fld_bound (Z : Fx K mg) : FldOk (G K) K "bound" [(10, 2)] := (fldOk_cons Z.cls_Inquiry Z.na_Inquiry_bound rfl (show (nms 10).Nodup by decide) (show (nms 10).length < 900 by decide) fldOk_nil)
theorem fld_rules (Z : Fx K mg) : FldOk (G K) K "rules" [(10, 1)] := (fldOk_cons Z.cls_Inquiry Z.na_Inquiry_rules rfl (show (nms 10).Nodup by decide) (show (nms 10).length < 900 by decide) fldOk_nil)
theorem fld_field (Z : Fx K mg) : FldOk (G K) K "field" [(10, 0)] := (fldOk_cons Z.cls_Inquiry Z.na_Inquiry_field rfl (show (nms 10).Nodup by decide) (show (nms 10).length < 900 by decide) fldOk_nil)
theorem isOk (Z : Fx K mg) {c : Nat} (hc : c ∈ errs) : IsOk (G K) K sub errs c := by
  refine ⟨?_, fun b hb => (relsB_ok Z.rels c hc b hb).2⟩
  simp only [errs, List.mem_cons, List.not_mem_nil, or_false] at hc
  rcases hc with rfl | rfl | rfl | rfl | rfl | rfl | rfl | rfl
  · exact (exmB_ok Z.exm_CoulterError).1
  · exact (exmB_ok Z.exm_BadNumber).1
  · exact (exmB_ok Z.exm_BadKind).1
  · exact (exmB_ok Z.exm_OutOfField).1
  · exact (exmB_ok Z.exm_Clash).1
  · exact (exmB_ok Z.exm_Refused).1
  · exact (exmB_ok Z.exm_NoCase).1
  · exact (exmB_ok Z.exm_Unfit).1
/-! _law_begin -/
abbrev N__law_begin : List PySem.Str := ["_law_script", "_law_seed", "_law_cell"]
abbrev p__law_begin : List PySem.Str := ["_law_script"]
theorem sc__law_begin : FnScope N__law_begin p__law_begin (defScope (top 27)) := ⟨rfl, rfl, rfl, by decide +kernel, rfl, by decide +kernel, by decide +kernel⟩
theorem ok__law_begin (Z : Fx K mg) {fd : FuncData} (F : FunD K "_law_begin" "_law_begin" (defArgs (top 27)) (defBody (top 27)) (defScope (top 27)) [] [] (He.ga K "_law_begin") fd) : FnOk PW w K mg base (L2.CX PW w) 1 (He.ga K "_law_begin") fd p__law_begin (toSp (G K) 1 f__law_begin) :=
  def_ok (G := G K) (m := m__law_begin) (N := N__law_begin) F sc__law_begin fun cdv A outer s H E co => show QSs _ _ _ _ _ (_ : DS) from
  (qss_cons (qs_asg (i := 1) qe_int co.nd)
  (qss_cons (qs_for co.own co.calm (qi_list (qe_var 0)) (qg_name co.nd) (qss_one (qs_asg (i := 1) (qe_op o_mod (qe_callTy on_int rfl Z.n_int PyProof.Rows.Boot.int (qa_cons (qe_op (o_add false) (qe_op (o_add false) (qe_op (o_mul false) (qe_var 1) qe_int) (qe_var 2)) qe_int) qa_nil)) qe_int) co.nd)))
  (qss_one (qs_ret (qe_disp (qp_cons (s := [99, 101, 108, 108, 115]) (qe_str [99, 101, 108, 108, 115]) (qe_callTy (on_list false) rfl Z.n_list PyProof.Rows.Boot.list (qa_cons (qe_var 0) qa_nil)) (qp_cons (s := [97, 116]) (qe_str [97, 116]) qe_int (qp_cons (s := [114, 101, 115, 116]) (qe_str [114, 101, 115, 116]) qe_int (qp_cons (s := [115, 101, 101, 100]) (qe_str [115, 101, 101, 100]) (qe_var 1) (qp_cons (s := [99, 111, 117, 110, 116]) (qe_str [99, 111, 117, 110, 116]) qe_int qp_nil))))))))))

theorem cal__law_begin (Z : Fx K mg) : CalD (G K) PW w K mg base 1 "_law_begin" f__law_begin 1 [] := by
  obtain ⟨fd, F⟩ := Z.d__law_begin
  exact ⟨⟨_, fd, _, [], [], ok__law_begin Z F, Z.g__law_begin, F.kp, F.bindsN fun _ _ _ _ _ _ us hl => match us, hl with | [_], _ => rfl, .nil, fun _ => rfl⟩⟩

/-! BadNumber: its __init__ -/
theorem er_BadNumber (Z : Fx K mg) : Err1 (G K) PW w K mg base 1 "BadNumber" 1 m0_BadNumber :=
  err1_mk (k := 0) (ar := ((defArgs (mth 3 0)).args.headD ⟨"", none, ⟨0, 0, 0, 0⟩⟩)) Z.s_BadNumber rfl Z.g_BadNumber rfl Z.na_BadNumber_name (NdefX.nscope_by (by decide +kernel)) (by decide +kernel) rfl rfl rfl (fun _ _ _ _ _ _ _ _ _ us hl => match us, hl with | [_, _], _ => rfl)
    fun X hN hsc hP hK hmg hcalm => by
      obtain ⟨x1, x2, x3, x4, x5, x6, x7, x8, x9, env, x11, x12, x13, x14, x15, x16, x17⟩ := X
      obtain ⟨⟩ := env
      dsimp only at hN hsc hP hK hmg hcalm
      subst hN hsc hP hK hmg hcalm
      exact ⟨(qe_op (o_add false) (qe_str [110, 117, 109, 98, 101, 114, 32, 111, 117, 116, 32, 111, 102, 32, 114, 97, 110, 103, 101, 58, 32]) (qe_var 1)), rfl, rfl, rfl, ⟨_, rfl⟩, rfl⟩

/-! within -/
abbrev N_within : List PySem.Str := ["name", "number", "low", "high"]
abbrev p_within : List PySem.Str := ["name", "number", "low", "high"]
theorem sc_within : FnScope N_within p_within (defScope (top 10)) := ⟨rfl, rfl, rfl, by decide +kernel, rfl, by decide +kernel, by decide +kernel⟩
theorem ok_within (Z : Fx K mg) {fd : FuncData} (F : FunD K "within" "within" (defArgs (top 10)) (defBody (top 10)) (defScope (top 10)) [] [] (He.ga K "within") fd) : FnOk PW w K mg base (L2.CX PW w) 3 (He.ga K "within") fd p_within (toSp (G K) 4 f_within) :=
  def_ok (G := G K) (m := m_within) (N := N_within) F sc_within fun cdv A outer s H E co => show QSs _ _ _ _ _ (_ : DS) from
  (qss_one (qs_if (qt_not (qt_chain o_le o_le (qe_var 2) (qe_var 1) (qe_var 3))) (qss_one (qs_raise1 co (er_BadNumber Z) (by decide) rfl (qa_cons (qe_var 0) qa_nil))) qss_nil))

theorem cal_within (Z : Fx K mg) : CalD (G K) PW w K mg base 3 "within" f_within 4 [] := by
  obtain ⟨fd, F⟩ := Z.d_within
  exact ⟨⟨_, fd, _, [], [], ok_within Z F, Z.g_within, F.kp, F.bindsN fun _ _ _ _ _ _ us hl => match us, hl with | [_, _, _, _], _ => rfl, .nil, fun _ => rfl⟩⟩

/-! Drill.__init__ -/
abbrev N_Drill_init : List PySem.Str := ["self", "pipes", "rows", "places", "turning"]
abbrev p_Drill_init : List PySem.Str := ["self", "pipes", "rows", "places", "turning"]
theorem sc_Drill_init : FnScope N_Drill_init p_Drill_init (defScope (mth 12 4)) := ⟨rfl, rfl, rfl, by decide +kernel, rfl, by decide +kernel, by decide +kernel⟩
theorem ok_Drill_init (Z : Fx K mg) {fd : FuncData} (F : FunD K "__init__" "Drill.__init__" (defArgs (mth 12 4)) (defBody (mth 12 4)) (defScope (mth 12 4)) [] [("turning", .int 0)] (He.ma K (He.ga K "Drill") "__init__") fd) : FnOk PW w K mg base (L2.CX PW w) 4 (He.ma K (He.ga K "Drill") "__init__") fd p_Drill_init (toSp (G K) 5 f_Drill_init) :=
  def_ok (G := G K) (m := m_Drill_init) (N := N_Drill_init) F sc_Drill_init fun cdv A outer s H E co => show QSs _ _ _ _ _ (_ : DS) from
  (qss_cons (qs_expr (qe_call (cal_within Z) co.room co.pas (by decide) rfl (qa_cons (qe_str [112, 105, 112, 101, 115]) (qa_cons (qe_var 1) (qa_cons qe_int (qa_cons (qe_con (gl_Drill Z) Z.con_Drill_MOST_PIPES rfl) qa_nil))))))
  (qss_cons (qs_expr (qe_call (cal_within Z) co.room co.pas (by decide) rfl (qa_cons (qe_str [114, 111, 119, 115]) (qa_cons (qe_var 2) (qa_cons qe_int (qa_cons (qe_con (gl_Drill Z) Z.con_Drill_MOST_ROWS rfl) qa_nil))))))
  (qss_cons (qs_expr (qe_call (cal_within Z) co.room co.pas (by decide) rfl (qa_cons (qe_str [112, 108, 97, 99, 101, 115]) (qa_cons (qe_var 3) (qa_cons qe_int (qa_cons (qe_con (gl_Drill Z) Z.con_Drill_MOST_PLACES rfl) qa_nil))))))
  (qss_cons (qs_expr (qe_call (cal_within Z) co.room co.pas (by decide) rfl (qa_cons (qe_str [116, 117, 114, 110, 105, 110, 103]) (qa_cons (qe_var 4) (qa_cons qe_int (qa_cons (qe_con (gl_Drill Z) Z.con_Drill_MOST_TURNING rfl) qa_nil))))))
  (qss_cons (qs_fld (fld_pipes Z) (qe_var 0) (qe_var 1))
  (qss_cons (qs_fld (fld_rows Z) (qe_var 0) (qe_var 2))
  (qss_cons (qs_fld (fld_places Z) (qe_var 0) (qe_var 3))
  (qss_one (qs_fld (fld_turning Z) (qe_var 0) (qe_var 4))))))))))

/-! _law_mix -/
abbrev N__law_mix : List PySem.Str := ["_law_number_here", "_law_count", "_law_x"]
abbrev p__law_mix : List PySem.Str := ["_law_number_here", "_law_count"]
theorem sc__law_mix : FnScope N__law_mix p__law_mix (defScope (top 28)) := ⟨rfl, rfl, rfl, by decide +kernel, rfl, by decide +kernel, by decide +kernel⟩
theorem ok__law_mix (Z : Fx K mg) {fd : FuncData} (F : FunD K "_law_mix" "_law_mix" (defArgs (top 28)) (defBody (top 28)) (defScope (top 28)) [] [] (He.ga K "_law_mix") fd) : FnOk PW w K mg base (L2.CX PW w) 1 (He.ga K "_law_mix") fd p__law_mix (toSp (G K) 2 f__law_mix) :=
  def_ok (G := G K) (m := m__law_mix) (N := N__law_mix) F sc__law_mix fun cdv A outer s H E co => show QSs _ _ _ _ _ (_ : DS) from
  (qss_cons (qs_asg (i := 2) (qe_op o_mod (qe_callTy on_int rfl Z.n_int PyProof.Rows.Boot.int (qa_cons (qe_op (o_add false) (qe_op (o_add false) (qe_op (o_mul false) (qe_var 0) qe_int) (qe_op (o_mul false) (qe_var 1) qe_int)) qe_int) qa_nil)) qe_int) co.nd)
  (qss_cons (qs_asg (i := 2) (qe_op o_mod (qe_callTy on_int rfl Z.n_int PyProof.Rows.Boot.int (qa_cons (qe_op (o_add false) (qe_op (o_add false) (qe_op (o_mul false) (qe_var 2) (qe_var 2)) (qe_op (o_mul false) (qe_var 1) qe_int)) qe_int) qa_nil)) qe_int) co.nd)
  (qss_cons (qs_asg (i := 2) (qe_op o_mod (qe_callTy on_int rfl Z.n_int PyProof.Rows.Boot.int (qa_cons (qe_op (o_add false) (qe_op (o_add false) (qe_op (o_mul false) (qe_var 2) (qe_var 2)) (qe_op (o_mul false) (qe_var 0) qe_int)) qe_int) qa_nil)) qe_int) co.nd)
  (qss_one (qs_ret (qe_op o_div (qe_var 2) qe_int))))))

theorem cal__law_mix (Z : Fx K mg) : CalD (G K) PW w K mg base 1 "_law_mix" f__law_mix 2 [] := by
  obtain ⟨fd, F⟩ := Z.d__law_mix
  exact ⟨⟨_, fd, _, [], [], ok__law_mix Z F, Z.g__law_mix, F.kp, F.bindsN fun _ _ _ _ _ _ us hl => match us, hl with | [_, _], _ => rfl, .nil, fun _ => rfl⟩⟩

/-! _law_draw -/
abbrev N__law_draw : List PySem.Str := ["_law_state", "_law_many", "_law_value", "_law_cell"]
abbrev p__law_draw : List PySem.Str := ["_law_state", "_law_many"]
theorem sc__law_draw : FnScope N__law_draw p__law_draw (defScope (top 29)) := ⟨rfl, rfl, rfl, by decide +kernel, rfl, by decide +kernel, by decide +kernel⟩
theorem ok__law_draw (Z : Fx K mg) {fd : FuncData} (F : FunD K "_law_draw" "_law_draw" (defArgs (top 29)) (defBody (top 29)) (defScope (top 29)) [] [] (He.ga K "_law_draw") fd) : FnOk PW w K mg base (L2.CX PW w) 2 (He.ga K "_law_draw") fd p__law_draw (toSp (G K) 2 f__law_draw) :=
  def_ok (G := G K) (m := m__law_draw) (N := N__law_draw) F sc__law_draw fun cdv A outer s H E co => show QSs _ _ _ _ _ (_ : DS) from
  (qss_cons (qs_set co.room.units (qe_var 0) (qe_str [99, 111, 117, 110, 116]) (qe_op (o_add false) (qe_ix (Nat.lt_of_le_of_lt (Nat.add_le_add_left (by decide) _) co.room.units) (qe_var 0) (qe_str [99, 111, 117, 110, 116])) qe_int))
  (qss_cons (qs_if (qt_w (qw_and (qt_cmp (o_eq co.room.units) (qe_ix (Nat.lt_of_le_of_lt (Nat.add_le_add_left (by decide) _) co.room.units) (qe_var 0) (qe_str [114, 101, 115, 116])) qe_int) (qw_and1 (qt_cmp o_lt (qe_ix (Nat.lt_of_le_of_lt (Nat.add_le_add_left (by decide) _) co.room.units) (qe_var 0) (qe_str [97, 116])) (qe_callB on_len rfl Z.n_len PyProof.Rows.Boot.len (qa_cons (qe_ix (Nat.lt_of_le_of_lt (Nat.add_le_add_left (by decide) _) co.room.units) (qe_var 0) (qe_str [99, 101, 108, 108, 115])) qa_nil)))))) (qss_cons (qs_asg (i := 3) (qe_callB on_abs rfl Z.n_abs PyProof.Rows.Boot.abs (qa_cons (qe_ix (Nat.lt_of_le_of_lt (Nat.add_le_add_left (by decide) _) co.room.units) (qe_ix (Nat.lt_of_le_of_lt (Nat.add_le_add_left (by decide) _) co.room.units) (qe_var 0) (qe_str [99, 101, 108, 108, 115])) (qe_ix (Nat.lt_of_le_of_lt (Nat.add_le_add_left (by decide) _) co.room.units) (qe_var 0) (qe_str [97, 116]))) qa_nil)) co.nd)
  (qss_cons (qs_set co.room.units (qe_var 0) (qe_str [97, 116]) (qe_op (o_add false) (qe_ix (Nat.lt_of_le_of_lt (Nat.add_le_add_left (by decide) _) co.room.units) (qe_var 0) (qe_str [97, 116])) qe_int))
  (qss_cons (qs_if (qt_cmp o_lt (qe_var 3) (qe_op o_pow qe_int qe_int)) (qss_one (qs_ret (qe_op o_mod (qe_callTy on_int rfl Z.n_int PyProof.Rows.Boot.int (qa_cons (qe_var 3) qa_nil)) (qe_var 1)))) qss_nil)
  (qss_one (qs_set co.room.units (qe_var 0) (qe_str [114, 101, 115, 116]) (qe_var 3)))))) qss_nil)
  (qss_cons (qs_if (qt_cmp o_gt (qe_ix (Nat.lt_of_le_of_lt (Nat.add_le_add_left (by decide) _) co.room.units) (qe_var 0) (qe_str [114, 101, 115, 116])) qe_int) (qss_cons (qs_asg (i := 2) (qe_op o_mod (qe_callTy on_int rfl Z.n_int PyProof.Rows.Boot.int (qa_cons (qe_ix (Nat.lt_of_le_of_lt (Nat.add_le_add_left (by decide) _) co.room.units) (qe_var 0) (qe_str [114, 101, 115, 116])) qa_nil)) (qe_var 1)) co.nd)
  (qss_cons (qs_set co.room.units (qe_var 0) (qe_str [114, 101, 115, 116]) (qe_op o_div (qe_ix (Nat.lt_of_le_of_lt (Nat.add_le_add_left (by decide) _) co.room.units) (qe_var 0) (qe_str [114, 101, 115, 116])) (qe_var 1)))
  (qss_one (qs_ret (qe_var 2))))) qss_nil)
  (qss_cons (qs_if (qt_cmp (o_eq co.room.units) (qe_callB on_len rfl Z.n_len PyProof.Rows.Boot.len (qa_cons (qe_ix (Nat.lt_of_le_of_lt (Nat.add_le_add_left (by decide) _) co.room.units) (qe_var 0) (qe_str [99, 101, 108, 108, 115])) qa_nil)) qe_int) (qss_one (qs_ret (qe_op o_mod (qe_callTy on_int rfl Z.n_int PyProof.Rows.Boot.int (qa_cons (qe_ix (Nat.lt_of_le_of_lt (Nat.add_le_add_left (by decide) _) co.room.units) (qe_var 0) (qe_str [99, 111, 117, 110, 116])) qa_nil)) (qe_var 1)))) qss_nil)
  (qss_one (qs_ret (qe_op o_mod (qe_callTy on_int rfl Z.n_int PyProof.Rows.Boot.int (qa_cons (qe_call (cal__law_mix Z) co.room co.pas (by decide) rfl (qa_cons (qe_ix (Nat.lt_of_le_of_lt (Nat.add_le_add_left (by decide) _) co.room.units) (qe_var 0) (qe_str [115, 101, 101, 100])) (qa_cons (qe_ix (Nat.lt_of_le_of_lt (Nat.add_le_add_left (by decide) _) co.room.units) (qe_var 0) (qe_str [99, 111, 117, 110, 116])) qa_nil))) qa_nil)) (qe_var 1))))))))

theorem cal__law_draw (Z : Fx K mg) : CalD (G K) PW w K mg base 2 "_law_draw" f__law_draw 2 [] := by
  obtain ⟨fd, F⟩ := Z.d__law_draw
  exact ⟨⟨_, fd, _, [], [], ok__law_draw Z F, Z.g__law_draw, F.kp, F.bindsN fun _ _ _ _ _ _ us hl => match us, hl with | [_, _], _ => rfl, .nil, fun _ => rfl⟩⟩

theorem mak_Drill_3 (Z : Fx K mg) : MakD (G K) PW w K mg base 4 "Drill" 8 f_Drill_init 5 [(.int 0)] := by
  obtain ⟨fd, F⟩ := Z.d_Drill_init
  obtain ⟨ds, h1, h2⟩ := F.binds0 4 (ps := ["self", "pipes", "rows", "places", "turning"]) (by decide) rfl (fun D doc pm an cdv ct us ks l1 l2 => match us, ks, l1, l2 with
    | [_, _, _, _], [_], _, _ => ⟨_, _, _, _, _, _, rfl, rfl, rfl⟩)
  exact ⟨⟨_, fd, _, ds, _, ok_Drill_init Z F, Z.mk_Drill, Z.g_Drill, h2, h1, fun _ => ⟨_, _, rfl, rfl, rfl⟩⟩⟩

/-! Field.__init__ -/
abbrev N_Field_init : List PySem.Str := ["self", "drill", "row"]
abbrev p_Field_init : List PySem.Str := ["self", "drill"]
theorem sc_Field_init : FnScope N_Field_init p_Field_init (defScope (mth 22 0)) := ⟨rfl, rfl, rfl, by decide +kernel, rfl, by decide +kernel, by decide +kernel⟩
theorem ok_Field_init (Z : Fx K mg) {fd : FuncData} (F : FunD K "__init__" "Field.__init__" (defArgs (mth 22 0)) (defBody (mth 22 0)) (defScope (mth 22 0)) [] [] (He.ma K (He.ga K "Field") "__init__") fd) : FnOk PW w K mg base (L2.CX PW w) 1 (He.ma K (He.ga K "Field") "__init__") fd p_Field_init (toSp (G K) 2 f_Field_init) :=
  def_ok (G := G K) (m := m_Field_init) (N := N_Field_init) F sc_Field_init fun cdv A outer s H E co => show QSs _ _ _ _ _ (_ : DS) from
  (qss_cons (qs_fld (fld_drill Z) (qe_var 0) (qe_var 1))
  (qss_one (qs_fld (fld_kinds Z) (qe_var 0) (qe_compS co.calm co.nd (qi_range1 (qe_fld (fld_rows Z) (qe_var 1)) rfl Z.n_range) (own := [("row", 2)]) (show BlkOk N_Field_init (defScope (mth 22 0)) _ _ from ⟨rfl, by decide +kernel, by decide +kernel, by decide +kernel, by decide +kernel⟩) (fun s H C cl fp => (qg_name co.nd)) (fun s H C cl fp => qts_nil) (fun s H C cl fp => (qe_op (o_mul true) (qe_lst false (qa_cons (qe_str [117, 110, 115, 101, 101, 110]) qa_nil)) (qe_fld (fld_places Z) (qe_var 1))))))))

theorem mak_Field_1 (Z : Fx K mg) : MakD (G K) PW w K mg base 1 "Field" 11 f_Field_init 2 [] := by
  obtain ⟨fd, F⟩ := Z.d_Field_init
  exact ⟨⟨_, fd, _, [], [], ok_Field_init Z F, Z.mk_Field, Z.g_Field, F.bindsN fun _ _ _ _ _ _ us hl => match us, hl with | [_, _], _ => rfl, .nil, fun _ => rfl⟩⟩

/-! _law_numbers -/
abbrev N__law_numbers : List PySem.Str := ["_law_state", "_law_gap", "_law_longest", "_law_shortest"]
abbrev p__law_numbers : List PySem.Str := ["_law_state"]
theorem sc__law_numbers : FnScope N__law_numbers p__law_numbers (defScope (top 31)) := ⟨rfl, rfl, rfl, by decide +kernel, rfl, by decide +kernel, by decide +kernel⟩
theorem ok__law_numbers (Z : Fx K mg) {fd : FuncData} (F : FunD K "_law_numbers" "_law_numbers" (defArgs (top 31)) (defBody (top 31)) (defScope (top 31)) [] [] (He.ga K "_law_numbers") fd) : FnOk PW w K mg base (L2.CX PW w) 3 (He.ga K "_law_numbers") fd p__law_numbers (toSp (G K) 1 f__law_numbers) :=
  def_ok (G := G K) (m := m__law_numbers) (N := N__law_numbers) F sc__law_numbers fun cdv A outer s H E co => show QSs _ _ _ _ _ (_ : DS) from
  (qss_cons (qs_asg (i := 3) (qe_op (o_add false) qe_int (qe_call (cal__law_draw Z) co.room co.pas (by decide) rfl (qa_cons (qe_var 0) (qa_cons qe_int qa_nil)))) co.nd)
  (qss_cons (qs_asg (i := 2) (qe_op (o_add false) (qe_var 3) (qe_call (cal__law_draw Z) co.room co.pas (by decide) rfl (qa_cons (qe_var 0) (qa_cons qe_int qa_nil)))) co.nd)
  (qss_cons (qs_asg (i := 1) (qe_op (o_add false) qe_int (qe_call (cal__law_draw Z) co.room co.pas (by decide) rfl (qa_cons (qe_var 0) (qa_cons qe_int qa_nil)))) co.nd)
  (qss_cons (qs_if (qt_cmp (o_eq co.room.units) (qe_call (cal__law_draw Z) co.room co.pas (by decide) rfl (qa_cons (qe_var 0) (qa_cons qe_int qa_nil))) qe_int) (qss_cons (qs_asg (i := 3) (qe_op (o_add false) qe_int (qe_call (cal__law_draw Z) co.room co.pas (by decide) rfl (qa_cons (qe_var 0) (qa_cons qe_int qa_nil)))) co.nd)
  (qss_cons (qs_asg (i := 2) (qe_op (o_add false) (qe_var 3) (qe_call (cal__law_draw Z) co.room co.pas (by decide) rfl (qa_cons (qe_var 0) (qa_cons (qe_op o_sub qe_int (qe_var 3)) qa_nil)))) co.nd)
  (qss_one (qs_asg (i := 1) (qe_op (o_add false) qe_int (qe_call (cal__law_draw Z) co.room co.pas (by decide) rfl (qa_cons (qe_var 0) (qa_cons qe_int qa_nil)))) co.nd)))) qss_nil)
  (qss_one (qs_ret (qe_lst false (qa_cons (qe_var 3) (qa_cons (qe_var 2) (qa_cons (qe_var 1) qa_nil))))))))))

theorem cal__law_numbers (Z : Fx K mg) : CalD (G K) PW w K mg base 3 "_law_numbers" f__law_numbers 1 [] := by
  obtain ⟨fd, F⟩ := Z.d__law_numbers
  exact ⟨⟨_, fd, _, [], [], ok__law_numbers Z F, Z.g__law_numbers, F.kp, F.bindsN fun _ _ _ _ _ _ us hl => match us, hl with | [_], _ => rfl, .nil, fun _ => rfl⟩⟩

/-! Rules.__init__ -/
abbrev N_Rules_init : List PySem.Str := ["self", "least", "most", "rest"]
abbrev p_Rules_init : List PySem.Str := ["self", "least", "most", "rest"]
theorem sc_Rules_init : FnScope N_Rules_init p_Rules_init (defScope (mth 25 0)) := ⟨rfl, rfl, rfl, by decide +kernel, rfl, by decide +kernel, by decide +kernel⟩
theorem ok_Rules_init (Z : Fx K mg) {fd : FuncData} (F : FunD K "__init__" "Rules.__init__" (defArgs (mth 25 0)) (defBody (mth 25 0)) (defScope (mth 25 0)) [] [("least", .int 1), ("most", .int 16), ("rest", .int 1)] (He.ma K (He.ga K "Rules") "__init__") fd) : FnOk PW w K mg base (L2.CX PW w) 4 (He.ma K (He.ga K "Rules") "__init__") fd p_Rules_init (toSp (G K) 4 f_Rules_init) :=
  def_ok (G := G K) (m := m_Rules_init) (N := N_Rules_init) F sc_Rules_init fun cdv A outer s H E co => show QSs _ _ _ _ _ (_ : DS) from
  (qss_cons (qs_expr (qe_call (cal_within Z) co.room co.pas (by decide) rfl (qa_cons (qe_str [108, 101, 97, 115, 116]) (qa_cons (qe_var 1) (qa_cons qe_int (qa_cons (qe_glo (gloI_ok Z.ci_LONGEST) rfl) qa_nil))))))
  (qss_cons (qs_expr (qe_call (cal_within Z) co.room co.pas (by decide) rfl (qa_cons (qe_str [109, 111, 115, 116]) (qa_cons (qe_var 2) (qa_cons (qe_var 1) (qa_cons (qe_glo (gloI_ok Z.ci_LONGEST) rfl) qa_nil))))))
  (qss_cons (qs_expr (qe_call (cal_within Z) co.room co.pas (by decide) rfl (qa_cons (qe_str [114, 101, 115, 116]) (qa_cons (qe_var 3) (qa_cons qe_int (qa_cons (qe_glo (gloI_ok Z.ci_LONGEST) rfl) qa_nil))))))
  (qss_cons (qs_fld (fld_least Z) (qe_var 0) (qe_var 1))
  (qss_cons (qs_fld (fld_most Z) (qe_var 0) (qe_var 2))
  (qss_one (qs_fld (fld_rest Z) (qe_var 0) (qe_var 3))))))))

theorem mkk_Rules_0_least_most_rest (Z : Fx K mg) : MakK (G K) PW w K mg base 4 "Rules" 12 f_Rules_init 4 0 ["least", "most", "rest"] mkk_Rules_0_least_most_rest_g := by
  obtain ⟨fd, F⟩ := Z.d_Rules_init
  obtain ⟨mv, h⟩ := F.kbinds0 (ps := ["self", "least", "most", "rest"]) 1 ["least", "most", "rest"] [] (fun us mv ws => us ++ ws) (by decide) (by simp) (fun r _ z => r.append z) (fun D doc pm an cdv ct us mv ws l1 l2 l3 => match us, mv, ws, l1, l2, l3 with
    | [_], [], [_, _, _], _, _, _ => rfl)
  exact ⟨⟨_, fd, _, _, _, ok_Rules_init Z F, Z.mk_Rules, Z.g_Rules, h, fun v vs zs => ⟨vs ++ zs, rfl, fun B A xs ys r1 r2 => RepRs.append r2 r1⟩⟩⟩

/-! Inquiry.__init__ -/
abbrev N_Inquiry_init : List PySem.Str := ["self", "field", "rules", "limit"]
abbrev p_Inquiry_init : List PySem.Str := ["self", "field", "rules", "limit"]
theorem sc_Inquiry_init : FnScope N_Inquiry_init p_Inquiry_init (defScope (mth 19 1)) := ⟨rfl, rfl, rfl, by decide +kernel, rfl, by decide +kernel, by decide +kernel⟩
theorem ok_Inquiry_init (Z : Fx K mg) {fd : FuncData} (F : FunD K "__init__" "Inquiry.__init__" (defArgs (mth 19 1)) (defBody (mth 19 1)) (defScope (mth 19 1)) [] [("limit", .int 3)] (He.ma K (He.ga K "Inquiry") "__init__") fd) : FnOk PW w K mg base (L2.CX PW w) 4 (He.ma K (He.ga K "Inquiry") "__init__") fd p_Inquiry_init (toSp (G K) 4 f_Inquiry_init) :=
  def_ok (G := G K) (m := m_Inquiry_init) (N := N_Inquiry_init) F sc_Inquiry_init fun cdv A outer s H E co => show QSs _ _ _ _ _ (_ : DS) from
  (qss_cons (qs_expr (qe_call (cal_within Z) co.room co.pas (by decide) rfl (qa_cons (qe_str [108, 105, 109, 105, 116]) (qa_cons (qe_var 3) (qa_cons qe_int (qa_cons (qe_con (gl_Inquiry Z) Z.con_Inquiry_MOST_LIMIT rfl) qa_nil))))))
  (qss_cons (qs_fld (fld_field Z) (qe_var 0) (qe_var 1))
  (qss_cons (qs_fld (fld_rules Z) (qe_var 0) (qe_var 2))
  (qss_one (qs_fld (fld_bound Z) (qe_var 0) (qe_var 3))))))

theorem mak_Inquiry_2 (Z : Fx K mg) : MakD (G K) PW w K mg base 4 "Inquiry" 10 f_Inquiry_init 4 [(.int 3)] := by
  obtain ⟨fd, F⟩ := Z.d_Inquiry_init
  obtain ⟨ds, h1, h2⟩ := F.binds0 3 (ps := ["self", "field", "rules", "limit"]) (by decide) rfl (fun D doc pm an cdv ct us ks l1 l2 => match us, ks, l1, l2 with
    | [_, _, _], [_], _, _ => ⟨_, _, _, _, _, _, rfl, rfl, rfl⟩)
  exact ⟨⟨_, fd, _, ds, _, ok_Inquiry_init Z F, Z.mk_Inquiry, Z.g_Inquiry, h2, h1, fun _ => ⟨_, _, rfl, rfl, rfl⟩⟩⟩

theorem mkk_Inquiry_2_limit (Z : Fx K mg) : MakK (G K) PW w K mg base 4 "Inquiry" 10 f_Inquiry_init 4 2 ["limit"] mkk_Inquiry_2_limit_g := by
  obtain ⟨fd, F⟩ := Z.d_Inquiry_init
  obtain ⟨mv, h⟩ := F.kbinds0 (ps := ["self", "field", "rules", "limit"]) 3 ["limit"] [] (fun us mv ws => us ++ ws) (by decide) (by simp) (fun r _ z => r.append z) (fun D doc pm an cdv ct us mv ws l1 l2 l3 => match us, mv, ws, l1, l2, l3 with
    | [_, _, _], [], [_], _, _, _ => rfl)
  exact ⟨⟨_, fd, _, _, _, ok_Inquiry_init Z F, Z.mk_Inquiry, Z.g_Inquiry, h, fun v vs zs => ⟨vs ++ zs, rfl, fun B A xs ys r1 r2 => RepRs.append r2 r1⟩⟩⟩

/-! Inquiry.limit -/
abbrev N_Inquiry_limit : List PySem.Str := ["self"]
abbrev p_Inquiry_limit : List PySem.Str := ["self"]
theorem sc_Inquiry_limit : FnScope N_Inquiry_limit p_Inquiry_limit (defScope (mth 19 2)) := ⟨rfl, rfl, rfl, by decide +kernel, rfl, by decide +kernel, by decide +kernel⟩
theorem ok_Inquiry_limit (Z : Fx K mg) {fd : FuncData} (F : FunD K "limit" "Inquiry.limit" (defArgs (mth 19 2)) (defBody (mth 19 2)) (defScope (mth 19 2)) [] [] (gA K "Inquiry" "limit") fd) : FnOk PW w K mg base (L2.CX PW w) 1 (gA K "Inquiry" "limit") fd p_Inquiry_limit (toSp (G K) 1 f_Inquiry_limit) :=
  def_ok (G := G K) (m := m_Inquiry_limit) (N := N_Inquiry_limit) F sc_Inquiry_limit fun cdv A outer s H E co => show QSs _ _ _ _ _ (_ : DS) from
  (qss_one (qs_ret (qe_fld (fld_bound Z) (qe_var 0))))

theorem prop_Inquiry_limit (Z : Fx K mg) : PropD (G K) PW w K mg base 1 10 "limit" f_Inquiry_limit := by
  obtain ⟨fd, F⟩ := Z.d_Inquiry_limit
  exact ⟨⟨_, _, fd, _, ok_Inquiry_limit Z F, Z.cls_Inquiry, Z.p_Inquiry_limit, F.bindsN fun _ _ _ _ _ _ us hl => match us, hl with | [_], _ => rfl⟩⟩

/-! _law_number -/
abbrev N__law_number : List PySem.Str := ["_law_x"]
abbrev p__law_number : List PySem.Str := ["_law_x"]
theorem sc__law_number : FnScope N__law_number p__law_number (defScope (top 30)) := ⟨rfl, rfl, rfl, by decide +kernel, rfl, by decide +kernel, by decide +kernel⟩
theorem ok__law_number (Z : Fx K mg) {fd : FuncData} (F : FunD K "_law_number" "_law_number" (defArgs (top 30)) (defBody (top 30)) (defScope (top 30)) [] [] (He.ga K "_law_number") fd) : FnOk PW w K mg base (L2.CX PW w) 1 (He.ga K "_law_number") fd p__law_number (toSp (G K) 1 f__law_number) :=
  def_ok (G := G K) (m := m__law_number) (N := N__law_number) F sc__law_number fun cdv A outer s H E co => show QSs _ _ _ _ _ (_ : DS) from
  (qss_one (qs_ret (qe_and (qe_isTy .int (qe_var 0) rfl Z.n_isinstance rfl Z.n_int PyProof.Rows.Boot.int) (qe_one (qe_not (qe_isTy .bool (qe_var 0) rfl Z.n_isinstance rfl Z.n_bool PyProof.Rows.Boot.bool))))))

theorem cal__law_number (Z : Fx K mg) : CalD (G K) PW w K mg base 1 "_law_number" f__law_number 1 [] := by
  obtain ⟨fd, F⟩ := Z.d__law_number
  exact ⟨⟨_, fd, _, [], [], ok__law_number Z F, Z.g__law_number, F.kp, F.bindsN fun _ _ _ _ _ _ us hl => match us, hl with | [_], _ => rfl, .nil, fun _ => rfl⟩⟩

/-! OutOfField: its __init__ -/
theorem er_OutOfField (Z : Fx K mg) : Err2 (G K) PW w K mg base 1 "OutOfField" 3 m0_OutOfField :=
  err2_mk (k := 0) (ar := ((defArgs (mth 5 0)).args.headD ⟨"", none, ⟨0, 0, 0, 0⟩⟩)) Z.s_OutOfField rfl Z.g_OutOfField rfl Z.na_OutOfField_row Z.na_OutOfField_place (NdefX.nscope_by (by decide +kernel)) (by decide +kernel) rfl rfl rfl (fun _ _ _ _ _ _ _ _ _ us hl => match us, hl with | [_, _, _], _ => rfl)
    fun X hN hsc hP hK hmg hcalm => by
      obtain ⟨x1, x2, x3, x4, x5, x6, x7, x8, x9, env, x11, x12, x13, x14, x15, x16, x17⟩ := X
      obtain ⟨⟩ := env
      dsimp only at hN hsc hP hK hmg hcalm
      subst hN hsc hP hK hmg hcalm
      exact ⟨(qe_str [99, 101, 108, 108, 32, 111, 117, 116, 115, 105, 100, 101, 32, 111, 102, 32, 116, 104, 101, 32, 102, 105, 101, 108, 100]), rfl, rfl, rfl, rfl, ⟨_, rfl⟩, rfl⟩

/-! Drill.require -/
abbrev N_Drill_require : List PySem.Str := ["self", "row", "place"]
abbrev p_Drill_require : List PySem.Str := ["self", "row", "place"]
theorem sc_Drill_require : FnScope N_Drill_require p_Drill_require (defScope (mth 12 5)) := ⟨rfl, rfl, rfl, by decide +kernel, rfl, by decide +kernel, by decide +kernel⟩
theorem ok_Drill_require (Z : Fx K mg) {fd : FuncData} (F : FunD K "require" "Drill.require" (defArgs (mth 12 5)) (defBody (mth 12 5)) (defScope (mth 12 5)) [] [] (He.ma K (He.ga K "Drill") "require") fd) : FnOk PW w K mg base (L2.CX PW w) 3 (He.ma K (He.ga K "Drill") "require") fd p_Drill_require (toSp (G K) 3 f_Drill_require) :=
  def_ok (G := G K) (m := m_Drill_require) (N := N_Drill_require) F sc_Drill_require fun cdv A outer s H E co => show QSs _ _ _ _ _ (_ : DS) from
  (qss_one (qs_if (qt_not (qt_w (qw_and (qt_chain o_le o_lt qe_int (qe_var 1) (qe_fld (fld_rows Z) (qe_var 0))) (qw_and1 (qt_chain o_le o_lt qe_int (qe_var 2) (qe_fld (fld_places Z) (qe_var 0))))))) (qss_one (qs_raise2 co (er_OutOfField Z) (by decide) rfl (qa_cons (qe_var 1) (qa_cons (qe_var 2) qa_nil)))) qss_nil))

theorem met_Drill_require (Z : Fx K mg) : MetD (G K) PW w K mg base 3 8 "require" f_Drill_require 3 [] := by
  obtain ⟨fd, F⟩ := Z.d_Drill_require
  exact ⟨⟨_, fd, _, [], [], ok_Drill_require Z F, Z.cls_Drill, Z.m_Drill_require, F.bindsN fun _ _ _ _ _ _ us hl => match us, hl with | [_, _, _], _ => rfl, .nil, fun _ => rfl⟩, show ("require" : PySem.Str) ∉ nms 8 by decide⟩

/-! Field.__setitem__ -/
abbrev N_Field___setitem__ : List PySem.Str := ["self", "at", "kind", "row", "place"]
abbrev p_Field___setitem__ : List PySem.Str := ["self", "at", "kind"]
theorem sc_Field___setitem__ : FnScope N_Field___setitem__ p_Field___setitem__ (defScope (mth 22 3)) := ⟨rfl, rfl, rfl, by decide +kernel, rfl, by decide +kernel, by decide +kernel⟩
theorem ok_Field___setitem__ (Z : Fx K mg) {fd : FuncData} (F : FunD K "__setitem__" "Field.__setitem__" (defArgs (mth 22 3)) (defBody (mth 22 3)) (defScope (mth 22 3)) [] [] (He.ma K (He.ga K "Field") "__setitem__") fd) : FnOk PW w K mg base (L2.CX PW w) 4 (He.ma K (He.ga K "Field") "__setitem__") fd p_Field___setitem__ (toSp (G K) 3 f_Field___setitem__) :=
  def_ok (G := G K) (m := m_Field___setitem__) (N := N_Field___setitem__) F sc_Field___setitem__ fun cdv A outer s H E co => show QSs _ _ _ _ _ (_ : DS) from
  (qss_cons (qs_unp (qg_tup co.calm (qgs_cons (qg_name co.nd) (qgs_cons (qg_name co.nd) qgs_nil))) (qe_var 1))
  (qss_cons (qs_if (qt_cmp (o_nin2 co.u65) (qe_var 2) (qe_glo (tupB_ok (G := G K) rfl Z.tp_KINDS Z.g_KINDS) rfl)) (qss_one (qs_raise0 co Z.er_BadKind rfl)) qss_nil)
  (qss_cons (qs_expr (qe_meth (qe_fld (fld_drill Z) (qe_var 0)) (met_Drill_require Z) co.room co.pas (by decide) (qa_cons (qe_var 3) (qa_cons (qe_var 4) qa_nil))))
  (qss_one (qs_set co.room.units (qe_ix (Nat.lt_of_le_of_lt (Nat.add_le_add_left (by decide) _) co.room.units) (qe_fld (fld_kinds Z) (qe_var 0)) (qe_var 3)) (qe_var 4) (qe_var 2))))))

theorem own_Field___setitem__ (Z : Fx K mg) : OwnD (G K) PW w K mg base 4 11 "__setitem__" f_Field___setitem__ 3 := by
  obtain ⟨fd, F⟩ := Z.d_Field___setitem__
  exact ⟨⟨_, fd, _, ok_Field___setitem__ Z F, ownB_ok Z.ow_Field___setitem__, F.bindsN fun _ _ _ _ _ _ us hl => match us, hl with | [_, _, _], _ => rfl⟩⟩

/-! Field.__getitem__ -/
abbrev N_Field___getitem__ : List PySem.Str := ["self", "at", "row", "place"]
abbrev p_Field___getitem__ : List PySem.Str := ["self", "at"]
theorem sc_Field___getitem__ : FnScope N_Field___getitem__ p_Field___getitem__ (defScope (mth 22 2)) := ⟨rfl, rfl, rfl, by decide +kernel, rfl, by decide +kernel, by decide +kernel⟩
theorem ok_Field___getitem__ (Z : Fx K mg) {fd : FuncData} (F : FunD K "__getitem__" "Field.__getitem__" (defArgs (mth 22 2)) (defBody (mth 22 2)) (defScope (mth 22 2)) [] [] (He.ma K (He.ga K "Field") "__getitem__") fd) : FnOk PW w K mg base (L2.CX PW w) 4 (He.ma K (He.ga K "Field") "__getitem__") fd p_Field___getitem__ (toSp (G K) 2 f_Field___getitem__) :=
  def_ok (G := G K) (m := m_Field___getitem__) (N := N_Field___getitem__) F sc_Field___getitem__ fun cdv A outer s H E co => show QSs _ _ _ _ _ (_ : DS) from
  (qss_cons (qs_unp (qg_tup co.calm (qgs_cons (qg_name co.nd) (qgs_cons (qg_name co.nd) qgs_nil))) (qe_var 1))
  (qss_cons (qs_expr (qe_meth (qe_fld (fld_drill Z) (qe_var 0)) (met_Drill_require Z) co.room co.pas (by decide) (qa_cons (qe_var 2) (qa_cons (qe_var 3) qa_nil))))
  (qss_one (qs_ret (qe_ix (Nat.lt_of_le_of_lt (Nat.add_le_add_left (by decide) _) co.room.units) (qe_ix (Nat.lt_of_le_of_lt (Nat.add_le_add_left (by decide) _) co.room.units) (qe_fld (fld_kinds Z) (qe_var 0)) (qe_var 2)) (qe_var 3))))))

theorem own_Field___getitem__ (Z : Fx K mg) : OwnD (G K) PW w K mg base 4 11 "__getitem__" f_Field___getitem__ 2 := by
  obtain ⟨fd, F⟩ := Z.d_Field___getitem__
  exact ⟨⟨_, fd, _, ok_Field___getitem__ Z F, ownB_ok Z.ow_Field___getitem__, F.bindsN fun _ _ _ _ _ _ us hl => match us, hl with | [_, _], _ => rfl⟩⟩

/-! Inquiry.limit -/
abbrev N_Inquiry_limit_set : List PySem.Str := ["self", "value"]
abbrev p_Inquiry_limit_set : List PySem.Str := ["self", "value"]
theorem sc_Inquiry_limit_set : FnScope N_Inquiry_limit_set p_Inquiry_limit_set (defScope (mth 19 3)) := ⟨rfl, rfl, rfl, by decide +kernel, rfl, by decide +kernel, by decide +kernel⟩
theorem ok_Inquiry_limit_set (Z : Fx K mg) {fd : FuncData} (F : FunD K "limit" "Inquiry.limit" (defArgs (mth 19 3)) (defBody (mth 19 3)) (defScope (mth 19 3)) [] [] (gS K "Inquiry" "limit") fd) : FnOk PW w K mg base (L2.CX PW w) 4 (gS K "Inquiry" "limit") fd p_Inquiry_limit_set (toSp (G K) 2 f_Inquiry_limit_set) :=
  def_ok (G := G K) (m := m_Inquiry_limit_set) (N := N_Inquiry_limit_set) F sc_Inquiry_limit_set fun cdv A outer s H E co => show QSs _ _ _ _ _ (_ : DS) from
  (qss_cons (qs_expr (qe_call (cal_within Z) co.room co.pas (by decide) rfl (qa_cons (qe_str [108, 105, 109, 105, 116]) (qa_cons (qe_var 1) (qa_cons qe_int (qa_cons (qe_con (gl_Inquiry Z) Z.con_Inquiry_MOST_LIMIT rfl) qa_nil))))))
  (qss_one (qs_fld (fld_bound Z) (qe_var 0) (qe_var 1))))

theorem set_Inquiry_limit (Z : Fx K mg) : SetD (G K) PW w K mg base 4 10 "limit" f_Inquiry_limit_set := by
  obtain ⟨fd, F⟩ := Z.d_Inquiry_limit_set
  exact ⟨⟨_, _, fd, _, ok_Inquiry_limit_set Z F, Z.cls_Inquiry, Z.q_Inquiry_limit, F.bindsN fun _ _ _ _ _ _ us hl => match us, hl with | [_, _], _ => rfl⟩⟩

/-! Inquiry.allow -/
abbrev N_Inquiry_allow : List PySem.Str := ["self", "limit"]
abbrev p_Inquiry_allow : List PySem.Str := ["self", "limit"]
theorem sc_Inquiry_allow : FnScope N_Inquiry_allow p_Inquiry_allow (defScope (mth 19 4)) := ⟨rfl, rfl, rfl, by decide +kernel, rfl, by decide +kernel, by decide +kernel⟩
theorem ok_Inquiry_allow (Z : Fx K mg) {fd : FuncData} (F : FunD K "allow" "Inquiry.allow" (defArgs (mth 19 4)) (defBody (mth 19 4)) (defScope (mth 19 4)) [] [] (He.ma K (He.ga K "Inquiry") "allow") fd) : FnOk PW w K mg base (L2.CX PW w) 7 (He.ma K (He.ga K "Inquiry") "allow") fd p_Inquiry_allow (toSp (G K) 2 f_Inquiry_allow) :=
  def_ok (G := G K) (m := m_Inquiry_allow) (N := N_Inquiry_allow) F sc_Inquiry_allow fun cdv A outer s H E co => show QSs _ _ _ _ _ (_ : DS) from
  (qss_one (qs_propO (qe_var 0) (qe_var 1) (set_Inquiry_limit Z) co.room co.pas (by decide)))

theorem met_Inquiry_allow (Z : Fx K mg) : MetD (G K) PW w K mg base 7 10 "allow" f_Inquiry_allow 2 [] := by
  obtain ⟨fd, F⟩ := Z.d_Inquiry_allow
  exact ⟨⟨_, fd, _, [], [], ok_Inquiry_allow Z F, Z.cls_Inquiry, Z.m_Inquiry_allow, F.bindsN fun _ _ _ _ _ _ us hl => match us, hl with | [_, _], _ => rfl, .nil, fun _ => rfl⟩, show ("allow" : PySem.Str) ∉ nms 10 by decide⟩

/-! _law_allowed -/
abbrev N__law_allowed : List PySem.Str := ["_law_inquiry", "_law_cap", "_law_result", "e"]
abbrev p__law_allowed : List PySem.Str := ["_law_inquiry", "_law_cap"]
theorem sc__law_allowed : FnScope N__law_allowed p__law_allowed (defScope (top 33)) := ⟨rfl, rfl, rfl, by decide +kernel, rfl, by decide +kernel, by decide +kernel⟩
theorem ok__law_allowed (Z : Fx K mg) {fd : FuncData} (F : FunD K "_law_allowed" "_law_allowed" (defArgs (top 33)) (defBody (top 33)) (defScope (top 33)) [] [] (He.ga K "_law_allowed") fd) : FnOk PW w K mg base (L2.CX PW w) 8 (He.ga K "_law_allowed") fd p__law_allowed (toSp (G K) 2 f__law_allowed) :=
  def_ok (G := G K) (m := m__law_allowed) (N := N__law_allowed) F sc__law_allowed fun cdv A outer s H E co => show QSs _ _ _ _ _ (_ : DS) from
  (qss_cons (qs_try co rfl rfl (fun W' pn xe ct => (qss_one (qs_asg (i := 2) (qe_meth (qe_var 0) (met_Inquiry_allow Z) ct.room ct.pas (by decide) (qa_cons (qe_var 1) qa_nil)) ct.nd))) (.as rfl rfl ⟨rfl, by decide, .inl Z.g_BadNumber⟩ (fun c hc => ((relsB_ok Z.rels) c hc 1 (by decide)).1) (fun a oe d pn c xs hc hs hz hf => by obtain rfl : c = 1 := leaf_of (by decide) hc hs; exact (qss_cons (qs_if (qt_w (qw_or (qt_val (qe_isE (isOk Z hc) hz hf rfl Z.n_isinstance rfl (by first | exact Or.inl rfl | exact Or.inr (Or.inl rfl)) (qe_tup (qa_cons (qe_glo (gl_BadKind Z) rfl) (qa_cons (qe_glo (gl_Clash Z) rfl) (qa_cons (qe_glo (gl_NoCase Z) rfl) (qa_cons (qe_glo (gl_OutOfField Z) rfl) (qa_cons (qe_glo (gl_Refused Z) rfl) (qa_cons (qe_glo (gl_Unfit Z) rfl) qa_nil))))))))) (qw_or1 (qt_not (qt_val (qe_isE (isOk Z hc) hz hf rfl Z.n_isinstance rfl (by first | exact Or.inl rfl | exact Or.inr (Or.inl rfl)) (qe_glo (gl_CoulterError Z) rfl))))))) (qss_one (qs_ret (qe_lst false (qa_cons (qe_str [111, 116, 104, 101, 114]) qa_nil)))) qss_nil)
  (qss_one (qs_ret (qe_lst false (qa_cons (qe_str [114, 101, 102, 117, 115, 101, 100]) (qa_cons (qe_errf (exmB_ok Z.exm_BadNumber).2 Z.na_BadNumber_name hz hf rfl (show (nms 1).Nodup by decide) rfl (by first | exact Or.inl rfl | exact Or.inr (Or.inl rfl))) qa_nil))))))) .nil))
  (qss_one (qs_ret (qe_lst false (qa_cons (qe_var 2) qa_nil)))))

theorem cal__law_allowed (Z : Fx K mg) : CalD (G K) PW w K mg base 8 "_law_allowed" f__law_allowed 2 [] := by
  obtain ⟨fd, F⟩ := Z.d__law_allowed
  exact ⟨⟨_, fd, _, [], [], ok__law_allowed Z F, Z.g__law_allowed, F.kp, F.bindsN fun _ _ _ _ _ _ us hl => match us, hl with | [_, _], _ => rfl, .nil, fun _ => rfl⟩⟩

/-! _law_made -/
abbrev N__law_made : List PySem.Str := ["_law_field", "_law_rules", "_law_cap", "_law_inquiry", "e"]
abbrev p__law_made : List PySem.Str := ["_law_field", "_law_rules", "_law_cap"]
theorem sc__law_made : FnScope N__law_made p__law_made (defScope (top 32)) := ⟨rfl, rfl, rfl, by decide +kernel, rfl, by decide +kernel, by decide +kernel⟩
theorem ok__law_made (Z : Fx K mg) {fd : FuncData} (F : FunD K "_law_made" "_law_made" (defArgs (top 32)) (defBody (top 32)) (defScope (top 32)) [] [] (He.ga K "_law_made") fd) : FnOk PW w K mg base (L2.CX PW w) 6 (He.ga K "_law_made") fd p__law_made (toSp (G K) 3 f__law_made) :=
  def_ok (G := G K) (m := m__law_made) (N := N__law_made) F sc__law_made fun cdv A outer s H E co => show QSs _ _ _ _ _ (_ : DS) from
  (qss_cons (qs_try co rfl rfl (fun W' pn xe ct => (qss_one (qs_asg (i := 3) (qe_makek false (mkk_Inquiry_2_limit Z) ct.room ct.pas (by decide) rfl (qa_cons (qe_var 0) (qa_cons (qe_var 1) qa_nil)) (qk_cons (qe_var 2) qk_nil) (al_cons (al_cons al_nil)) (al_cons al_nil)) ct.nd))) (.as rfl rfl ⟨rfl, by decide, .inl Z.g_BadNumber⟩ (fun c hc => ((relsB_ok Z.rels) c hc 1 (by decide)).1) (fun a oe d pn c xs hc hs hz hf => by obtain rfl : c = 1 := leaf_of (by decide) hc hs; exact (qss_cons (qs_if (qt_w (qw_or (qt_val (qe_isE (isOk Z hc) hz hf rfl Z.n_isinstance rfl (by first | exact Or.inl rfl | exact Or.inr (Or.inl rfl)) (qe_tup (qa_cons (qe_glo (gl_BadKind Z) rfl) (qa_cons (qe_glo (gl_Clash Z) rfl) (qa_cons (qe_glo (gl_NoCase Z) rfl) (qa_cons (qe_glo (gl_OutOfField Z) rfl) (qa_cons (qe_glo (gl_Refused Z) rfl) (qa_cons (qe_glo (gl_Unfit Z) rfl) qa_nil))))))))) (qw_or1 (qt_not (qt_val (qe_isE (isOk Z hc) hz hf rfl Z.n_isinstance rfl (by first | exact Or.inl rfl | exact Or.inr (Or.inl rfl)) (qe_glo (gl_CoulterError Z) rfl))))))) (qss_one (qs_ret (qe_lst false (qa_cons (qe_str [111, 116, 104, 101, 114]) qa_nil)))) qss_nil)
  (qss_one (qs_ret (qe_lst false (qa_cons (qe_str [114, 101, 102, 117, 115, 101, 100]) (qa_cons (qe_errf (exmB_ok Z.exm_BadNumber).2 Z.na_BadNumber_name hz hf rfl (show (nms 1).Nodup by decide) rfl (by first | exact Or.inl rfl | exact Or.inr (Or.inl rfl))) qa_nil))))))) .nil))
  (qss_one (qs_ret (qe_lst false (qa_cons (qe_prop (qe_var 3) (prop_Inquiry_limit Z) co.room (by decide)) qa_nil)))))

theorem cal__law_made (Z : Fx K mg) : CalD (G K) PW w K mg base 6 "_law_made" f__law_made 3 [] := by
  obtain ⟨fd, F⟩ := Z.d__law_made
  exact ⟨⟨_, fd, _, [], [], ok__law_made Z F, Z.g__law_made, F.kp, F.bindsN fun _ _ _ _ _ _ us hl => match us, hl with | [_, _, _], _ => rfl, .nil, fun _ => rfl⟩⟩

/-! law -/
abbrev N_law : List PySem.Str := ["_law_script", "_law_state", "_law_drill", "_law_field", "_law_numbers_here", "_law_rules", "_law_inquiry", "_law_other", "_law_kept", "_law_now", "_law_k", "_law_done", "_law_cap", "_law_made_here"]
abbrev p_law : List PySem.Str := ["_law_script"]
theorem sc_law : FnScope N_law p_law (defScope (top 34)) := ⟨rfl, rfl, rfl, by decide +kernel, rfl, by decide +kernel, by decide +kernel⟩
theorem ok_law (Z : Fx K mg) {fd : FuncData} (F : FunD K "law" "law" (defArgs (top 34)) (defBody (top 34)) (defScope (top 34)) [] [] (He.ga K "law") fd) : FnOk PW w K mg base (L2.CX PW w) 9 (He.ga K "law") fd p_law (toSp (G K) 1 f_law) :=
  def_ok (G := G K) (m := m_law) (N := N_law) F sc_law fun cdv A outer s H E co => show QSs _ _ _ _ _ (_ : DS) from
  (qss_cons (qs_asg (i := 1) (qe_call (cal__law_begin Z) co.room co.pas (by decide) rfl (qa_cons (qe_var 0) qa_nil)) co.nd)
  (qss_cons (qs_asg (i := 2) (qe_make true (mak_Drill_3 Z) co.room co.pas (by decide) rfl (qa_cons (qe_op (o_add false) qe_int (qe_call (cal__law_draw Z) co.room co.pas (by decide) rfl (qa_cons (qe_var 1) (qa_cons qe_int qa_nil)))) (qa_cons (qe_op (o_add false) qe_int (qe_call (cal__law_draw Z) co.room co.pas (by decide) rfl (qa_cons (qe_var 1) (qa_cons qe_int qa_nil)))) (qa_cons (qe_op (o_add false) qe_int (qe_call (cal__law_draw Z) co.room co.pas (by decide) rfl (qa_cons (qe_var 1) (qa_cons qe_int qa_nil)))) qa_nil)))) co.nd)
  (qss_cons (qs_asg (i := 3) (qe_make false (mak_Field_1 Z) co.room co.pas (by decide) rfl (qa_cons (qe_var 2) qa_nil)) co.nd)
  (qss_cons (qs_asg (i := 4) (qe_call (cal__law_numbers Z) co.room co.pas (by decide) rfl (qa_cons (qe_var 1) qa_nil)) co.nd)
  (qss_cons (qs_asg (i := 5) (qe_makek0 true (mkk_Rules_0_least_most_rest Z) co.room co.pas (by decide) rfl (qk_cons (qe_ix (Nat.lt_of_le_of_lt (Nat.add_le_add_left (by decide) _) co.room.units) (qe_var 4) qe_int) (qk_cons (qe_ix (Nat.lt_of_le_of_lt (Nat.add_le_add_left (by decide) _) co.room.units) (qe_var 4) qe_int) (qk_cons (qe_ix (Nat.lt_of_le_of_lt (Nat.add_le_add_left (by decide) _) co.room.units) (qe_var 4) qe_int) qk_nil))) (al_cons (al_cons (al_cons al_nil)))) co.nd)
  (qss_cons (qs_asg (i := 6) (qe_make false (mak_Inquiry_2 Z) co.room co.pas (by decide) rfl (qa_cons (qe_var 3) (qa_cons (qe_var 5) qa_nil))) co.nd)
  (qss_cons (qs_asg (i := 7) (qe_makek false (mkk_Inquiry_2_limit Z) co.room co.pas (by decide) rfl (qa_cons (qe_var 3) (qa_cons (qe_var 5) qa_nil)) (qk_cons (qe_call (cal__law_draw Z) co.room co.pas (by decide) rfl (qa_cons (qe_var 1) (qa_cons qe_int qa_nil))) qk_nil) (al_cons (al_cons al_nil)) (al_cons al_nil)) co.nd)
  (qss_cons (qs_asg (i := 8) (qe_prop (qe_var 7) (prop_Inquiry_limit Z) co.room (by decide)) co.nd)
  (qss_cons (qs_asg (i := 9) qe_int co.nd)
  (qss_cons (qs_if (qt_w (qw_or (qt_not (qt_truth (qe_call (cal__law_number Z) co.room co.pas (by decide) rfl (qa_cons (qe_prop (qe_var 6) (prop_Inquiry_limit Z) co.room (by decide)) qa_nil)))) (qw_or (qt_cmp (o_ne co.room.units) (qe_prop (qe_var 6) (prop_Inquiry_limit Z) co.room (by decide)) qe_int) (qw_or1 (qt_cmp (o_ne co.room.units) (qe_con (gl_Inquiry Z) Z.con_Inquiry_MOST_LIMIT rfl) qe_int))))) (qss_one (qs_ret qe_bl)) qss_nil)
  (qss_cons (qs_setO (qe_var 3) (qe_tup (qa_cons qe_int (qa_cons qe_int qa_nil))) (qe_str [98, 97, 114, 101]) (own_Field___setitem__ Z) co.room co.pas (by decide))
  (qss_cons (qs_if (qt_w (qw_or (qt_cmp (o_ne co.room.units) (qe_getO (qe_fld (fld_field Z) (qe_var 6)) (qe_tup (qa_cons qe_int (qa_cons qe_int qa_nil))) (own_Field___getitem__ Z) co.room co.pas (by decide)) (qe_str [98, 97, 114, 101])) (qw_or1 (qt_cmp (o_ne co.room.units) (qe_lst false (qa_cons (qe_fld (fld_least Z) (qe_fld (fld_rules Z) (qe_var 6))) (qa_cons (qe_fld (fld_most Z) (qe_fld (fld_rules Z) (qe_var 6))) (qa_cons (qe_fld (fld_rest Z) (qe_fld (fld_rules Z) (qe_var 6))) qa_nil)))) (qe_var 4))))) (qss_one (qs_ret qe_bl)) qss_nil)
  (qss_cons (qs_for co.own co.calm (qi_range1 (qe_call (cal__law_draw Z) co.room co.pas (by decide) rfl (qa_cons (qe_var 1) (qa_cons qe_int qa_nil))) rfl Z.n_range) (qg_name co.nd) (qss_cons (qs_asg (i := 12) (qe_op o_sub (qe_call (cal__law_draw Z) co.room co.pas (by decide) rfl (qa_cons (qe_var 1) (qa_cons qe_int qa_nil))) qe_int) co.nd)
  (qss_cons (qs_if (qt_cmp (o_eq co.room.units) (qe_call (cal__law_draw Z) co.room co.pas (by decide) rfl (qa_cons (qe_var 1) (qa_cons qe_int qa_nil))) qe_int) (qss_one (qs_asg (i := 12) (qe_op o_sub (qe_call (cal__law_draw Z) co.room co.pas (by decide) rfl (qa_cons (qe_var 1) (qa_cons (qe_op (o_add false) (qe_op (o_mul false) qe_int (qe_op o_pow qe_int qe_int)) qe_int) qa_nil))) (qe_op o_pow qe_int qe_int)) co.nd)) qss_nil)
  (qss_cons (qs_asg (i := 13) (qe_lst false (qa_cons (qe_var 12) qa_nil)) co.nd)
  (qss_cons (qs_asg (i := 11) (qe_lst false (qa_cons qe_non qa_nil)) co.nd)
  (qss_cons (qs_if (qt_w (qw_or (qt_cmp o_lt (qe_var 12) qe_int) (qw_or1 (qt_cmp o_gt (qe_var 12) qe_int)))) (qss_cons (qs_asg (i := 13) (qe_lst false (qa_cons (qe_str [114, 101, 102, 117, 115, 101, 100]) (qa_cons (qe_str [108, 105, 109, 105, 116]) qa_nil))) co.nd)
  (qss_one (qs_asg (i := 11) (qe_lst false (qa_cons (qe_str [114, 101, 102, 117, 115, 101, 100]) (qa_cons (qe_str [108, 105, 109, 105, 116]) qa_nil))) co.nd))) qss_nil)
  (qss_cons (qs_if (qt_w (qw_or (qt_cmp (o_ne co.room.units) (qe_call (cal__law_made Z) co.room co.pas (by decide) rfl (qa_cons (qe_var 3) (qa_cons (qe_var 5) (qa_cons (qe_var 12) qa_nil)))) (qe_var 13)) (qw_or1 (qt_cmp (o_ne co.room.units) (qe_call (cal__law_allowed Z) co.room co.pas (by decide) rfl (qa_cons (qe_var 6) (qa_cons (qe_var 12) qa_nil))) (qe_var 11))))) (qss_one (qs_ret qe_bl)) qss_nil)
  (qss_cons (qs_if (qt_cmp (o_eq co.room.units) (qe_var 11) (qe_lst false (qa_cons qe_non qa_nil))) (qss_one (qs_asg (i := 9) (qe_var 12) co.nd)) qss_nil)
  (qss_one (qs_if (qt_w (qw_or (qt_not (qt_truth (qe_call (cal__law_number Z) co.room co.pas (by decide) rfl (qa_cons (qe_prop (qe_var 6) (prop_Inquiry_limit Z) co.room (by decide)) qa_nil)))) (qw_or (qt_cmp (o_ne co.room.units) (qe_prop (qe_var 6) (prop_Inquiry_limit Z) co.room (by decide)) (qe_var 9)) (qw_or1 (qt_cmp (o_ne co.room.units) (qe_prop (qe_var 7) (prop_Inquiry_limit Z) co.room (by decide)) (qe_var 8)))))) (qss_one (qs_ret qe_bl)) qss_nil))))))))))
  (qss_one (qs_ret (qe_and (qe_cmp (o_eq co.room.units) (qe_call (cal__law_made Z) co.room co.pas (by decide) rfl (qa_cons (qe_var 3) (qa_cons (qe_var 5) (qa_cons qe_int qa_nil)))) (qe_lst false (qa_cons qe_int qa_nil))) (qe_one (qe_cmp (o_eq co.room.units) (qe_call (cal__law_made Z) co.room co.pas (by decide) rfl (qa_cons (qe_var 3) (qa_cons (qe_var 5) (qa_cons qe_int qa_nil)))) (qe_lst false (qa_cons (qe_str [114, 101, 102, 117, 115, 101, 100]) (qa_cons (qe_str [108, 105, 109, 105, 116]) qa_nil)))))))))))))))))))))

theorem cal_law (Z : Fx K mg) : CalD (G K) PW w K mg base 9 "law" f_law 1 [] := by
  obtain ⟨fd, F⟩ := Z.d_law
  exact ⟨⟨_, fd, _, [], [], ok_law Z F, Z.g_law, F.kp, F.bindsN fun _ _ _ _ _ _ us hl => match us, hl with | [_], _ => rfl, .nil, fun _ => rfl⟩⟩

end
end K24

set_option Elab.async false
set_option linter.all false
set_option maxRecDepth 100000
/-! k12: the mirrors (written by gen.py). -/
namespace K12
open Dl
abbrev errs : List Nat := [0, 1, 2, 3, 4, 5, 6, 7]
def sub (c b : Nat) : Bool := c == b || b == 0
def m__law_begin_b1 : DS := (sAsg 1 (e2 modV (eN intV (aC (e2 (addV false) (e2 (addV false) (e2 (mulV false) (varE 1) (cE (.int 31))) (varE 2)) (cE (.int 7))) aN)) (cE (.int 2147483647))))
def m__law_begin : DS := (sSeq (sAsg 1 (cE (.int 0))) (sSeq (sFor (iL (varE 0)) (.name 2) m__law_begin_b1) (sRet (eN (dictV [[99, 101, 108, 108, 115], [97, 116], [114, 101, 115, 116], [115, 101, 101, 100], [99, 111, 117, 110, 116]]) (aC (eN (listV false) (aC (varE 0) aN)) (aC (cE (.int 0)) (aC (cE (.int 0)) (aC (varE 1) (aC (cE (.int 0)) aN)))))))))
def f__law_begin : Fn := defF 3 1 m__law_begin
def m__law_mix : DS := (sSeq (sAsg 2 (e2 modV (eN intV (aC (e2 (addV false) (e2 (addV false) (e2 (mulV false) (varE 0) (cE (.int 48271))) (e2 (mulV false) (varE 1) (cE (.int 69621)))) (cE (.int 11))) aN)) (cE (.int 2147483647)))) (sSeq (sAsg 2 (e2 modV (eN intV (aC (e2 (addV false) (e2 (addV false) (e2 (mulV false) (varE 2) (varE 2)) (e2 (mulV false) (varE 1) (cE (.int 40692)))) (cE (.int 5))) aN)) (cE (.int 2147483629)))) (sSeq (sAsg 2 (e2 modV (eN intV (aC (e2 (addV false) (e2 (addV false) (e2 (mulV false) (varE 2) (varE 2)) (e2 (mulV false) (varE 0) (cE (.int 3)))) (cE (.int 1))) aN)) (cE (.int 2147483587)))) (sRet (e2 divV (varE 2) (cE (.int 3)))))))
def f__law_mix : Fn := defF 3 2 m__law_mix
def m__law_draw : DS := (sSeq (sSet setV (varE 0) (cE (.str [99, 111, 117, 110, 116])) (e2 (addV false) (e2 ixV (varE 0) (cE (.str [99, 111, 117, 110, 116]))) (cE (.int 1)))) (sSeq (sIf (tAnd (tB (e2 (eqV false) (e2 ixV (varE 0) (cE (.str [114, 101, 115, 116]))) (cE (.int 0)))) (tB (e2 ltV (e2 ixV (varE 0) (cE (.str [97, 116]))) (eN lenV (aC (e2 ixV (varE 0) (cE (.str [99, 101, 108, 108, 115]))) aN))))) (sSeq (sAsg 3 (eN absV (aC (e2 ixV (e2 ixV (varE 0) (cE (.str [99, 101, 108, 108, 115]))) (e2 ixV (varE 0) (cE (.str [97, 116])))) aN))) (sSeq (sSet setV (varE 0) (cE (.str [97, 116])) (e2 (addV false) (e2 ixV (varE 0) (cE (.str [97, 116]))) (cE (.int 1)))) (sSeq (sIf (tB (e2 ltV (varE 3) (e2 powV (cE (.int 10)) (cE (.int 18))))) (sRet (e2 modV (eN intV (aC (varE 3) aN)) (varE 1))) sNext) (sSet setV (varE 0) (cE (.str [114, 101, 115, 116])) (varE 3))))) sNext) (sSeq (sIf (tB (e2 gtV (e2 ixV (varE 0) (cE (.str [114, 101, 115, 116]))) (cE (.int 0)))) (sSeq (sAsg 2 (e2 modV (eN intV (aC (e2 ixV (varE 0) (cE (.str [114, 101, 115, 116]))) aN)) (varE 1))) (sSeq (sSet setV (varE 0) (cE (.str [114, 101, 115, 116])) (e2 divV (e2 ixV (varE 0) (cE (.str [114, 101, 115, 116]))) (varE 1))) (sRet (varE 2)))) sNext) (sSeq (sIf (tB (e2 (eqV false) (eN lenV (aC (e2 ixV (varE 0) (cE (.str [99, 101, 108, 108, 115]))) aN)) (cE (.int 0)))) (sRet (e2 modV (eN intV (aC (e2 ixV (varE 0) (cE (.str [99, 111, 117, 110, 116]))) aN)) (varE 1))) sNext) (sRet (e2 modV (eN intV (aC (eN (callD f__law_mix 2 []) (aC (e2 ixV (varE 0) (cE (.str [115, 101, 101, 100]))) (aC (e2 ixV (varE 0) (cE (.str [99, 111, 117, 110, 116]))) aN))) aN)) (varE 1)))))))
def f__law_draw : Fn := defF 4 2 m__law_draw
def m__law_size : DS := (sSeq (sAsg 2 (e2 (addV false) (cE (.int 1)) (eN (callD f__law_draw 2 []) (aC (varE 0) (aC (cE (.int 5)) aN))))) (sSeq (sAsg 1 (e2 (addV false) (cE (.int 1)) (eN (callD f__law_draw 2 []) (aC (varE 0) (aC (cE (.int 6)) aN))))) (sSeq (sIf (tB (e2 (eqV false) (eN (callD f__law_draw 2 []) (aC (varE 0) (aC (cE (.int 8)) aN))) (cE (.int 0)))) (sSeq (sAsg 2 (e2 (addV false) (cE (.int 1)) (eN (callD f__law_draw 2 []) (aC (varE 0) (aC (cE (.int 16)) aN))))) (sAsg 1 (e2 (addV false) (cE (.int 1)) (eN (callD f__law_draw 2 []) (aC (varE 0) (aC (cE (.int 16)) aN)))))) sNext) (sRet (eN (lstV false) (aC (varE 2) (aC (varE 1) aN)))))))
def f__law_size : Fn := defF 3 1 m__law_size
def m_Field_init : DS := (sSeq (sAttr [(9, 0)] (varE 0) (varE 1)) (sAttr [(9, 1)] (varE 0) (eCompS (iRange1 (e1 (attrV [(10, 1)]) (varE 1))) (.name 2) [2] tYes (e2 (mulV true) (eN (lstV false) (aC (cE (.str [117, 110, 115, 101, 101, 110])) aN)) (e1 (attrV [(10, 2)]) (varE 1))))))
def f_Field_init : Fn := defF 3 2 m_Field_init
def m0_BadNumber : DE := (e2 (addV false) (cE (.str [110, 117, 109, 98, 101, 114, 32, 111, 117, 116, 32, 111, 102, 32, 114, 97, 110, 103, 101, 58, 32])) (varE 1))
def m_within : DS := (sIf (tNot (tB (chainE leV leV (varE 2) (varE 1) (varE 3)))) (sRaiseI 1 1 m0_BadNumber (aC (varE 0) aN)) sNext)
def f_within : Fn := defF 4 4 m_within
def m_Drill_init : DS := (sSeq (sExpr (eN (callD f_within 4 []) (aC (cE (.str [112, 105, 112, 101, 115])) (aC (varE 1) (aC (cE (.int 1)) (aC (cE (.int 6)) aN)))))) (sSeq (sExpr (eN (callD f_within 4 []) (aC (cE (.str [114, 111, 119, 115])) (aC (varE 2) (aC (cE (.int 1)) (aC (cE (.int 16)) aN)))))) (sSeq (sExpr (eN (callD f_within 4 []) (aC (cE (.str [112, 108, 97, 99, 101, 115])) (aC (varE 3) (aC (cE (.int 1)) (aC (cE (.int 16)) aN)))))) (sSeq (sExpr (eN (callD f_within 4 []) (aC (cE (.str [116, 117, 114, 110, 105, 110, 103])) (aC (varE 4) (aC (cE (.int 0)) (aC (cE (.int 6)) aN)))))) (sSeq (sAttr [(10, 0)] (varE 0) (varE 1)) (sSeq (sAttr [(10, 1)] (varE 0) (varE 2)) (sSeq (sAttr [(10, 2)] (varE 0) (varE 3)) (sAttr [(10, 3)] (varE 0) (varE 4)))))))))
def f_Drill_init : Fn := defF 5 5 m_Drill_init
def m0_OutOfField : DE := (cE (.str [99, 101, 108, 108, 32, 111, 117, 116, 115, 105, 100, 101, 32, 111, 102, 32, 116, 104, 101, 32, 102, 105, 101, 108, 100]))
def m_Drill_require : DS := (sIf (tNot (tAnd (tB (chainE leV ltV (cE (.int 0)) (varE 1) (e1 (attrV [(10, 1)]) (varE 0)))) (tB (chainE leV ltV (cE (.int 0)) (varE 2) (e1 (attrV [(10, 2)]) (varE 0)))))) (sRaiseI 3 2 m0_OutOfField (aC (varE 1) (aC (varE 2) aN))) sNext)
def f_Drill_require : Fn := defF 3 3 m_Drill_require
def m_Field___getitem__ : DS := (sSeq (sUnp (.tup [(.name 2), (.name 3)]) (varE 1)) (sSeq (sExpr (methD 10 f_Drill_require 3 [] (e1 (attrV [(9, 0)]) (varE 0)) (aC (varE 2) (aC (varE 3) aN)))) (sRet (e2 ixV (e2 ixV (e1 (attrV [(9, 1)]) (varE 0)) (varE 2)) (varE 3)))))
def f_Field___getitem__ : Fn := defF 4 2 m_Field___getitem__
def m__law_all_b1 : DS := (sSeq (sAsg 6 (getO 9 f_Field___getitem__ (varE 0) (eN tupV (aC (varE 4) (aC (varE 5) aN))))) (sIf (tOr (tNot (tB (e1 (isTyV .str) (varE 6)))) (tB (e2 (eqV true) (varE 6) (getDV (varE 1) (eN tupV (aC (varE 4) (aC (varE 5) aN))) (cE (.str [117, 110, 115, 101, 101, 110])))))) (sRet (cE (.bl false))) sNext))
def m__law_all_b2 : DS := (sFor (iRange1 (varE 3)) (.name 5) m__law_all_b1)
def m__law_all : DS := (sSeq (sFor (iRange1 (varE 2)) (.name 4) m__law_all_b2) (sRet (cE (.bl true))))
def f__law_all : Fn := defF 7 4 m__law_all
def m_Field___setitem__ : DS := (sSeq (sUnp (.tup [(.name 3), (.name 4)]) (varE 1)) (sSeq (sIf (tB (e2 (in2V true) (varE 2) (cE (.stup ([[98, 97, 114, 101], [103, 114, 101, 101, 110], [117, 110, 115, 101, 101, 110]].map D.str))))) (sRaise0 2) sNext) (sSeq (sExpr (methD 10 f_Drill_require 3 [] (e1 (attrV [(9, 0)]) (varE 0)) (aC (varE 3) (aC (varE 4) aN)))) (sSet setV (e2 ixV (e1 (attrV [(9, 1)]) (varE 0)) (varE 3)) (varE 4) (varE 2)))))
def f_Field___setitem__ : Fn := defF 5 3 m_Field___setitem__
def m__law_set : DS := (sSeq (sTry sub errs (sSetO 9 f_Field___setitem__ (varE 0) (eN tupV (aC (varE 1) (aC (varE 2) aN))) (varE 3)) [(2, some 4, fun c xs => (sSeq (sIf (tOr (tB (eIsE sub errs c (eN tupV (aC (cE (.cls 1)) (aC (cE (.cls 4)) (aC (cE (.cls 6)) (aC (cE (.cls 3)) (aC (cE (.cls 5)) (aC (cE (.cls 7)) aN))))))))) (tNot (tB (eIsE sub errs c (cE (.cls 0)))))) (sRet (eN (lstV false) (aC (cE (.str [111, 116, 104, 101, 114])) aN))) sNext) (sRet (eN (lstV false) (aC (cE (.str [107, 105, 110, 100])) aN))))), (3, some 4, fun c xs => (sSeq (sIf (tOr (tB (eIsE sub errs c (eN tupV (aC (cE (.cls 1)) (aC (cE (.cls 4)) (aC (cE (.cls 6)) (aC (cE (.cls 5)) (aC (cE (.cls 7)) aN)))))))) (tNot (tB (eIsE sub errs c (cE (.cls 0)))))) (sRet (eN (lstV false) (aC (cE (.str [111, 116, 104, 101, 114])) aN))) sNext) (sRet (eN (lstV false) (aC (cE (.str [111, 117, 116])) (aC (excE xs 1) (aC (excE xs 0) aN)))))))]) (sRet (eN (lstV false) aN)))
def f__law_set : Fn := defF 5 4 m__law_set
def m__law_set_due : DS := (sSeq (sIf (tAnd (tB (e2 (eqV true) (varE 4) (cE (.str [98, 97, 114, 101])))) (tAnd (tB (e2 (eqV true) (varE 4) (cE (.str [103, 114, 101, 101, 110])))) (tB (e2 (eqV true) (varE 4) (cE (.str [117, 110, 115, 101, 101, 110])))))) (sRet (eN (lstV false) (aC (cE (.str [107, 105, 110, 100])) aN))) sNext) (sSeq (sIf (tOr (tB (e2 ltV (varE 2) (cE (.int 0)))) (tOr (tB (e2 geV (varE 2) (varE 0))) (tOr (tB (e2 ltV (varE 3) (cE (.int 0)))) (tB (e2 geV (varE 3) (varE 1)))))) (sRet (eN (lstV false) (aC (cE (.str [111, 117, 116])) (aC (varE 2) (aC (varE 3) aN))))) sNext) (sRet (eN (lstV false) aN))))
def f__law_set_due : Fn := defF 5 5 m__law_set_due
def m__law_kind : DS := (sSeq (sAsg 3 (eN (callD f__law_draw 2 []) (aC (varE 0) (aC (cE (.int 608)) aN)))) (sSeq (sIf (tB (e2 (eqV false) (e2 modV (eN intV (aC (varE 3) aN)) (cE (.int 2))) (cE (.int 0)))) (sRet (e2 ixV (eN (lstV false) (aC (cE (.str [98, 97, 114, 101])) (aC (cE (.str [103, 114, 101, 101, 110])) (aC (cE (.str [117, 110, 115, 101, 101, 110])) aN)))) (e2 modV (eN intV (aC (e2 divV (varE 3) (cE (.int 2))) aN)) (cE (.int 3))))) sNext) (sSeq (sAsg 1 (cE (.str [117, 110, 98, 97, 114, 101, 101, 110, 98, 97, 114, 101, 32, 103, 114, 101, 101, 110, 103, 114, 101, 101, 110, 117, 110, 115, 101, 101, 110, 46, 66, 97, 114, 101, 79, 112, 101, 110]))) (sSeq (sAsg 2 (eN intV (aC (e2 divV (varE 3) (cE (.int 16))) aN))) (sRet (eSlice false (varE 1) (oSome (varE 2)) (oSome (e2 (addV false) (varE 2) (e2 modV (eN intV (aC (e2 divV (varE 3) (cE (.int 2))) aN)) (cE (.int 8)))))))))))
def f__law_kind : Fn := defF 4 1 m__law_kind
def m_law_b1 : DS := (sSeq (sAsg 11 (eN (callD f__law_draw 2 []) (aC (varE 1) (aC (varE 3) aN)))) (sSeq (sAsg 10 (eN (callD f__law_draw 2 []) (aC (varE 1) (aC (varE 4) aN)))) (sSeq (sAsg 9 (e2 ixV (eN (lstV false) (aC (cE (.str [98, 97, 114, 101])) (aC (cE (.str [103, 114, 101, 101, 110])) (aC (cE (.str [117, 110, 115, 101, 101, 110])) aN)))) (eN (callD f__law_draw 2 []) (aC (varE 1) (aC (cE (.int 3)) aN))))) (sSeq (sIf (tB (e2 (eqV false) (eN (callD f__law_draw 2 []) (aC (varE 1) (aC (cE (.int 4)) aN))) (cE (.int 0)))) (sSeq (sAsg 9 (eN (callD f__law_kind 1 []) (aC (varE 1) aN))) (sSeq (sAsg 11 (e2 subV (eN (callD f__law_draw 2 []) (aC (varE 1) (aC (e2 (addV false) (varE 3) (cE (.int 2))) aN))) (cE (.int 1)))) (sAsg 10 (e2 subV (eN (callD f__law_draw 2 []) (aC (varE 1) (aC (e2 (addV false) (varE 4) (cE (.int 2))) aN))) (cE (.int 1)))))) sNext) (sSeq (sAsg 8 (eN (callD f__law_set_due 5 []) (aC (varE 3) (aC (varE 4) (aC (varE 11) (aC (varE 10) (aC (varE 9) aN))))))) (sSeq (sIf (tB (e2 (eqV true) (eN (callD f__law_set 4 []) (aC (varE 5) (aC (varE 11) (aC (varE 10) (aC (varE 9) aN))))) (varE 8))) (sRet (cE (.bl false))) sNext) (sSeq (sIf (tB (e2 (eqV false) (varE 8) (eN (lstV false) aN))) (sSet setV (varE 6) (eN tupV (aC (varE 11) (aC (varE 10) aN))) (varE 9)) sNext) (sIf (tNot (tTru (eN (callD f__law_all 4 []) (aC (varE 5) (aC (varE 6) (aC (varE 3) (aC (varE 4) aN))))))) (sRet (cE (.bl false))) sNext))))))))
def m__law_read : DS := (sSeq (sTry sub errs (sAsg 3 (getO 9 f_Field___getitem__ (varE 0) (eN tupV (aC (varE 1) (aC (varE 2) aN))))) [(3, some 4, fun c xs => (sSeq (sIf (tOr (tB (eIsE sub errs c (eN tupV (aC (cE (.cls 2)) (aC (cE (.cls 1)) (aC (cE (.cls 4)) (aC (cE (.cls 6)) (aC (cE (.cls 5)) (aC (cE (.cls 7)) aN))))))))) (tNot (tB (eIsE sub errs c (cE (.cls 0)))))) (sRet (eN (lstV false) (aC (cE (.str [111, 116, 104, 101, 114])) aN))) sNext) (sRet (eN (lstV false) (aC (excE xs 1) (aC (excE xs 0) aN))))))]) (sRet (eN (lstV false) (aC (varE 3) aN))))
def f__law_read : Fn := defF 5 3 m__law_read
def m__law_around_b1 : DS := (sSeq (sAsg 6 (andE (e2 leV (cE (.int 0)) (e2 ixV (varE 5) (cE (.int 0)))) (andE (e2 ltV (e2 ixV (varE 5) (cE (.int 0))) (varE 1)) (andE (e2 leV (cE (.int 0)) (e2 ixV (varE 5) (cE (.int 1)))) (e2 ltV (e2 ixV (varE 5) (cE (.int 1))) (varE 2)))))) (sIf (tAnd (tNot (tTru (varE 6))) (tB (e2 (eqV true) (eN (callD f__law_read 3 []) (aC (varE 0) (aC (e2 ixV (varE 5) (cE (.int 0))) (aC (e2 ixV (varE 5) (cE (.int 1))) aN)))) (eN (lstV false) (aC (e2 ixV (varE 5) (cE (.int 0))) (aC (e2 ixV (varE 5) (cE (.int 1))) aN)))))) (sRet (cE (.bl false))) sNext))
def m__law_around : DS := (sSeq (sFor (iL (eN (lstV false) (aC (eN tupV (aC (e1 negV (cE (.int 1))) (aC (cE (.int 0)) aN))) (aC (eN tupV (aC (cE (.int 0)) (aC (e1 negV (cE (.int 1))) aN))) (aC (eN tupV (aC (varE 1) (aC (cE (.int 0)) aN))) (aC (eN tupV (aC (cE (.int 0)) (aC (varE 2) aN))) (aC (eN tupV (aC (e2 subV (varE 1) (cE (.int 1))) (aC (varE 2) aN))) (aC (eN tupV (aC (varE 1) (aC (e2 subV (varE 2) (cE (.int 1))) aN))) (aC (eN tupV (aC (varE 3) (aC (varE 4) aN))) aN))))))))) (.name 5) m__law_around_b1) (sRet (cE (.bl true))))
def f__law_around : Fn := defF 7 5 m__law_around
def m_law_s1 : DS := (sAsg 1 (eN (callD f__law_begin 1 []) (aC (varE 0) aN)))
def m_law_s2 : DS := (sAsg 2 (eN (callD f__law_size 1 []) (aC (varE 1) aN)))
def m_law_s3 : DS := (sAsg 3 (e2 ixV (varE 2) (cE (.int 0))))
def m_law_s4 : DS := (sAsg 4 (e2 ixV (varE 2) (cE (.int 1))))
def m_law_s5 : DS := (sAsg 5 (eN (makeD false 9 f_Field_init 2 []) (aC (eN (makeD true 10 f_Drill_init 5 [(.int 0)]) (aC (e2 (addV false) (cE (.int 1)) (eN (callD f__law_draw 2 []) (aC (varE 1) (aC (cE (.int 6)) aN)))) (aC (varE 3) (aC (varE 4) aN)))) aN)))
def m_law_s6 : DS := (sAsg 6 newT)
def m_law_s7 : DS := (sFor (iRange1 (eN (callD f__law_draw 2 []) (aC (varE 1) (aC (cE (.int 10)) aN)))) (.name 7) m_law_b1)
def m_law_s8 : DS := (sAsg 11 (e2 subV (eN (callD f__law_draw 2 []) (aC (varE 1) (aC (e2 (addV false) (e2 (mulV false) (cE (.int 2)) (e2 powV (cE (.int 10)) (cE (.int 9)))) (cE (.int 1))) aN))) (e2 powV (cE (.int 10)) (cE (.int 9)))))
def m_law_s9 : DS := (sAsg 10 (e2 subV (eN (callD f__law_draw 2 []) (aC (varE 1) (aC (e2 (addV false) (e2 (mulV false) (cE (.int 2)) (e2 powV (cE (.int 10)) (cE (.int 9)))) (cE (.int 1))) aN))) (e2 powV (cE (.int 10)) (cE (.int 9)))))
def m_law_s10 : DS := (sRet (andE (eN (callD f__law_around 5 []) (aC (varE 5) (aC (varE 3) (aC (varE 4) (aC (varE 11) (aC (varE 10) aN)))))) (eN (callD f__law_all 4 []) (aC (varE 5) (aC (varE 6) (aC (varE 3) (aC (varE 4) aN)))))))
def m_law : DS := (sSeq m_law_s1 (sSeq m_law_s2 (sSeq m_law_s3 (sSeq m_law_s4 (sSeq m_law_s5 (sSeq m_law_s6 (sSeq m_law_s7 (sSeq m_law_s8 (sSeq m_law_s9 m_law_s10)))))))))
def f_law : Fn := defF 12 1 m_law
end K12

set_option Elab.async false
set_option linter.all false
set_option maxRecDepth 100000
/-! k07: the mirrors (written by gen.py). -/
namespace K07
open Dl
abbrev errs : List Nat := [0, 1, 2, 3, 4, 5, 6, 7]
def sub (c b : Nat) : Bool := c == b || b == 0
def m__law_begin_b1 : DS := (sAsg 1 (e2 modV (eN intV (aC (e2 (addV false) (e2 (addV false) (e2 (mulV false) (varE 1) (cE (.int 31))) (varE 2)) (cE (.int 7))) aN)) (cE (.int 2147483647))))
def m__law_begin : DS := (sSeq (sAsg 1 (cE (.int 0))) (sSeq (sFor (iL (varE 0)) (.name 2) m__law_begin_b1) (sRet (eN (dictV [[99, 101, 108, 108, 115], [97, 116], [114, 101, 115, 116], [115, 101, 101, 100], [99, 111, 117, 110, 116]]) (aC (eN (listV false) (aC (varE 0) aN)) (aC (cE (.int 0)) (aC (cE (.int 0)) (aC (varE 1) (aC (cE (.int 0)) aN)))))))))
def f__law_begin : Fn := defF 3 1 m__law_begin
def m__law_mix : DS := (sSeq (sAsg 2 (e2 modV (eN intV (aC (e2 (addV false) (e2 (addV false) (e2 (mulV false) (varE 0) (cE (.int 48271))) (e2 (mulV false) (varE 1) (cE (.int 69621)))) (cE (.int 11))) aN)) (cE (.int 2147483647)))) (sSeq (sAsg 2 (e2 modV (eN intV (aC (e2 (addV false) (e2 (addV false) (e2 (mulV false) (varE 2) (varE 2)) (e2 (mulV false) (varE 1) (cE (.int 40692)))) (cE (.int 5))) aN)) (cE (.int 2147483629)))) (sSeq (sAsg 2 (e2 modV (eN intV (aC (e2 (addV false) (e2 (addV false) (e2 (mulV false) (varE 2) (varE 2)) (e2 (mulV false) (varE 0) (cE (.int 3)))) (cE (.int 1))) aN)) (cE (.int 2147483587)))) (sRet (e2 divV (varE 2) (cE (.int 3)))))))
def f__law_mix : Fn := defF 3 2 m__law_mix
def m__law_draw : DS := (sSeq (sSet setV (varE 0) (cE (.str [99, 111, 117, 110, 116])) (e2 (addV false) (e2 ixV (varE 0) (cE (.str [99, 111, 117, 110, 116]))) (cE (.int 1)))) (sSeq (sIf (tAnd (tB (e2 (eqV false) (e2 ixV (varE 0) (cE (.str [114, 101, 115, 116]))) (cE (.int 0)))) (tB (e2 ltV (e2 ixV (varE 0) (cE (.str [97, 116]))) (eN lenV (aC (e2 ixV (varE 0) (cE (.str [99, 101, 108, 108, 115]))) aN))))) (sSeq (sAsg 3 (eN absV (aC (e2 ixV (e2 ixV (varE 0) (cE (.str [99, 101, 108, 108, 115]))) (e2 ixV (varE 0) (cE (.str [97, 116])))) aN))) (sSeq (sSet setV (varE 0) (cE (.str [97, 116])) (e2 (addV false) (e2 ixV (varE 0) (cE (.str [97, 116]))) (cE (.int 1)))) (sSeq (sIf (tB (e2 ltV (varE 3) (e2 powV (cE (.int 10)) (cE (.int 18))))) (sRet (e2 modV (eN intV (aC (varE 3) aN)) (varE 1))) sNext) (sSet setV (varE 0) (cE (.str [114, 101, 115, 116])) (varE 3))))) sNext) (sSeq (sIf (tB (e2 gtV (e2 ixV (varE 0) (cE (.str [114, 101, 115, 116]))) (cE (.int 0)))) (sSeq (sAsg 2 (e2 modV (eN intV (aC (e2 ixV (varE 0) (cE (.str [114, 101, 115, 116]))) aN)) (varE 1))) (sSeq (sSet setV (varE 0) (cE (.str [114, 101, 115, 116])) (e2 divV (e2 ixV (varE 0) (cE (.str [114, 101, 115, 116]))) (varE 1))) (sRet (varE 2)))) sNext) (sSeq (sIf (tB (e2 (eqV false) (eN lenV (aC (e2 ixV (varE 0) (cE (.str [99, 101, 108, 108, 115]))) aN)) (cE (.int 0)))) (sRet (e2 modV (eN intV (aC (e2 ixV (varE 0) (cE (.str [99, 111, 117, 110, 116]))) aN)) (varE 1))) sNext) (sRet (e2 modV (eN intV (aC (eN (callD f__law_mix 2 []) (aC (e2 ixV (varE 0) (cE (.str [115, 101, 101, 100]))) (aC (e2 ixV (varE 0) (cE (.str [99, 111, 117, 110, 116]))) aN))) aN)) (varE 1)))))))
def f__law_draw : Fn := defF 4 2 m__law_draw
def m0_BadNumber : DE := (e2 (addV false) (cE (.str [110, 117, 109, 98, 101, 114, 32, 111, 117, 116, 32, 111, 102, 32, 114, 97, 110, 103, 101, 58, 32])) (varE 1))
def m_within : DS := (sIf (tNot (tB (chainE leV leV (varE 2) (varE 1) (varE 3)))) (sRaiseI 1 1 m0_BadNumber (aC (varE 0) aN)) sNext)
def f_within : Fn := defF 4 4 m_within
def m_Drill_init : DS := (sSeq (sExpr (eN (callD f_within 4 []) (aC (cE (.str [112, 105, 112, 101, 115])) (aC (varE 1) (aC (cE (.int 1)) (aC (cE (.int 6)) aN)))))) (sSeq (sExpr (eN (callD f_within 4 []) (aC (cE (.str [114, 111, 119, 115])) (aC (varE 2) (aC (cE (.int 1)) (aC (cE (.int 16)) aN)))))) (sSeq (sExpr (eN (callD f_within 4 []) (aC (cE (.str [112, 108, 97, 99, 101, 115])) (aC (varE 3) (aC (cE (.int 1)) (aC (cE (.int 16)) aN)))))) (sSeq (sExpr (eN (callD f_within 4 []) (aC (cE (.str [116, 117, 114, 110, 105, 110, 103])) (aC (varE 4) (aC (cE (.int 0)) (aC (cE (.int 6)) aN)))))) (sSeq (sAttr [(8, 0)] (varE 0) (varE 1)) (sSeq (sAttr [(8, 1)] (varE 0) (varE 2)) (sSeq (sAttr [(8, 2)] (varE 0) (varE 3)) (sAttr [(8, 3)] (varE 0) (varE 4)))))))))
def f_Drill_init : Fn := defF 5 5 m_Drill_init
def mkk_Drill_3_turning_g (xs ys : List Rv) : List Rv := xs ++ ys
def m__law_drill : DS := (sSeq (sIf (tAnd (tB (e2 (eqV false) (varE 3) (cE (.int 0)))) (tB (e2 (eqV false) (e2 modV (eN intV (aC (e2 (addV false) (varE 1) (varE 2)) aN)) (cE (.int 2))) (cE (.int 0))))) (sRet (eN (makeD true 8 f_Drill_init 5 [(.int 0)]) (aC (varE 0) (aC (varE 1) (aC (varE 2) aN))))) sNext) (sRet (makeK true 8 f_Drill_init 5 mkk_Drill_3_turning_g (aC (varE 0) (aC (varE 1) (aC (varE 2) aN))) (aC (varE 3) aN))))
def f__law_drill : Fn := defF 4 4 m__law_drill
def m_Plan_init : DS := (sSeq (sExpr (eN (callD f_within 4 []) (aC (cE (.str [116, 117, 114, 110])) (aC (varE 2) (aC (cE (.int 1)) (aC (e1 (attrV [(8, 0)]) (varE 1)) aN)))))) (sSeq (sAttr [(9, 0)] (varE 0) (varE 1)) (sAttr [(9, 1)] (varE 0) (varE 2))))
def f_Plan_init : Fn := defF 3 3 m_Plan_init
def m_Plan_passes : DS := (sRet (e2 (addV false) (e2 divV (e2 subV (e2 (addV false) (e2 subV (e1 (attrV [(8, 1)]) (e1 (attrV [(9, 0)]) (varE 0))) (cE (.int 1))) (e1 (attrV [(8, 0)]) (e1 (attrV [(9, 0)]) (varE 0)))) (e1 (attrV [(9, 1)]) (varE 0))) (e1 (attrV [(8, 0)]) (e1 (attrV [(9, 0)]) (varE 0)))) (cE (.int 1))))
def f_Plan_passes : Fn := defF 1 1 m_Plan_passes
def m_Plan_moments : DS := (sRet (e2 (addV false) (e2 (mulV false) (propD 9 f_Plan_passes (varE 0)) (e1 (attrV [(8, 2)]) (e1 (attrV [(9, 0)]) (varE 0)))) (e2 (mulV false) (e2 subV (propD 9 f_Plan_passes (varE 0)) (cE (.int 1))) (e1 (attrV [(8, 3)]) (e1 (attrV [(9, 0)]) (varE 0))))))
def f_Plan_moments : Fn := defF 1 1 m_Plan_moments
def m__law_number : DS := (sRet (andE (e1 (isTyV .int) (varE 0)) (notE (e1 (isTyV .bool) (varE 0)))))
def f__law_number : Fn := defF 1 1 m__law_number
def m__law_passes_b1 : DS := (sIf (tB (e2 ltV (varE 5) (varE 1))) (sSeq (sAsg 3 (e2 (addV false) (varE 3) (cE (.int 1)))) (sAsg 5 (e2 (addV false) (varE 5) (varE 0)))) sNext)
def m__law_passes : DS := (sSeq (sAsg 5 (e2 subV (varE 2) (varE 0))) (sSeq (sAsg 3 (cE (.int 0))) (sSeq (sFor (iRange1 (e2 (addV false) (varE 1) (cE (.int 1)))) (.name 4) m__law_passes_b1) (sRet (varE 3)))))
def f__law_passes : Fn := defF 6 3 m__law_passes
def m_law_b1 : DS := (sSeq (sAsg 11 (e2 ixV (varE 7) (e2 subV (e2 subV (varE 2) (cE (.int 1))) (varE 9)))) (sSeq (sAsg 12 (eN (callD f__law_passes 3 []) (aC (varE 2) (aC (varE 3) (aC (e2 subV (varE 2) (varE 9)) aN))))) (sSeq (sIf (tOr (tNot (tTru (eN (callD f__law_number 1 []) (aC (propD 9 f_Plan_passes (varE 11)) aN)))) (tB (e2 (eqV true) (propD 9 f_Plan_passes (varE 11)) (varE 12)))) (sRet (cE (.bl false))) sNext) (sSeq (sIf (tOr (tNot (tTru (eN (callD f__law_number 1 []) (aC (propD 9 f_Plan_moments (varE 11)) aN)))) (tB (e2 (eqV true) (propD 9 f_Plan_moments (varE 11)) (e2 (addV false) (e2 (mulV false) (varE 12) (varE 4)) (e2 (mulV false) (e2 subV (varE 12) (cE (.int 1))) (varE 5)))))) (sRet (cE (.bl false))) sNext) (sSeq (sAsg 10 (e1 (attrV [(9, 0)]) (varE 11))) (sIf (tOr (tB (e2 (eqV true) (e1 (attrV [(9, 1)]) (varE 11)) (e2 subV (varE 2) (varE 9)))) (tB (e2 (eqV true) (eN (lstV false) (aC (e1 (attrV [(8, 0)]) (varE 10)) (aC (e1 (attrV [(8, 1)]) (varE 10)) (aC (e1 (attrV [(8, 2)]) (varE 10)) (aC (e1 (attrV [(8, 3)]) (varE 10)) aN))))) (eN (lstV false) (aC (varE 2) (aC (varE 3) (aC (varE 4) (aC (varE 5) aN)))))))) (sRet (cE (.bl false))) sNext))))))
def m__law_refused : DS := (sSeq (sTry sub errs (sAsg 2 (eN (makeD true 9 f_Plan_init 3 []) (aC (varE 0) (aC (varE 1) aN)))) [(1, some 3, fun c xs => (sSeq (sIf (tB (eIsE sub errs c (eN tupV (aC (cE (.cls 2)) (aC (cE (.cls 4)) (aC (cE (.cls 6)) (aC (cE (.cls 3)) (aC (cE (.cls 5)) (aC (cE (.cls 7)) aN))))))))) (sRet (e1 negV (cE (.int 1)))) sNext) (sSeq (sIf (tAnd (tB (e2 (eqV false) (excE xs 0) (cE (.str [116, 117, 114, 110])))) (tAnd (tB (eIsE sub errs c (cE (.cls 0)))) (tB (cE (.bl true))))) (sRet (cE (.int 1))) sNext) (sRet (e1 negV (cE (.int 1)))))))]) (sRet (eN intV (aC (e2 (eqV true) (e1 (attrV [(9, 1)]) (varE 2)) (varE 1)) aN))))
def f__law_refused : Fn := defF 4 2 m__law_refused
def m_law_s1 : DS := (sAsg 1 (eN (callD f__law_begin 1 []) (aC (varE 0) aN)))
def m_law_s2 : DS := (sAsg 2 (e2 (addV false) (cE (.int 1)) (eN (callD f__law_draw 2 []) (aC (varE 1) (aC (cE (.int 6)) aN)))))
def m_law_s3 : DS := (sAsg 3 (e2 (addV false) (cE (.int 1)) (eN (callD f__law_draw 2 []) (aC (varE 1) (aC (cE (.int 16)) aN)))))
def m_law_s4 : DS := (sAsg 4 (e2 (addV false) (cE (.int 1)) (eN (callD f__law_draw 2 []) (aC (varE 1) (aC (cE (.int 16)) aN)))))
def m_law_s5 : DS := (sAsg 5 (eN (callD f__law_draw 2 []) (aC (varE 1) (aC (cE (.int 7)) aN))))
def m_law_s6 : DS := (sAsg 6 (eN (callD f__law_drill 4 []) (aC (varE 2) (aC (varE 3) (aC (varE 4) (aC (varE 5) aN))))))
def m_law_s7 : DS := (sAsg 7 (eComp false (iRange2 (cE (.int 1)) (e2 (addV false) (varE 2) (cE (.int 1)))) (.name 8) [8] tYes (eN (makeD true 9 f_Plan_init 3 []) (aC (varE 6) (aC (varE 8) aN)))))
def m_law_s8 : DS := (sFor (iRange1 (varE 2)) (.name 9) m_law_b1)
def m_law_s9 : DS := (sAsg 8 (e2 subV (eN (callD f__law_draw 2 []) (aC (varE 1) (aC (cE (.int 10)) aN))) (cE (.int 1))))
def m_law_s10 : DS := (sIf (tB (e2 (eqV false) (eN (callD f__law_draw 2 []) (aC (varE 1) (aC (cE (.int 8)) aN))) (cE (.int 0)))) (sAsg 8 (e2 subV (eN (callD f__law_draw 2 []) (aC (varE 1) (aC (e2 (addV false) (e2 (mulV false) (cE (.int 2)) (e2 powV (cE (.int 10)) (cE (.int 9)))) (cE (.int 1))) aN))) (e2 powV (cE (.int 10)) (cE (.int 9))))) sNext)
def m_law_s11 : DS := (sIf (tOr (tB (e2 (eqV true) (eN (callD f__law_refused 2 []) (aC (varE 6) (aC (cE (.int 0)) aN))) (cE (.int 1)))) (tB (e2 (eqV true) (eN (callD f__law_refused 2 []) (aC (varE 6) (aC (e2 (addV false) (varE 2) (cE (.int 1))) aN))) (cE (.int 1))))) (sRet (cE (.bl false))) sNext)
def m_law_s12 : DS := (sRet (e2 (eqV false) (eN (callD f__law_refused 2 []) (aC (varE 6) (aC (varE 8) aN))) (eN intV (aC (orE (e2 ltV (varE 8) (cE (.int 1))) (e2 gtV (varE 8) (varE 2))) aN))))
def m_law : DS := (sSeq m_law_s1 (sSeq m_law_s2 (sSeq m_law_s3 (sSeq m_law_s4 (sSeq m_law_s5 (sSeq m_law_s6 (sSeq m_law_s7 (sSeq m_law_s8 (sSeq m_law_s9 (sSeq m_law_s10 (sSeq m_law_s11 m_law_s12)))))))))))
def f_law : Fn := defF 13 1 m_law
end K07

set_option Elab.async false
set_option linter.all false
set_option maxRecDepth 100000
/-! Db: how mirrors are evaluated by simp. -/
namespace Dl
section
variable {ρ : Env} {L : Led} {a b c : DE} {m n : DA} {f g : V2} {h : V1} {k : VN} {t u : DS} {tc td : DT} {x y : Rv} {i j : Int} {bx : Bool}
@[simp] theorem ev_c {d : D} : cE d ρ L = .ok (.d d) L := rfl
@[simp] theorem ev_e1 : e1 h a ρ L = (a ρ L).bind h := rfl
@[simp] theorem ev_e2 : e2 f a b ρ L = (a ρ L).bind fun x L1 => (b ρ L1).bind fun y L2 => f x y L2 := rfl
@[simp] theorem ev_eN : eN k m ρ L = (m ρ L).bind k := rfl
@[simp] theorem ev_aN : aN ρ L = .ok [] L := rfl
@[simp] theorem ev_aC : aC a m ρ L = (a ρ L).bind fun x L1 => (m ρ L1).bind fun xs L2 => .ok (x :: xs) L2 := rfl
@[simp] theorem ev_tB : tB a ρ L = (a ρ L).bind fun x L1 => match x with
  | .d (.bl b) => .ok b L1
  | _ => .bad := rfl
@[simp] theorem ev_tTru : tTru a ρ L = (a ρ L).bind fun x L1 => match truth L1 x with
  | some b => .ok b L1
  | none => .bad := rfl
@[simp] theorem ev_tAnd : tAnd tc td ρ L = (tc ρ L).bind fun c L1 => if c = true then td ρ L1 else .ok false L1 := rfl
@[simp] theorem ev_tOr : tOr tc td ρ L = (tc ρ L).bind fun c L1 => if c = true then .ok true L1 else td ρ L1 := rfl
@[simp] theorem ev_tNot : tNot tc ρ L = (tc ρ L).bind fun c L1 => .ok (!c) L1 := rfl
@[simp] theorem ev_tYes : tYes ρ L = .ok true L := rfl
@[simp] theorem ev_and : andE a b ρ L = (a ρ L).bind fun x L1 => match x with
  | .d (.bl c) => if c = true then b ρ L1 else .ok (.d (.bl false)) L1
  | _ => .bad := rfl
@[simp] theorem ev_or : orE a b ρ L = (a ρ L).bind fun x L1 => match x with
  | .d (.bl c) => if c = true then .ok (.d (.bl true)) L1 else b ρ L1
  | _ => .bad := rfl
@[simp] theorem ev_not : notE a ρ L = (a ρ L).bind fun x L => match x with
  | .d (.bl c) => .ok (.d (.bl (!c))) L
  | _ => .bad := rfl
@[simp] theorem ev_if : ifE tc a b ρ L = (tc ρ L).bind fun d L1 => if d = true then a ρ L1 else b ρ L1 := rfl
@[simp] theorem ev_chain : chainE f g a b c ρ L = (a ρ L).bind fun x L1 => (b ρ L1).bind fun y L2 => (f x y L2).bind fun z L3 => match z with
  | .d (.bl k) => if k = true then (c ρ L3).bind fun w L4 => g y w L4 else .ok (.d (.bl false)) L3
  | _ => .bad := rfl
@[simp] theorem st_next : sNext ρ L = .next ρ L := rfl
@[simp] theorem st_seq : sSeq t u ρ L = (t ρ L).then u := rfl
@[simp] theorem st_asg {i : Nat} : sAsg i a ρ L = (a ρ L).flow ρ fun v L1 => .next (ρ.set i (some v)) L1 := rfl
@[simp] theorem st_expr : sExpr a ρ L = (a ρ L).flow ρ fun _ L1 => .next ρ L1 := rfl
@[simp] theorem st_ret : sRet a ρ L = (a ρ L).flow ρ fun v L1 => .ret v L1 := rfl
@[simp] theorem st_retN : sRetN ρ L = .ret (.d .non) L := rfl
@[simp] theorem st_if : sIf tc t u ρ L = (tc ρ L).flow ρ fun b L1 => if b = true then t ρ L1 else u ρ L1 := rfl
@[simp] theorem st_brk : sBrk ρ L = .brk ρ L := rfl
@[simp] theorem st_cont : sCont ρ L = .cont ρ L := rfl
@[simp] theorem st_set {s : VS} {o i e : DE} : sSet s o i e ρ L = (e ρ L).flow ρ fun v L1 => (o ρ L1).flow ρ fun x L2 => (i ρ L2).flow ρ fun y L3 => (s x y v L3).flow ρ fun _ L4 => .next ρ L4 := rfl
@[simp] theorem st_attr {t : List (Nat × Nat)} {o e : DE} : sAttr t o e ρ L = (e ρ L).flow ρ fun v L1 => (o ρ L1).flow ρ fun x L2 => (setAttrV t x v L2).flow ρ fun _ L3 => .next ρ L3 := rfl
@[simp] theorem st_unp {p : Pat} : sUnp p a ρ L = (a ρ L).flow ρ fun v L1 => match v with
  | .d x => (match bindP p x ρ with
    | some ρ1 => .next ρ1 L1
    | none => .bad)
  | _ => .bad := rfl
@[simp] theorem st_aug {i : Nat} : sAug i f a ρ L = match ρ[i]? with
  | some (some x) => (a ρ L).flow ρ fun y L1 => (f x y L1).flow ρ fun z L2 => .next (ρ.set i (some z)) L2
  | _ => .bad := rfl
@[simp] theorem st_for {it : DI} {p : Pat} : sFor it p t ρ L = (it ρ L).flow ρ fun src L1 => forK src p t src.len 0 ρ L1 := rfl
@[simp] theorem it_l : iL a ρ L = (a ρ L).bind fun v L1 => match v with
  | .d (.lst xs) => .ok (.vals xs) L1
  | .d (.slst xs) => .ok (.vals xs) L1
  | .loc n => (match L1[n]? with
    | some (.lst xs) => .ok (.at n xs.length) L1
    | _ => .bad)
  | _ => .bad := rfl
/-! values -/
@[simp] theorem v_add : addV bx (.d (.int i)) (.d (.int j)) L = .ok (.d (.int (i + j))) L := rfl
@[simp] theorem v_sub : subV (.d (.int i)) (.d (.int j)) L = .ok (.d (.int (i - j))) L := rfl
@[simp] theorem v_neg : negV (.d (.int i)) L = .ok (.d (.int (-i))) L := rfl
@[simp] theorem v_lt : ltV (.d (.int i)) (.d (.int j)) L = .ok (.d (.bl (decide (i < j)))) L := rfl
@[simp] theorem v_le : leV (.d (.int i)) (.d (.int j)) L = .ok (.d (.bl (decide (i ≤ j)))) L := rfl
@[simp] theorem v_gt : gtV (.d (.int i)) (.d (.int j)) L = .ok (.d (.bl (decide (j < i)))) L := rfl
@[simp] theorem v_ge : geV (.d (.int i)) (.d (.int j)) L = .ok (.d (.bl (decide (j ≤ i)))) L := rfl
theorem v_mul (h : (isB i || isB j) = true) : mulV bx (.d (.int i)) (.d (.int j)) L = .ok (.d (.int (i * j))) L := by
  show (if (isB i || isB j) = true then _ else _) = _
  rw [if_pos h]
theorem v_mod (h : 0 < j) : modV (.d (.int i)) (.d (.int j)) L = .ok (.d (.int (i % j))) L := by
  show (if decide (0 < j) = true then _ else _) = _
  rw [if_pos (decide_eq_true h)]
theorem v_div (h : isDiv j = true) : divV (.d (.int i)) (.d (.int j)) L = .ok (.d (.int (i / j))) L := by
  show (if isDiv j = true then _ else _) = _
  rw [if_pos h]
@[simp] theorem v_eq {n : Bool} : eqV n (.d (.int i)) (.d (.int j)) L = .ok (.d (.bl ((i == j) != n))) L := by simp [eqV, asD, scal, deq]
@[simp] theorem v_eqs {n : Bool} {s t : Txt} : eqV n (.d (.str s)) (.d (.str t)) L = .ok (.d (.bl ((s == t) != n))) L := by simp [eqV, asD, scal, deq]
@[simp] theorem v_int : intV [.d (.int i)] L = .ok (.d (.int i)) L := rfl
@[simp] theorem v_intb {b : Bool} : intV [.d (.bl b)] L = .ok (.d (.int (if b = true then 1 else 0))) L := rfl
@[simp] theorem v_abs : absV [.d (.int i)] L = .ok (.d (.int (if i < 0 then -i else i))) L := rfl
@[simp] theorem v_len {xs : List D} : lenV [.d (.lst xs)] L = .ok (.d (.int xs.length)) L := rfl
theorem v_ix {xs : List D} {v : D} (h : atI xs i = some v) : ixV (.d (.lst xs)) (.d (.int i)) L = .ok (.d v) L := by
  show (match atI xs i with | some v => _ | none => _) = _
  rw [h]
theorem isB_of (h1 : -(2 ^ 64) < i) (h2 : i < 2 ^ 64) : isB i = true := by
  unfold isB
  simp only [decide_eq_true h1, decide_eq_true h2, Bool.and_self]
theorem isDiv_of (h1 : 0 < i) (h2 : i < 2 ^ 62) : isDiv i = true := by
  unfold isDiv
  simp only [decide_eq_true h1, decide_eq_true h2, Bool.and_self]
/-! names -/
@[simp] theorem ev_v0 {r : Env} {v : Rv} : varE 0 (some v :: r) L = .ok v L := rfl
@[simp] theorem ev_vs {n : Nat} {r : Env} {o : Option Rv} : varE (n + 1) (o :: r) L = varE n r L := rfl
theorem dedup_mem : ∀ {r s : List Nat}, (∀ n ∈ r, n ∈ s) → dedup s r = s
  | [], _, _ => rfl
  | n :: r, s, h => by
    show (if n ∈ s then dedup s r else dedup (s ++ [n]) r) = s
    rw [if_pos (h n List.mem_cons_self)]
    exact dedup_mem fun m hm => h m (List.mem_cons_of_mem _ hm)
theorem reach_same {L : Led} {s : List Nat} (h : ∀ n ∈ s, ∀ c, L[n]? = some c → ∀ m ∈ c.locs, m ∈ s) : ∀ k, reach L k s = s
  | 0 => rfl
  | k + 1 => by
    have key : ∀ r, (∀ m ∈ r, m ∈ s) → reach L k (dedup s r) = s := fun r hr => by rw [dedup_mem hr, reach_same h k]
    refine key _ fun m hm => ?_
    obtain ⟨n, hn, h2⟩ := List.mem_flatMap.mp hm
    cases e : L[n]? with
    | none => rw [e] at h2; cases h2
    | some c => rw [e] at h2; exact h n hn c e m h2
theorem rens_locs {f : Nat → Option Nat} (hf : ∀ n, f n = none) : ∀ {xs ys : List Rv}, rens f xs = some ys → xs.flatMap Rv.locs = []
  | [], _, _ => rfl
  | .d x :: r, ys, h => by
    have h1 : ((some (Rv.d x)).bind fun y => (rens f r).map (y :: ·)) = some ys := h
    cases e : rens f r with
    | none => rw [e] at h1; cases h1
    | some zs => exact rens_locs (xs := r) hf e
  | .loc n :: r, ys, h => by
    have h1 : ((f n).map Rv.loc).bind (fun y => (rens f r).map (y :: ·)) = some ys := h
    rw [hf n] at h1
    cases h1
/-- a cell that no renaming changes holds no cells -/
theorem ren_locs : ∀ {c : Cell}, (∀ f, c.ren f = some c) → c.locs = []
  | .lst _, _ => rfl
  | .dK _, _ => rfl
  | .dT _, _ => rfl
  | .dead, _ => rfl
  | .obj k xs, h => by
    have h1 : (rens (fun _ => none) xs).map (Cell.obj k) = some (.obj k xs) := h fun _ => none
    cases e : rens (fun _ => none) xs with
    | none => rw [e] at h1; cases h1
    | some ys => exact rens_locs (fun _ => rfl) e
  | .rcd k xs, h => by
    have h1 : (rens (fun _ => none) xs).map (Cell.rcd k) = some (.rcd k xs) := h fun _ => none
    cases e : rens (fun _ => none) xs with
    | none => rw [e] at h1; cases h1
    | some ys => exact rens_locs (fun _ => rfl) e
  | .seq xs, h => by
    have h1 : (rens (fun _ => none) xs).map Cell.seq = some (.seq xs) := h fun _ => none
    cases e : rens (fun _ => none) xs with
    | none => rw [e] at h1; cases h1
    | some ys => exact rens_locs (fun _ => rfl) e
  | .fz c, h => by
    refine ren_locs (c := c) fun f => ?_
    have h1 : (c.ren f).map Cell.fz = some (.fz c) := h f
    cases e : c.ren f with
    | none => rw [e] at h1; cases h1
    | some d =>
      rw [e] at h1
      have h2 : Cell.fz d = .fz c := Option.some.inj h1
      injection h2 with h3
      rw [h3]
@[simp] theorem leave_d0 {x : D} : leave 0 (.d x) L = .ok (.d x) [] := by
  have e : reach L 3 [] = [] := reach_same (fun _ h => absurd h List.not_mem_nil) 3
  simp [leave, dedup, e, Rv.locs, Rv.ren, picks, crens]
theorem leave_d1 {x : D} {c : Cell} {r : Led} (h : ∀ f, c.ren f = some c) : leave 1 (.d x) (c :: r) = .ok (.d x) [c] := by
  have e : reach (c :: r) 3 [0] = [0] := reach_same (fun n hn d hd m hm => by
    rw [List.mem_singleton.mp hn] at hd
    cases hd
    rw [ren_locs h] at hm
    cases hm) 3
  simp [leave, dedup, Rv.locs, Rv.ren, picks, crens, List.range_succ, h, e]
@[simp] theorem leave_l1 {x : D} {xs : List D} {r : Led} : leave 1 (.d x) (.lst xs :: r) = .ok (.d x) [.lst xs] := leave_d1 fun _ => rfl
@[simp] theorem leaveX0 {c : Nat} {xs : List D} : leaveX 0 c xs L = .exc c xs [] := by
  have e : reach L 3 [] = [] := reach_same (fun _ h => absurd h List.not_mem_nil) 3
  simp [leaveX, picks, crens, e]
theorem leaveX1 {k : Nat} {xs : List D} {c : Cell} {r : Led} (h : ∀ f, c.ren f = some c) : leaveX 1 k xs (c :: r) = .exc k xs [c] := by
  have e : reach (c :: r) 3 [0] = [0] := reach_same (fun n hn d hd m hm => by
    rw [List.mem_singleton.mp hn] at hd
    cases hd
    rw [ren_locs h] at hm
    cases hm) 3
  simp [leaveX, picks, crens, List.range_succ, h, e]
end
end Dl

set_option Elab.async false
set_option linter.all false
set_option maxRecDepth 100000
/-! Dc: loops and comprehensions of mirrors, by invariants. -/
namespace Dl
theorem compK_aux {xs : List D} {p : Pat} {c : DT} {e : DE} {ρ : Env} {L : Led} {q : D → Bool} {g : D → D} (hl : xs.length ≤ SZ) (h : ∀ x ∈ xs, ∃ ρ1, bindP p x ρ = some ρ1 ∧ c ρ1 L = .ok (q x) L ∧ (q x = true → e ρ1 L = .ok (.d (g x)) L)) : ∀ (k i : Nat) (acc : List D), i + k = xs.length → acc.length ≤ i → compK (.vals xs) p c e ρ k i acc L = .ok (acc ++ ((xs.drop i).filter q).map g) L
  | 0, i, acc, e1, e2 => by
    have : xs.drop i = [] := List.drop_eq_nil_of_le (by omega)
    rw [this]
    simp [compK, Src.fin]
  | k + 1, i, acc, e1, e2 => by
    have hi : i < xs.length := by omega
    have hd : xs.drop i = xs[i] :: xs.drop (i + 1) := List.drop_eq_getElem_cons hi
    obtain ⟨ρ1, h1, h2, h3⟩ := h xs[i] (List.getElem_mem hi)
    have hg : (Src.vals xs).get L i = some xs[i] := by simp [Src.get, hi]
    unfold compK
    rw [hg]
    dsimp only
    rw [h1]
    dsimp only
    rw [h2]
    cases hq : q xs[i] with
    | false =>
      dsimp only
      rw [compK_aux hl h k (i + 1) acc (by omega) (by omega), hd, List.filter_cons_of_neg (by simp [hq])]
    | true =>
      dsimp only
      rw [h3 hq]
      dsimp only
      rw [if_pos (by omega), compK_aux hl h k (i + 1) _ (by omega) (by simp; omega), hd, List.filter_cons_of_pos hq, List.map_cons, List.append_assoc]
      rfl
theorem compK_map {xs : List D} {p : Pat} {e : DE} {ρ : Env} {L : Led} {g : D → D} (hl : xs.length ≤ SZ) (h : ∀ x ∈ xs, ∃ ρ1, bindP p x ρ = some ρ1 ∧ e ρ1 L = .ok (.d (g x)) L) : compK (.vals xs) p tYes e ρ xs.length 0 [] L = .ok (xs.map g) L := by
  rw [compK_aux (q := fun _ => true) (g := g) hl (fun x hx => by
    obtain ⟨ρ1, h1, h2⟩ := h x hx
    exact ⟨ρ1, h1, rfl, fun _ => h2⟩) xs.length 0 [] (by omega) (by simp)]
  rw [List.drop_zero, List.nil_append, List.filter_eq_self.mpr fun _ _ => rfl]
theorem compK_filter {xs : List D} {p : Pat} {c : DT} {e : DE} {ρ : Env} {L : Led} {q : D → Bool} {g : D → D} (hl : xs.length ≤ SZ) (h : ∀ x ∈ xs, ∃ ρ1, bindP p x ρ = some ρ1 ∧ c ρ1 L = .ok (q x) L ∧ (q x = true → e ρ1 L = .ok (.d (g x)) L)) : compK (.vals xs) p c e ρ xs.length 0 [] L = .ok ((xs.filter q).map g) L := by
  rw [compK_aux hl h xs.length 0 [] (by omega) (by simp)]
  simp
/-- a loop that goes to its end -/
theorem forK_aux {xs : List D} {p : Pat} {body : DS} (I : Nat → Env → Led → Prop) (h : ∀ i ρ L (hi : i < xs.length), I i ρ L → ∃ ρ1, bindP p xs[i] ρ = some ρ1 ∧ ∃ ρ2 L2, (body ρ1 L = .next ρ2 L2 ∨ body ρ1 L = .cont ρ2 L2) ∧ I (i + 1) ρ2 L2) : ∀ (k i : Nat) (ρ : Env) (L : Led), i + k = xs.length → I i ρ L → ∃ ρ2 L2, forK (.vals xs) p body k i ρ L = .next ρ2 L2 ∧ I xs.length ρ2 L2
  | 0, i, ρ, L, e, hI => by
    have : i = xs.length := by omega
    subst this
    exact ⟨ρ, L, by simp [forK, Src.fin], hI⟩
  | k + 1, i, ρ, L, e, hI => by
    have hi : i < xs.length := by omega
    obtain ⟨ρ1, h1, ρ2, L2, h2, h3⟩ := h i ρ L hi hI
    obtain ⟨ρ3, L3, h4, h5⟩ := forK_aux I h k (i + 1) ρ2 L2 (by omega) h3
    refine ⟨ρ3, L3, ?_, h5⟩
    have hg : (Src.vals xs).get L i = some xs[i] := by simp [Src.get, hi]
    unfold forK
    rw [hg]
    dsimp only
    rw [h1]
    dsimp only
    rcases h2 with h2 | h2 <;> rw [h2] <;> exact h4
theorem forK_inv {xs : List D} {p : Pat} {body : DS} (I : Nat → Env → Led → Prop) {ρ : Env} {L : Led} (h0 : I 0 ρ L) (h : ∀ i ρ L (hi : i < xs.length), I i ρ L → ∃ ρ1, bindP p xs[i] ρ = some ρ1 ∧ ∃ ρ2 L2, (body ρ1 L = .next ρ2 L2 ∨ body ρ1 L = .cont ρ2 L2) ∧ I (i + 1) ρ2 L2) : ∃ ρ2 L2, forK (.vals xs) p body xs.length 0 ρ L = .next ρ2 L2 ∧ I xs.length ρ2 L2 := forK_aux I h xs.length 0 ρ L (by omega) h0
theorem forK_next {src : Src} {p : Pat} {body : DS} {k i : Nat} {ρ ρ1 ρ2 : Env} {L L2 : Led} {v : D} (hg : src.get L i = some v) (hp : bindP p v ρ = some ρ1) (hb : body ρ1 L = .next ρ2 L2) : forK src p body (k + 1) i ρ L = forK src p body k (i + 1) ρ2 L2 := by
  rw [forK, hg]
  dsimp only
  rw [hp]
  dsimp only
  rw [hb]
theorem vals_at {xs : List D} {i : Nat} (hi : i < xs.length) (L : Led) : (Src.vals xs).get L i = some xs[i] := by simp [Src.get, hi]
@[simp] theorem rngL_len {a b : Int} : (rangeL a b).length = (b - a).toNat := by simp [rangeL]
theorem rngL_at {a b : Int} {i : Nat} (h : i < (rangeL a b).length) : (rangeL a b)[i] = .int (a + i) := by simp [rangeL]
theorem rngL_mem {a b : Int} {x : D} (h : x ∈ rangeL a b) : ∃ k : Int, x = .int k ∧ a ≤ k ∧ k < b := by
  unfold rangeL at h
  obtain ⟨k, hk, e⟩ := List.mem_map.mp h
  rw [List.mem_range] at hk
  exact ⟨a + k, e.symm, by omega, by omega⟩
theorem rngL_map {a b : Int} {g : D → D} : (rangeL a b).map g = (List.range (b - a).toNat).map fun k : Nat => g (.int (a + k)) := by
  unfold rangeL
  rw [List.map_map]
  rfl
theorem atI_range {α : Type} {n : Nat} {f : Nat → α} {i : Int} (h1 : 0 ≤ i) (h2 : i < n) : atI ((List.range n).map f) i = some (f i.toNat) := by
  have h3 : i.toNat < n := by omega
  simp [atI, ixN, h1, h2, h3]
end Dl

set_option Elab.async false
set_option linter.all false
set_option maxRecDepth 100000
/-! k06: the mirrors (written by gen.py). -/
namespace K06
open Dl
abbrev errs : List Nat := [0, 1, 2, 3, 4, 5, 6, 7]
def sub (c b : Nat) : Bool := c == b || b == 0
def m__law_begin : DS := (sSeq (sAsg 1 (cE (.int 0))) (sSeq (sFor (iL (varE 0)) (.name 2) (sAsg 1 (e2 modV (eN intV (aC (e2 (addV false) (e2 (addV false) (e2 (mulV false) (varE 1) (cE (.int 31))) (varE 2)) (cE (.int 7))) aN)) (cE (.int 2147483647))))) (sRet (eN (dictV [[99, 101, 108, 108, 115], [97, 116], [114, 101, 115, 116], [115, 101, 101, 100], [99, 111, 117, 110, 116]]) (aC (eN (listV false) (aC (varE 0) aN)) (aC (cE (.int 0)) (aC (cE (.int 0)) (aC (varE 1) (aC (cE (.int 0)) aN)))))))))
def f__law_begin : Fn := defF 3 1 m__law_begin
def m__law_mix : DS := (sSeq (sAsg 2 (e2 modV (eN intV (aC (e2 (addV false) (e2 (addV false) (e2 (mulV false) (varE 0) (cE (.int 48271))) (e2 (mulV false) (varE 1) (cE (.int 69621)))) (cE (.int 11))) aN)) (cE (.int 2147483647)))) (sSeq (sAsg 2 (e2 modV (eN intV (aC (e2 (addV false) (e2 (addV false) (e2 (mulV false) (varE 2) (varE 2)) (e2 (mulV false) (varE 1) (cE (.int 40692)))) (cE (.int 5))) aN)) (cE (.int 2147483629)))) (sSeq (sAsg 2 (e2 modV (eN intV (aC (e2 (addV false) (e2 (addV false) (e2 (mulV false) (varE 2) (varE 2)) (e2 (mulV false) (varE 0) (cE (.int 3)))) (cE (.int 1))) aN)) (cE (.int 2147483587)))) (sRet (e2 divV (varE 2) (cE (.int 3)))))))
def f__law_mix : Fn := defF 3 2 m__law_mix
def m__law_draw : DS := (sSeq (sSet setV (varE 0) (cE (.str [99, 111, 117, 110, 116])) (e2 (addV false) (e2 ixV (varE 0) (cE (.str [99, 111, 117, 110, 116]))) (cE (.int 1)))) (sSeq (sIf (tAnd (tB (e2 (eqV false) (e2 ixV (varE 0) (cE (.str [114, 101, 115, 116]))) (cE (.int 0)))) (tB (e2 ltV (e2 ixV (varE 0) (cE (.str [97, 116]))) (eN lenV (aC (e2 ixV (varE 0) (cE (.str [99, 101, 108, 108, 115]))) aN))))) (sSeq (sAsg 3 (eN absV (aC (e2 ixV (e2 ixV (varE 0) (cE (.str [99, 101, 108, 108, 115]))) (e2 ixV (varE 0) (cE (.str [97, 116])))) aN))) (sSeq (sSet setV (varE 0) (cE (.str [97, 116])) (e2 (addV false) (e2 ixV (varE 0) (cE (.str [97, 116]))) (cE (.int 1)))) (sSeq (sIf (tB (e2 ltV (varE 3) (e2 powV (cE (.int 10)) (cE (.int 18))))) (sRet (e2 modV (eN intV (aC (varE 3) aN)) (varE 1))) sNext) (sSet setV (varE 0) (cE (.str [114, 101, 115, 116])) (varE 3))))) sNext) (sSeq (sIf (tB (e2 gtV (e2 ixV (varE 0) (cE (.str [114, 101, 115, 116]))) (cE (.int 0)))) (sSeq (sAsg 2 (e2 modV (eN intV (aC (e2 ixV (varE 0) (cE (.str [114, 101, 115, 116]))) aN)) (varE 1))) (sSeq (sSet setV (varE 0) (cE (.str [114, 101, 115, 116])) (e2 divV (e2 ixV (varE 0) (cE (.str [114, 101, 115, 116]))) (varE 1))) (sRet (varE 2)))) sNext) (sSeq (sIf (tB (e2 (eqV false) (eN lenV (aC (e2 ixV (varE 0) (cE (.str [99, 101, 108, 108, 115]))) aN)) (cE (.int 0)))) (sRet (e2 modV (eN intV (aC (e2 ixV (varE 0) (cE (.str [99, 111, 117, 110, 116]))) aN)) (varE 1))) sNext) (sRet (e2 modV (eN intV (aC (eN (callD f__law_mix 2 []) (aC (e2 ixV (varE 0) (cE (.str [115, 101, 101, 100]))) (aC (e2 ixV (varE 0) (cE (.str [99, 111, 117, 110, 116]))) aN))) aN)) (varE 1)))))))
def f__law_draw : Fn := defF 4 2 m__law_draw
def m__law_first_bad : DS := (sSeq (sAsg 4 (eN (lstV false) (aC (cE (.str [112, 105, 112, 101, 115])) (aC (cE (.str [114, 111, 119, 115])) (aC (cE (.str [112, 108, 97, 99, 101, 115])) (aC (cE (.str [116, 117, 114, 110, 105, 110, 103])) aN)))))) (sSeq (sAsg 3 (eN (lstV false) (aC (cE (.int 1)) (aC (cE (.int 1)) (aC (cE (.int 1)) (aC (cE (.int 0)) aN)))))) (sSeq (sAsg 2 (eN (lstV false) (aC (cE (.int 6)) (aC (cE (.int 16)) (aC (cE (.int 16)) (aC (cE (.int 6)) aN)))))) (sSeq (sFor (iRange1 (cE (.int 4))) (.name 1) (sIf (tOr (tB (e2 ltV (e2 ixV (varE 0) (varE 1)) (e2 ixV (varE 3) (varE 1)))) (tB (e2 gtV (e2 ixV (varE 0) (varE 1)) (e2 ixV (varE 2) (varE 1))))) (sRet (e2 ixV (varE 4) (varE 1))) sNext)) (sRet (cE (.str [])))))))
def f__law_first_bad : Fn := defF 5 1 m__law_first_bad
def m0_BadNumber : DE := (e2 (addV false) (cE (.str [110, 117, 109, 98, 101, 114, 32, 111, 117, 116, 32, 111, 102, 32, 114, 97, 110, 103, 101, 58, 32])) (varE 1))
def m_within : DS := (sIf (tNot (tB (chainE leV leV (varE 2) (varE 1) (varE 3)))) (sRaiseI 1 1 m0_BadNumber (aC (varE 0) aN)) sNext)
def f_within : Fn := defF 4 4 m_within
def m_Drill_init : DS := (sSeq (sExpr (eN (callD f_within 4 []) (aC (cE (.str [112, 105, 112, 101, 115])) (aC (varE 1) (aC (cE (.int 1)) (aC (cE (.int 6)) aN)))))) (sSeq (sExpr (eN (callD f_within 4 []) (aC (cE (.str [114, 111, 119, 115])) (aC (varE 2) (aC (cE (.int 1)) (aC (cE (.int 16)) aN)))))) (sSeq (sExpr (eN (callD f_within 4 []) (aC (cE (.str [112, 108, 97, 99, 101, 115])) (aC (varE 3) (aC (cE (.int 1)) (aC (cE (.int 16)) aN)))))) (sSeq (sExpr (eN (callD f_within 4 []) (aC (cE (.str [116, 117, 114, 110, 105, 110, 103])) (aC (varE 4) (aC (cE (.int 0)) (aC (cE (.int 6)) aN)))))) (sSeq (sAttr [(8, 0)] (varE 0) (varE 1)) (sSeq (sAttr [(8, 1)] (varE 0) (varE 2)) (sSeq (sAttr [(8, 2)] (varE 0) (varE 3)) (sAttr [(8, 3)] (varE 0) (varE 4)))))))))
def f_Drill_init : Fn := defF 5 5 m_Drill_init
def mkk_Drill_3_turning_g (xs ys : List Rv) : List Rv := xs ++ ys
def m__law_made : DS := (sSeq (sTry sub errs (sAsg 1 (makeK true 8 f_Drill_init 5 mkk_Drill_3_turning_g (aC (e2 ixV (varE 0) (cE (.int 0))) (aC (e2 ixV (varE 0) (cE (.int 1))) (aC (e2 ixV (varE 0) (cE (.int 2))) aN))) (aC (e2 ixV (varE 0) (cE (.int 3))) aN))) [(1, some 2, fun c xs => (sSeq (sIf (tB (eIsE sub errs c (eN tupV (aC (cE (.cls 2)) (aC (cE (.cls 4)) (aC (cE (.cls 6)) (aC (cE (.cls 3)) (aC (cE (.cls 5)) (aC (cE (.cls 7)) aN))))))))) (sRet (eN (lstV false) (aC (cE (.str [114, 101, 102, 117, 115, 101, 100])) aN))) sNext) (sSeq (sIf (tOr (tNot (tB (eIsE sub errs c (cE (.cls 0))))) (tNot (tB (cE (.bl true))))) (sRet (eN (lstV false) (aC (cE (.str [114, 101, 102, 117, 115, 101, 100])) aN))) sNext) (sRet (eN (lstV false) (aC (cE (.str [114, 101, 102, 117, 115, 101, 100])) (aC (excE xs 0) aN)))))))]) (sRet (eN (lstV false) (aC (e1 (attrV [(8, 0)]) (varE 1)) (aC (e1 (attrV [(8, 1)]) (varE 1)) (aC (e1 (attrV [(8, 2)]) (varE 1)) (aC (e1 (attrV [(8, 3)]) (varE 1)) aN)))))))
def f__law_made : Fn := defF 3 1 m__law_made
def m__law_number : DS := (sRet (andE (e1 (isTyV .int) (varE 0)) (notE (e1 (isTyV .bool) (varE 0)))))
def f__law_number : Fn := defF 1 1 m__law_number
def m_law_s1 : DS := (sAsg 1 (eN (callD f__law_begin 1 []) (aC (varE 0) aN)))
def m_law_s2 : DS := (sAsg 2 (eN (lstV true) (aC (e2 subV (eN (callD f__law_draw 2 []) (aC (varE 1) (aC (cE (.int 10)) aN))) (cE (.int 1))) (aC (e2 subV (eN (callD f__law_draw 2 []) (aC (varE 1) (aC (cE (.int 20)) aN))) (cE (.int 1))) (aC (e2 subV (eN (callD f__law_draw 2 []) (aC (varE 1) (aC (cE (.int 20)) aN))) (cE (.int 1))) (aC (e2 subV (eN (callD f__law_draw 2 []) (aC (varE 1) (aC (cE (.int 10)) aN))) (cE (.int 1))) aN))))))
def m_law_s3 : DS := (sIf (tB (e2 (eqV false) (eN (callD f__law_draw 2 []) (aC (varE 1) (aC (cE (.int 8)) aN))) (cE (.int 0)))) (sSeq (sAsg 3 (eN (callD f__law_draw 2 []) (aC (varE 1) (aC (cE (.int 4)) aN)))) (sSet setV (varE 2) (varE 3) (e2 subV (eN (callD f__law_draw 2 []) (aC (varE 1) (aC (e2 (addV false) (e2 (mulV false) (cE (.int 2)) (e2 powV (cE (.int 10)) (cE (.int 9)))) (cE (.int 1))) aN))) (e2 powV (cE (.int 10)) (cE (.int 9)))))) sNext)
def m_law_s4 : DS := (sAsg 4 (eN (callD f__law_first_bad 1 []) (aC (varE 2) aN)))
def m_law_s5 : DS := (sAsg 5 (eN (callD f__law_made 1 []) (aC (varE 2) aN)))
def m_law_s6 : DS := (sIf (tB (e2 (eqV true) (varE 4) (cE (.str [])))) (sIf (tB (e2 (eqV true) (varE 5) (eN (lstV false) (aC (cE (.str [114, 101, 102, 117, 115, 101, 100])) (aC (varE 4) aN))))) (sRet (cE (.bl false))) sNext) (sIf (tOr (tB (e2 (eqV true) (varE 5) (varE 2))) (tB (e2 (eqV true) (eComp false (iL (varE 5)) (.name 6) [6] (tNot (tTru (eN (callD f__law_number 1 []) (aC (varE 6) aN)))) (varE 6)) (eN (lstV false) aN)))) (sRet (cE (.bl false))) sNext))
def m_law_s7 : DS := (sAsg 7 (eN (lstV false) (aC (e2 (addV false) (cE (.int 1)) (eN (callD f__law_draw 2 []) (aC (varE 1) (aC (cE (.int 6)) aN)))) (aC (e2 (addV false) (cE (.int 1)) (eN (callD f__law_draw 2 []) (aC (varE 1) (aC (cE (.int 16)) aN)))) (aC (e2 (addV false) (cE (.int 1)) (eN (callD f__law_draw 2 []) (aC (varE 1) (aC (cE (.int 16)) aN)))) aN)))))
def m_law_s8 : DS := (sAsg 8 (eN (makeD true 8 f_Drill_init 5 [(.int 0)]) (aC (e2 ixV (varE 7) (cE (.int 0))) (aC (e2 ixV (varE 7) (cE (.int 1))) (aC (e2 ixV (varE 7) (cE (.int 2))) aN)))))
def m_law_s9 : DS := (sIf (tOr (tNot (tTru (eN (callD f__law_number 1 []) (aC (e1 (attrV [(8, 3)]) (varE 8)) aN)))) (tB (e2 (eqV true) (eN (lstV false) (aC (e1 (attrV [(8, 0)]) (varE 8)) (aC (e1 (attrV [(8, 1)]) (varE 8)) (aC (e1 (attrV [(8, 2)]) (varE 8)) (aC (e1 (attrV [(8, 3)]) (varE 8)) aN))))) (e2 (addV false) (varE 7) (eN (lstV false) (aC (cE (.int 0)) aN)))))) (sRet (cE (.bl false))) sNext)
def m_law_s10 : DS := (sAsg 9 (eN (lstV false) (aC (cE (.int 6)) (aC (cE (.int 16)) (aC (cE (.int 16)) (aC (cE (.int 6)) aN))))))
def m_law_s11 : DS := (sRet (andE (e2 (eqV false) (varE 9) (eN (lstV false) (aC (cE (.int 6)) (aC (cE (.int 16)) (aC (cE (.int 16)) (aC (cE (.int 6)) aN)))))) (andE (e2 (eqV false) (eN (callD f__law_made 1 []) (aC (varE 9) aN)) (varE 9)) (e2 (eqV false) (eN (callD f__law_made 1 []) (aC (eN (lstV false) (aC (cE (.int 1)) (aC (cE (.int 1)) (aC (cE (.int 1)) (aC (cE (.int 0)) aN))))) aN)) (eN (lstV false) (aC (cE (.int 1)) (aC (cE (.int 1)) (aC (cE (.int 1)) (aC (cE (.int 0)) aN)))))))))
def m_law : DS := (sSeq m_law_s1 (sSeq m_law_s2 (sSeq m_law_s3 (sSeq m_law_s4 (sSeq m_law_s5 (sSeq m_law_s6 (sSeq m_law_s7 (sSeq m_law_s8 (sSeq m_law_s9 (sSeq m_law_s10 m_law_s11))))))))))
def f_law : Fn := defF 10 1 m_law
end K06

set_option Elab.async false
set_option linter.all false
set_option maxRecDepth 100000
/-! Dr: the draws that all laws share. -/
namespace Dr
open Dl
abbrev m_mix : DS := K06.m__law_mix
abbrev f_mix : Fn := K06.f__law_mix
abbrev m_draw : DS := K06.m__law_draw
abbrev f_draw : Fn := K06.f__law_draw
abbrev K5 : List Txt := [[99, 101, 108, 108, 115], [97, 116], [114, 101, 115, 116], [115, 101, 101, 100], [99, 111, 117, 110, 116]]
def stC (cells : List Int) (at_ rest seed count : Int) : Cell := .rcd K5 [.d (.lst (cells.map .int)), .d (.int at_), .d (.int rest), .d (.int seed), .d (.int count)]
theorem mix_run (n c : Int) : ∃ v, f_mix [.d (.int n), .d (.int c)] [] = .ok (.d (.int v)) [] := by
  have b1 : isB 48271 = true := by decide
  have b2 : isB 69621 = true := by decide
  have b3 : isB 40692 = true := by decide
  have b4 : isB 3 = true := by decide
  have key : ∀ a : Int, isB (a % 2147483647) = true := fun a => isB_of (by omega) (by omega)
  have key2 : ∀ a : Int, isB (a % 2147483629) = true := fun a => isB_of (by omega) (by omega)
  simp [K06.f__law_mix, K06.m__law_mix, defF, sSeq, sAsg, sRet, e2, eN, aC, aN, cE, varE, addV, mulV, modV, divV, intV, vn1, int1, b1, b2, b3, b4, key, key2, isDiv, leave, leaveX, reach, dedup, Rv.locs, Rv.ren, picks, crens]
section
variable {cells : List Int} {a r s c : Int}
theorem g_cells : ixV (.loc 0) (.d (.str [99, 101, 108, 108, 115])) [stC cells a r s c] = .ok (.d (.lst (cells.map .int))) [stC cells a r s c] := rfl
theorem g_at : ixV (.loc 0) (.d (.str [97, 116])) [stC cells a r s c] = .ok (.d (.int a)) [stC cells a r s c] := rfl
theorem g_rest : ixV (.loc 0) (.d (.str [114, 101, 115, 116])) [stC cells a r s c] = .ok (.d (.int r)) [stC cells a r s c] := rfl
theorem g_seed : ixV (.loc 0) (.d (.str [115, 101, 101, 100])) [stC cells a r s c] = .ok (.d (.int s)) [stC cells a r s c] := rfl
theorem g_count : ixV (.loc 0) (.d (.str [99, 111, 117, 110, 116])) [stC cells a r s c] = .ok (.d (.int c)) [stC cells a r s c] := rfl
theorem s_at {x : Int} : setV (.loc 0) (.d (.str [97, 116])) (.d (.int x)) [stC cells a r s c] = .ok () [stC cells x r s c] := rfl
theorem s_rest {x : Int} : setV (.loc 0) (.d (.str [114, 101, 115, 116])) (.d (.int x)) [stC cells a r s c] = .ok () [stC cells a x s c] := rfl
theorem s_count {x : Int} : setV (.loc 0) (.d (.str [99, 111, 117, 110, 116])) (.d (.int x)) [stC cells a r s c] = .ok () [stC cells a r s x] := rfl
theorem atI_map {i : Int} (h1 : 0 ≤ i) (h2 : i < cells.length) : ∃ v, atI (cells.map D.int) i = some (.int v) := by
  have h3 : i.toNat < cells.length := by omega
  refine ⟨cells[i.toNat], ?_⟩
  simp [atI, ixN, h1, h2, h3]
theorem call_mix {x y : Int} {L : Led} : ∃ v, callD f_mix 2 [] [.d (.int x), .d (.int y)] L = .ok (.d (.int v)) L := by
  obtain ⟨v, h⟩ := mix_run x y
  refine ⟨v, ?_⟩
  simp [callD, callF, reach, dedup, Rv.locs, rens, Rv.ren, picks, crens, h, writes]
theorem lv {v : Int} {st : Cell} (h : st = stC cells a r s c) : leave 1 (.d (.int v)) [st] = .ok (.d (.int v)) [st] := by
  subst h
  simp [leave, dedup, reach, Cell.locs, Rv.locs, Rv.ren, picks, crens, stC, Cell.ren, rens, List.range_succ]
end
/-- a draw: within 0 .. many, the state kept in shape -/
theorem draw_run (cells : List Int) (at_ rest seed count many : Int) (h1 : 0 ≤ at_) (h2 : at_ ≤ cells.length) (h3 : 0 ≤ rest) (h4 : 0 < many) (h5 : many < 2 ^ 62) :
    ∃ v at' rest' count', f_draw [.loc 0, .d (.int many)] [stC cells at_ rest seed count] = .ok (.d (.int v)) [stC cells at' rest' seed count'] ∧ 0 ≤ v ∧ v < many ∧ 0 ≤ at' ∧ at' ≤ cells.length ∧ 0 ≤ rest' := by
  have b1 : isDiv many = true := by
    simp only [isDiv, Bool.and_eq_true, decide_eq_true_eq]
    exact ⟨h4, h5⟩
  have m1 : ∀ x : Int, 0 ≤ x % many := fun x => Int.emod_nonneg _ (by omega)
  have m2 : ∀ x : Int, x % many < many := fun x => Int.emod_lt_of_pos _ h4
  have p1 : ∀ L, powV (.d (.int 10)) (.d (.int 18)) L = .ok (.d (.int 1000000000000000000)) L := fun L => by simp [powV]
  have go : ∀ x y : DS, x = y → True := fun _ _ _ => trivial
  by_cases hr : rest = 0
  · by_cases ha : at_ < cells.length
    · obtain ⟨cv, hcv⟩ := atI_map (cells := cells) h1 ha
      by_cases hs : (if cv < 0 then -cv else cv) < 1000000000000000000
      · refine ⟨(if cv < 0 then -cv else cv) % many, at_ + 1, rest, count + 1, ?_, m1 _, m2 _, by omega, by omega, h3⟩
        subst hr
        simp [K06.f__law_draw, K06.m__law_draw, defF, g_cells, g_at, g_rest, g_seed, g_count, s_at, s_rest, s_count, ha, v_ix hcv, p1, hs, v_mod h4, lv rfl]
      · have hp : 0 < (if cv < 0 then -cv else cv) := by omega
        refine ⟨(if cv < 0 then -cv else cv) % many, at_ + 1, (if cv < 0 then -cv else cv) / many, count + 1, ?_, m1 _, m2 _, by omega, by omega, Int.ediv_nonneg (by omega) (by omega)⟩
        subst hr
        simp [K06.f__law_draw, K06.m__law_draw, defF, g_cells, g_at, g_rest, g_seed, g_count, s_at, s_rest, s_count, ha, v_ix hcv, p1, hs, v_mod h4, v_div b1, hp, lv rfl]
    · by_cases hc : cells.length = 0
      · refine ⟨(count + 1) % many, at_, rest, count + 1, ?_, m1 _, m2 _, h1, h2, h3⟩
        subst hr
        have ha2 : ¬ at_ < 0 := by omega
        simp [K06.f__law_draw, K06.m__law_draw, defF, g_cells, g_at, g_rest, g_seed, g_count, s_at, s_rest, s_count, ha, ha2, hc, p1, v_mod h4, v_div b1, lv rfl]
      · obtain ⟨v, hv⟩ := call_mix (x := seed) (y := count + 1) (L := [stC cells at_ rest seed (count + 1)])
        refine ⟨v % many, at_, rest, count + 1, ?_, m1 _, m2 _, h1, h2, h3⟩
        subst hr
        simp [K06.f__law_draw, K06.m__law_draw, defF, g_cells, g_at, g_rest, g_seed, g_count, s_at, s_rest, s_count, ha, hc, p1, v_mod h4, v_div b1, hv, lv rfl]
  · have hp : 0 < rest := by omega
    refine ⟨rest % many, at_, rest / many, count + 1, ?_, m1 _, m2 _, h1, h2, Int.ediv_nonneg h3 (by omega)⟩
    simp [K06.f__law_draw, K06.m__law_draw, defF, g_cells, g_at, g_rest, g_seed, g_count, s_at, s_rest, s_count, hr, hp, p1, v_mod h4, v_div b1, lv rfl]
/-- the state stands at a place of the ledger -/
structure StAt (L : Led) (n : Nat) : Prop where
  ex : ∃ cells a r s c, L[n]? = some (stC cells a r s c) ∧ 0 ≤ a ∧ a ≤ (cells.length : Int) ∧ 0 ≤ r
theorem stC_locs {cells : List Int} {a r s c : Int} : (stC cells a r s c).locs = [] := rfl
/-- a draw, by its caller: the state alone changes -/
theorem draw_call {L : Led} {n : Nat} {many : Int} (h : StAt L n) (h4 : 0 < many) (h5 : many < 2 ^ 62) : ∃ v st, callD f_draw 2 [] [.loc n, .d (.int many)] L = .ok (.d (.int v)) (L.set n st) ∧ 0 ≤ v ∧ v < many ∧ StAt (L.set n st) n := by
  obtain ⟨cells, a, r, s, c, hL, h1, h2, h3⟩ := h.ex
  obtain ⟨v, a', r', c', e, q1, q2, q3, q4, q5⟩ := draw_run cells a r s c many h1 h2 h3 h4 h5
  have hn : n < L.length := (List.getElem?_eq_some_iff.mp hL).1
  refine ⟨v, stC cells a' r' s c', ?_, q1, q2, ⟨⟨cells, a', r', s, c', by rw [List.getElem?_set_self hn], q3, q4, q5⟩⟩⟩
  have e1 : ∀ (x : Cell), x = stC cells a r s c → x.ren (place [n]) = some x := fun x hx => by
    subst hx
    simp [stC, Cell.ren, rens, Rv.ren]
  have e2 : ∀ (x : Cell), x = stC cells a' r' s c' → x.ren (back [n] L.length) = some x := fun x hx => by
    subst hx
    simp [stC, Cell.ren, rens, Rv.ren]
  simp [callD, callF, Rv.locs, dedup, reach, hL, stC_locs, rens, Rv.ren, place, picks, crens, e1 _ rfl, e, e2 _ rfl, writes, List.findIdx?_cons]
/-! ### the state's beginning -/
theorem begin_loop (ns : List Int) : ∀ (k i : Nat) (s : Int) (x : Rv) (o : Option Rv), i + k = ns.length → ∃ s' o', forK (.vals (ns.map D.int)) (.name 2) (sAsg 1 (e2 modV (eN intV (aC (e2 (addV false) (e2 (addV false) (e2 (mulV false) (varE 1) (cE (.int 31))) (varE 2)) (cE (.int 7))) aN)) (cE (.int 2147483647)))) k i [some x, some (.d (.int s)), o] [] = .next [some x, some (.d (.int s')), o'] []
  | 0, i, s, x, o, h => ⟨s, o, rfl⟩
  | k + 1, i, s, x, o, h => by
    have hi : i < ns.length := by omega
    obtain ⟨s', o', e⟩ := begin_loop ns k (i + 1) ((s * 31 + ns[i] + 7) % 2147483647) x (some (.d (.int ns[i]))) (by omega)
    refine ⟨s', o', ?_⟩
    have b : (isB s || isB 31) = true := by simp [show isB 31 = true by decide]
    have g : (Src.vals (ns.map D.int)).get [] i = some (.int ns[i]) := by simp [Src.get, hi]
    unfold forK
    rw [g]
    simp [bindP, v_mul b, v_mod, e]
theorem begin_run (ns : List Int) : ∃ s, K06.f__law_begin [.d (.slst (ns.map D.int))] [] = .ok (.loc 0) [stC ns 0 0 s 0] := by
  obtain ⟨s, o, e⟩ := begin_loop ns ns.length 0 0 (.d (.slst (ns.map D.int))) none (by omega)
  refine ⟨s, ?_⟩
  have h1 : ∀ L, listV false [.d (.slst (ns.map D.int))] L = .ok (.d (.lst (ns.map D.int))) L := fun L => rfl
  simp [K06.f__law_begin, K06.m__law_begin, defF, Src.len, e, h1, dictV]
  simp [leave, dedup, reach, Rv.locs, Rv.ren, place, picks, crens, Cell.ren, Cell.locs, rens, stC, List.findIdx?_cons]
theorem begin_call (ns : List Int) (L : Led) : ∃ s, callD K06.f__law_begin 1 [] [.d (.slst (ns.map D.int))] L = .ok (.loc L.length) (L ++ [stC ns 0 0 s 0]) := by
  obtain ⟨s, e⟩ := begin_run ns
  refine ⟨s, ?_⟩
  simp [callD, callF, Rv.locs, dedup, reach, rens, Rv.ren, picks, crens, e, back, writes, Cell.ren, stC]
/-- a state in shape -/
structure StOk (st : Cell) : Prop where
  ex : ∃ cells a r s c, st = stC cells a r s c ∧ 0 ≤ a ∧ a ≤ (cells.length : Int) ∧ 0 ≤ r
theorem StOk.ren {st : Cell} (h : StOk st) (f : Nat → Option Nat) : st.ren f = some st := by
  obtain ⟨cells, a, r, s, c, e, _⟩ := h.ex
  subst e
  simp [stC, Cell.ren, rens, Rv.ren]
theorem StOk.locs {st : Cell} (h : StOk st) : st.locs = [] := by
  obtain ⟨cells, a, r, s, c, e, _⟩ := h.ex
  subst e
  rfl
theorem StOk.start (ns : List Int) (s : Int) : StOk (stC ns 0 0 s 0) := ⟨⟨ns, 0, 0, s, 0, rfl, by omega, by omega, by omega⟩⟩
theorem draw0 {st : Cell} {r : Led} {many : Int} (h : StOk st) (h4 : 0 < many) (h5 : many < 2 ^ 62) : ∃ v st', callD f_draw 2 [] [.loc 0, .d (.int many)] (st :: r) = .ok (.d (.int v)) (st' :: r) ∧ 0 ≤ v ∧ v < many ∧ StOk st' := by
  obtain ⟨cells, a, r', s, c, e, h1, h2, h3⟩ := h.ex
  subst e
  obtain ⟨v, st', q1, q2, q3, q4⟩ := draw_call (L := stC cells a r' s c :: r) (n := 0) (many := many) ⟨⟨cells, a, r', s, c, rfl, h1, h2, h3⟩⟩ h4 h5
  refine ⟨v, st', q1, q2, q3, ?_⟩
  obtain ⟨cells2, a2, r2, s2, c2, e2, h7, h8, h9⟩ := q4.ex
  have e3 : st' = stC cells2 a2 r2 s2 c2 := by simpa using e2
  exact ⟨⟨cells2, a2, r2, s2, c2, e3, h7, h8, h9⟩⟩
end Dr

set_option Elab.async false
set_option linter.all false
set_option maxRecDepth 100000
/-! M06: what k06 computes. -/
namespace K06
open Dl Dr
abbrev tP : Txt := [112, 105, 112, 101, 115]
abbrev tR : Txt := [114, 111, 119, 115]
abbrev tS : Txt := [112, 108, 97, 99, 101, 115]
abbrev tT : Txt := [116, 117, 114, 110, 105, 110, 103]
abbrev tX : Txt := [114, 101, 102, 117, 115, 101, 100]
theorem within_run (s : Txt) (n lo hi : Int) (h : s.length ≤ 100) : f_within [.d (.str s), .d (.int n), .d (.int lo), .d (.int hi)] [] = if lo ≤ n ∧ n ≤ hi then .ok (.d .non) [] else .exc 1 [.str s] [] := by
  by_cases h1 : lo ≤ n
  · by_cases h2 : n ≤ hi
    · simp [f_within, m_within, defF, h1, h2, leave, dedup, reach, Rv.locs, Rv.ren, picks, crens]
    · have h3 : s.length + 21 ≤ SZ := by show s.length + 21 ≤ 16777216; omega
      simp [f_within, m_within, defF, h1, h2, sRaiseI, pures, m0_BadNumber, addV, leaveX, reach, dedup, Cell.locs, picks, crens, Nat.add_comm, h3]
  · have h3 : s.length + 21 ≤ SZ := by show s.length + 21 ≤ 16777216; omega
    simp [f_within, m_within, defF, h1, sRaiseI, pures, m0_BadNumber, addV, leaveX, reach, dedup, Cell.locs, picks, crens, Nat.add_comm, h3]
theorem within_call (s : Txt) (n lo hi : Int) (L : Led) (h : s.length ≤ 100) : callD f_within 4 [] [.d (.str s), .d (.int n), .d (.int lo), .d (.int hi)] L = if lo ≤ n ∧ n ≤ hi then .ok (.d .non) L else .exc 1 [.str s] L := by
  by_cases h1 : lo ≤ n ∧ n ≤ hi
  · simp [callD, callF, Rv.locs, dedup, reach, rens, Rv.ren, picks, crens, within_run s n lo hi h, h1, writes]
  · simp only [callD, callF, Rv.locs, dedup, reach, rens, Rv.ren, picks, crens, within_run s n lo hi h, if_neg h1]
    simp [Rv.locs, dedup, reach, rens, Rv.ren, picks, crens, within_run s n lo hi h, if_neg h1, writes]
def bad4 (a b c d : Int) : Txt := if 1 ≤ a ∧ a ≤ 6 then (if 1 ≤ b ∧ b ≤ 16 then (if 1 ≤ c ∧ c ≤ 16 then (if 0 ≤ d ∧ d ≤ 6 then [] else tT) else tS) else tR) else tP
theorem init_run (a b c d : Int) : f_Drill_init [.loc 0, .d (.int a), .d (.int b), .d (.int c), .d (.int d)] [.obj 8 []] = if bad4 a b c d = [] then .ok (.d .non) [.obj 8 [.d (.int a), .d (.int b), .d (.int c), .d (.int d)]] else .exc 1 [.str (bad4 a b c d)] [.obj 8 []] := by
  unfold bad4
  by_cases h1 : 1 ≤ a ∧ a ≤ 6
  · by_cases h2 : 1 ≤ b ∧ b ≤ 16
    · by_cases h3 : 1 ≤ c ∧ c ≤ 16
      · by_cases h4 : 0 ≤ d ∧ d ≤ 6
        · simp [f_Drill_init, m_Drill_init, defF, within_call, h1, h2, h3, h4, setAttrV, ix2, leave, dedup, reach, Rv.locs, Rv.ren, picks, crens, Cell.locs, Cell.ren, rens, place]
        · simp [f_Drill_init, m_Drill_init, defF, within_call, h1, h2, h3, h4, leaveX, reach, dedup, Cell.locs, picks, crens, Cell.ren, rens]
      · simp [f_Drill_init, m_Drill_init, defF, within_call, h1, h2, h3, leaveX, reach, dedup, Cell.locs, picks, crens, Cell.ren, rens]
    · simp [f_Drill_init, m_Drill_init, defF, within_call, h1, h2, leaveX, reach, dedup, Cell.locs, picks, crens, Cell.ren, rens]
  · simp [f_Drill_init, m_Drill_init, defF, within_call, h1, leaveX, reach, dedup, Cell.locs, picks, crens, Cell.ren, rens]
theorem crens_all {f : Nat → Option Nat} : ∀ {L : Led}, (∀ c ∈ L, c.ren f = some c) → crens f L = some L
  | [], _ => rfl
  | c :: r, h => by
    show ((c.ren f).bind fun y => (crens f r).map (y :: ·)) = _
    rw [h c List.mem_cons_self, Option.bind_some, crens_all fun x hx => h x (List.mem_cons_of_mem _ hx)]
    rfl
theorem new_run (a b c d : Int) (L : Led) : callF f_Drill_init [.loc L.length, .d (.int a), .d (.int b), .d (.int c), .d (.int d)] (L ++ [.obj 8 []]) = if bad4 a b c d = [] then .ok (.d .non) (L ++ [.obj 8 [.d (.int a), .d (.int b), .d (.int c), .d (.int d)]]) else .exc 1 [.str (bad4 a b c d)] (L ++ [.obj 8 []]) := by
  have e1 : (L ++ [Cell.obj 8 []])[L.length]? = some (.obj 8 []) := by simp
  have e2 : ∀ x, (L ++ [Cell.obj 8 []]).set L.length x = L ++ [x] := fun x => by simp
  by_cases h : bad4 a b c d = []
  · simp [callF, Rv.locs, dedup, reach, rens, Rv.ren, picks, crens, Cell.ren, Cell.locs, place, init_run, h, writes, e1, List.findIdx?_cons, e2]
  · simp [callF, Rv.locs, dedup, reach, rens, Rv.ren, picks, crens, Cell.ren, Cell.locs, place, init_run, h, writes, e1, List.findIdx?_cons, e2]
theorem make_run (a b c d : Int) (L : Led) (hL : crens (fun n => if n < L.length then some n else none) L = some L) : makeF true 8 f_Drill_init [.d (.int a), .d (.int b), .d (.int c), .d (.int d)] L = if bad4 a b c d = [] then .ok (.d (.obj 8 [.int a, .int b, .int c, .int d])) L else .exc 1 [.str (bad4 a b c d)] (L ++ [.obj 8 []]) := by
  by_cases h : bad4 a b c d = []
  · simp [makeF, new_run, h, pures, hL]
  · simp [makeF, new_run, h]
/-- what _law_made answers -/
def madeA (a b c d : Int) : D := if bad4 a b c d = [] then .lst [.int a, .int b, .int c, .int d] else .lst [.str tX, .str (bad4 a b c d)]
theorem made_d (a b c d : Int) : f__law_made [.d (.lst [.int a, .int b, .int c, .int d])] [] = .ok (.d (madeA a b c d)) [] := by
  have hm := make_run a b c d [] rfl
  unfold madeA
  by_cases h : bad4 a b c d = []
  · simp [f__law_made, m__law_made, defF, sTry, makeK, mkk_Drill_3_turning_g, ixV, atI, ixN, hm, h, attrV, ix2, lstV, pures, mkL, SZ]
  · simp [f__law_made, m__law_made, defF, sTry, makeK, mkk_Drill_3_turning_g, ixV, atI, ixN, hm, h, handle, sub, slotOk, forget, eIsE, isEs, isE, tupV, pures, SZ, Flow.out, excE, lstV, mkL]
theorem made_l (a b c d : Int) : f__law_made [.loc 0] [.lst [.int a, .int b, .int c, .int d]] = .ok (.d (madeA a b c d)) [.lst [.int a, .int b, .int c, .int d]] := by
  have hm := make_run a b c d [.lst [.int a, .int b, .int c, .int d]] rfl
  unfold madeA
  by_cases h : bad4 a b c d = []
  · simp [f__law_made, m__law_made, defF, sTry, makeK, mkk_Drill_3_turning_g, ixV, atI, ixN, hm, h, attrV, ix2, lstV, pures, mkL, SZ]
  · simp [f__law_made, m__law_made, defF, sTry, makeK, mkk_Drill_3_turning_g, ixV, atI, ixN, hm, h, handle, sub, slotOk, forget, eIsE, isEs, isE, tupV, pures, SZ, Flow.out, excE, lstV, mkL]
theorem first_run (a b c d : Int) : f__law_first_bad [.loc 0] [.lst [.int a, .int b, .int c, .int d]] = .ok (.d (.str (bad4 a b c d))) [.lst [.int a, .int b, .int c, .int d]] := by
  have hr : rangeL 0 4 = [.int 0, .int 1, .int 2, .int 3] := rfl
  unfold bad4
  by_cases h1 : 1 ≤ a ∧ a ≤ 6
  · have x1 : ¬ a < 1 := by omega
    have y1 : ¬ 6 < a := by omega
    by_cases h2 : 1 ≤ b ∧ b ≤ 16
    · have x2 : ¬ b < 1 := by omega
      have y2 : ¬ 16 < b := by omega
      by_cases h3 : 1 ≤ c ∧ c ≤ 16
      · have x3 : ¬ c < 1 := by omega
        have y3 : ¬ 16 < c := by omega
        by_cases h4 : 0 ≤ d ∧ d ≤ 6
        · have x4 : ¬ d < 0 := by omega
          have y4 : ¬ 6 < d := by omega
          simp [f__law_first_bad, m__law_first_bad, defF, lstV, pures, mkL, SZ, iRange1, small, hr, Src.len, forK, Src.get, Src.fin, bindP, ixV, atI, ixN, h1, h2, h3, h4, x1, y1, x2, y2, x3, y3, x4, y4]
        · have z : d < 0 ∨ 6 < d := by omega
          by_cases z1 : d < 0
          · simp [f__law_first_bad, m__law_first_bad, defF, lstV, pures, mkL, SZ, iRange1, small, hr, Src.len, forK, Src.get, Src.fin, bindP, ixV, atI, ixN, h1, h2, h3, h4, x1, y1, x2, y2, x3, y3, z1]
          · have z2 : 6 < d := by omega
            simp [f__law_first_bad, m__law_first_bad, defF, lstV, pures, mkL, SZ, iRange1, small, hr, Src.len, forK, Src.get, Src.fin, bindP, ixV, atI, ixN, h1, h2, h3, h4, x1, y1, x2, y2, x3, y3, z1, z2]
      · by_cases z1 : c < 1
        · simp [f__law_first_bad, m__law_first_bad, defF, lstV, pures, mkL, SZ, iRange1, small, hr, Src.len, forK, Src.get, Src.fin, bindP, ixV, atI, ixN, h1, h2, h3, x1, y1, x2, y2, z1]
        · have z2 : 16 < c := by omega
          simp [f__law_first_bad, m__law_first_bad, defF, lstV, pures, mkL, SZ, iRange1, small, hr, Src.len, forK, Src.get, Src.fin, bindP, ixV, atI, ixN, h1, h2, h3, x1, y1, x2, y2, z1, z2]
    · by_cases z1 : b < 1
      · simp [f__law_first_bad, m__law_first_bad, defF, lstV, pures, mkL, SZ, iRange1, small, hr, Src.len, forK, Src.get, Src.fin, bindP, ixV, atI, ixN, h1, h2, x1, y1, z1]
      · have z2 : 16 < b := by omega
        simp [f__law_first_bad, m__law_first_bad, defF, lstV, pures, mkL, SZ, iRange1, small, hr, Src.len, forK, Src.get, Src.fin, bindP, ixV, atI, ixN, h1, h2, x1, y1, z1, z2]
  · by_cases z1 : a < 1
    · simp [f__law_first_bad, m__law_first_bad, defF, lstV, pures, mkL, SZ, iRange1, small, hr, Src.len, forK, Src.get, Src.fin, bindP, ixV, atI, ixN, h1, z1]
    · have z2 : 6 < a := by omega
      simp [f__law_first_bad, m__law_first_bad, defF, lstV, pures, mkL, SZ, iRange1, small, hr, Src.len, forK, Src.get, Src.fin, bindP, ixV, atI, ixN, h1, z1, z2]
theorem number_run (a : Int) (L : Led) : callD f__law_number 1 [] [.d (.int a)] L = .ok (.d (.bl true)) L := by
  simp [callD, callF, Rv.locs, dedup, reach, rens, Rv.ren, picks, crens, writes, f__law_number, m__law_number, defF, isTyV, tyD, Ty.below]
theorem first_call {st : Cell} (h : StOk st) (a b c d : Int) : callD f__law_first_bad 1 [] [.loc 1] [st, .lst [.int a, .int b, .int c, .int d]] = .ok (.d (.str (bad4 a b c d))) [st, .lst [.int a, .int b, .int c, .int d]] := by
  simp [callD, callF, Rv.locs, dedup, reach, rens, Rv.ren, picks, crens, writes, place, List.findIdx?_cons, Cell.locs, Cell.ren, first_run]
theorem made_call {st : Cell} (h : StOk st) (a b c d : Int) : callD f__law_made 1 [] [.loc 1] [st, .lst [.int a, .int b, .int c, .int d]] = .ok (.d (madeA a b c d)) [st, .lst [.int a, .int b, .int c, .int d]] := by
  simp [callD, callF, Rv.locs, dedup, reach, rens, Rv.ren, picks, crens, writes, place, List.findIdx?_cons, Cell.locs, Cell.ren, made_l]
theorem made_call0 (a b c d : Int) (L : Led) : callD f__law_made 1 [] [.d (.lst [.int a, .int b, .int c, .int d])] L = .ok (.d (madeA a b c d)) L := by
  simp [callD, callF, Rv.locs, dedup, reach, rens, Rv.ren, picks, crens, writes, made_d]
theorem bad4_small (a b c d : Int) : (bad4 a b c d).all (fun c => decide (c < 1114112)) = true := by
  unfold bad4
  repeat' split
  all_goals decide
theorem tail_ok (x0 x3 x4 x5 x6 x7 x8 x9 : Option Rv) (st : Cell) (a b c d : Int) (h : StOk st) : ∃ L, sSeq m_law_s4 (sSeq m_law_s5 (sSeq m_law_s6 (sSeq m_law_s7 (sSeq m_law_s8 (sSeq m_law_s9 (sSeq m_law_s10 m_law_s11)))))) [x0, some (.loc 0), some (.loc 1), x3, x4, x5, x6, x7, x8, x9] [st, .lst [.int a, .int b, .int c, .int d]] = .ret (.d (.bl true)) L := by
  obtain ⟨v1, s1, e1, l1, u1, k1⟩ := draw0 (r := [.lst [.int a, .int b, .int c, .int d]]) (many := 6) h (by decide) (by decide)
  obtain ⟨v2, s2, e2, l2, u2, k2⟩ := draw0 (r := [.lst [.int a, .int b, .int c, .int d]]) (many := 16) k1 (by decide) (by decide)
  obtain ⟨v3, s3, e3, l3, u3, k3⟩ := draw0 (r := [.lst [.int a, .int b, .int c, .int d]]) (many := 16) k2 (by decide) (by decide)
  have hz : bad4 (1 + v1) (1 + v2) (1 + v3) 0 = [] := by
    unfold bad4
    rw [if_pos (by omega), if_pos (by omega), if_pos (by omega), if_pos (by omega)]
  have hm := make_run (1 + v1) (1 + v2) (1 + v3) 0 [s3, .lst [.int a, .int b, .int c, .int d]] (crens_all fun c hc => by
    rcases List.mem_cons.mp hc with e | e
    · rw [e]
      exact k3.ren _
    · rw [List.mem_singleton.mp e]
      rfl)
  have q1 : bad4 6 16 16 6 = [] := by decide
  have q2 : bad4 1 1 1 0 = [] := by decide
  have m1 : madeA 6 16 16 6 = .lst [.int 6, .int 16, .int 16, .int 6] := by unfold madeA; rw [if_pos q1]
  have m2 : madeA 1 1 1 0 = .lst [.int 1, .int 1, .int 1, .int 0] := by unfold madeA; rw [if_pos q2]
  by_cases hb : bad4 a b c d = []
  · have hm0 : madeA a b c d = .lst [.int a, .int b, .int c, .int d] := by unfold madeA; rw [if_pos hb]
    refine ⟨[s3, .lst [.int a, .int b, .int c, .int d]], ?_⟩
    simp [m_law_s4, m_law_s5, m_law_s6, m_law_s7, m_law_s8, m_law_s9, m_law_s10, m_law_s11, first_call h, made_call h, made_call0, number_run, hb, hm0, e1, e2, e3, hm, hz, m1, m2, makeD, eqV, asD, scal, plain, plains, deq, deqs, lstV, pures, mkL, SZ, eComp, Src.len, compK, Src.get, Src.fin, bindP, wipe, truth, attrV, ix2, addV, itemsL, ixV, atI, ixN]
  · have hm0 : madeA a b c d = .lst [.str tX, .str (bad4 a b c d)] := by unfold madeA; rw [if_neg hb]
    have hs := bad4_small a b c d
    refine ⟨[s3, .lst [.int a, .int b, .int c, .int d]], ?_⟩
    simp [m_law_s4, m_law_s5, m_law_s6, m_law_s7, m_law_s8, m_law_s9, m_law_s10, m_law_s11, first_call h, made_call h, made_call0, number_run, hb, hm0, e1, e2, e3, hm, hz, m1, m2, makeD, eqV, asD, scal, plain, plains, deq, deqs, lstV, pures, mkL, SZ, truth, attrV, ix2, addV, itemsL, ixV, atI, ixN, hs]
theorem law_true (ns : List Int) (hl : ns.length ≤ 63) (hb : ∀ z ∈ ns, PySem.Builtin.Int.intBits z ≤ 1048576) : ∃ L, f_law [.d (.slst (ns.map D.int))] [] = .ok (.d (.bl true)) L := by
  obtain ⟨s, e0⟩ := begin_call ns []
  have h0 := StOk.start ns s
  obtain ⟨v1, s1, e1, l1, u1, k1⟩ := draw0 (r := []) (many := 10) h0 (by decide) (by decide)
  obtain ⟨v2, s2, e2, l2, u2, k2⟩ := draw0 (r := []) (many := 20) k1 (by decide) (by decide)
  obtain ⟨v3, s3, e3, l3, u3, k3⟩ := draw0 (r := []) (many := 20) k2 (by decide) (by decide)
  obtain ⟨v4, s4, e4, l4, u4, k4⟩ := draw0 (r := []) (many := 10) k3 (by decide) (by decide)
  obtain ⟨v5, s5, e5, l5, u5, k5⟩ := draw0 (r := [.lst [.int (v1 - 1), .int (v2 - 1), .int (v3 - 1), .int (v4 - 1)]]) (many := 8) k4 (by decide) (by decide)
  by_cases hz : v5 = 0
  · obtain ⟨v6, s6, e6, l6, u6, k6⟩ := draw0 (r := [.lst [.int (v1 - 1), .int (v2 - 1), .int (v3 - 1), .int (v4 - 1)]]) (many := 4) k5 (by decide) (by decide)
    obtain ⟨v7, s7, e7, l7, u7, k7⟩ := draw0 (r := [.lst [.int (v1 - 1), .int (v2 - 1), .int (v3 - 1), .int (v4 - 1)]]) (many := 2000000001) k6 (by decide) (by decide)
    have c6 : v6 = 0 ∨ v6 = 1 ∨ v6 = 2 ∨ v6 = 3 := by omega
    rcases c6 with c6 | c6 | c6 | c6
    · obtain ⟨L, hL⟩ := tail_ok (some (.d (.slst (ns.map D.int)))) (some (.d (.int v6))) none none none none none none s7 (v7 - 1000000000) (v2 - 1) (v3 - 1) (v4 - 1) k7
      subst hz c6
      rw [st_seq] at hL
      refine ⟨[], ?_⟩
      simp [f_law, m_law, defF, m_law_s1, m_law_s2, m_law_s3, e0, e1, e2, e3, e4, e5, e6, e7, lstV, pures, mkL, SZ, powV, v_mul, isB, setV, ixN, hL]
    · obtain ⟨L, hL⟩ := tail_ok (some (.d (.slst (ns.map D.int)))) (some (.d (.int v6))) none none none none none none s7 (v1 - 1) (v7 - 1000000000) (v3 - 1) (v4 - 1) k7
      subst hz c6
      rw [st_seq] at hL
      refine ⟨[], ?_⟩
      simp [f_law, m_law, defF, m_law_s1, m_law_s2, m_law_s3, e0, e1, e2, e3, e4, e5, e6, e7, lstV, pures, mkL, SZ, powV, v_mul, isB, setV, ixN, hL]
    · obtain ⟨L, hL⟩ := tail_ok (some (.d (.slst (ns.map D.int)))) (some (.d (.int v6))) none none none none none none s7 (v1 - 1) (v2 - 1) (v7 - 1000000000) (v4 - 1) k7
      subst hz c6
      rw [st_seq] at hL
      refine ⟨[], ?_⟩
      simp [f_law, m_law, defF, m_law_s1, m_law_s2, m_law_s3, e0, e1, e2, e3, e4, e5, e6, e7, lstV, pures, mkL, SZ, powV, v_mul, isB, setV, ixN, hL]
    · obtain ⟨L, hL⟩ := tail_ok (some (.d (.slst (ns.map D.int)))) (some (.d (.int v6))) none none none none none none s7 (v1 - 1) (v2 - 1) (v3 - 1) (v7 - 1000000000) k7
      subst hz c6
      rw [st_seq] at hL
      refine ⟨[], ?_⟩
      simp [f_law, m_law, defF, m_law_s1, m_law_s2, m_law_s3, e0, e1, e2, e3, e4, e5, e6, e7, lstV, pures, mkL, SZ, powV, v_mul, isB, setV, ixN, hL]
  · obtain ⟨L, hL⟩ := tail_ok (some (.d (.slst (ns.map D.int)))) none none none none none none none s5 (v1 - 1) (v2 - 1) (v3 - 1) (v4 - 1) k5
    rw [st_seq] at hL
    refine ⟨[], ?_⟩
    simp [f_law, m_law, defF, m_law_s1, m_law_s2, m_law_s3, e0, e1, e2, e3, e4, e5, hz, lstV, pures, mkL, SZ, hL]
end K06

set_option Elab.async false
set_option linter.all false
set_option maxRecDepth 100000
/-! M07: what k07 computes. -/
namespace K07
open Dl Dr K06
theorem within_call (s : Txt) (n lo hi : Int) (L : Led) (h : s.length ≤ 100) : callD K07.f_within 4 [] [.d (.str s), .d (.int n), .d (.int lo), .d (.int hi)] L = if lo ≤ n ∧ n ≤ hi then .ok (.d .non) L else .exc 1 [.str s] L := K06.within_call s n lo hi L h
theorem make_run (a b c d : Int) (L : Led) (hL : crens (fun n => if n < L.length then some n else none) L = some L) : makeF true 8 K07.f_Drill_init [.d (.int a), .d (.int b), .d (.int c), .d (.int d)] L = if bad4 a b c d = [] then .ok (.d (.obj 8 [.int a, .int b, .int c, .int d])) L else .exc 1 [.str (bad4 a b c d)] (L ++ [.obj 8 []]) := K06.make_run a b c d L hL
abbrev dr (p r c t : Int) : D := .obj 8 [.int p, .int r, .int c, .int t]
theorem drill_run (p r c t : Int) (h : bad4 p r c t = []) : K07.f__law_drill [.d (.int p), .d (.int r), .d (.int c), .d (.int t)] [] = .ok (.d (dr p r c t)) [] := by
  have hm := make_run p r c t [] rfl
  rw [if_pos h] at hm
  by_cases h1 : t = 0
  · subst h1
    by_cases h2 : (r + c) % 2 = 0
    · simp [K07.f__law_drill, K07.m__law_drill, defF, v_mod, h2, makeD, hm]
    · simp [K07.f__law_drill, K07.m__law_drill, defF, v_mod, h2, makeK, K07.mkk_Drill_3_turning_g, hm]
  · simp [K07.f__law_drill, K07.m__law_drill, defF, h1, makeK, K07.mkk_Drill_3_turning_g, hm]
theorem drill_call (p r c t : Int) (L : Led) (h : bad4 p r c t = []) : callD K07.f__law_drill 4 [] [.d (.int p), .d (.int r), .d (.int c), .d (.int t)] L = .ok (.d (dr p r c t)) L := by
  simp [callD, callF, Rv.locs, dedup, reach, rens, Rv.ren, picks, crens, drill_run p r c t h, writes]
abbrev pl (p r c t u : Int) : D := .obj 9 [dr p r c t, .int u]
theorem pinit_run (p r c t u : Int) : K07.f_Plan_init [.loc 0, .d (dr p r c t), .d (.int u)] [.obj 9 []] = if 1 ≤ u ∧ u ≤ p then .ok (.d .non) [.obj 9 [.d (dr p r c t), .d (.int u)]] else .exc 1 [.str [116, 117, 114, 110]] [.obj 9 []] := by
  by_cases h : 1 ≤ u ∧ u ≤ p
  · simp [K07.f_Plan_init, K07.m_Plan_init, defF, within_call, attrV, h, setAttrV, ix2, leave, dedup, reach, Rv.locs, Rv.ren, picks, crens, Cell.locs, Cell.ren, rens, place]
  · simp [K07.f_Plan_init, K07.m_Plan_init, defF, within_call, attrV, h, ix2, leaveX, reach, dedup, Cell.locs, picks, crens, Cell.ren, rens]
theorem pnew_run (p r c t u : Int) (L : Led) : callF K07.f_Plan_init [.loc L.length, .d (dr p r c t), .d (.int u)] (L ++ [.obj 9 []]) = if 1 ≤ u ∧ u ≤ p then .ok (.d .non) (L ++ [.obj 9 [.d (dr p r c t), .d (.int u)]]) else .exc 1 [.str [116, 117, 114, 110]] (L ++ [.obj 9 []]) := by
  have e1 : (L ++ [Cell.obj 9 []])[L.length]? = some (.obj 9 []) := by simp
  have e2 : ∀ x, (L ++ [Cell.obj 9 []]).set L.length x = L ++ [x] := fun x => by simp
  by_cases h : 1 ≤ u ∧ u ≤ p
  · simp [callF, Rv.locs, dedup, reach, rens, Rv.ren, picks, crens, Cell.ren, Cell.locs, place, pinit_run, h, writes, e1, List.findIdx?_cons, e2]
  · simp only [callF, Rv.locs, dedup, reach, rens, Rv.ren, picks, crens, Cell.ren, Cell.locs, place, pinit_run, if_neg h, writes, e1, List.findIdx?_cons, e2]
    simp [callF, Rv.locs, dedup, reach, rens, Rv.ren, picks, crens, Cell.ren, Cell.locs, place, pinit_run, if_neg h, writes, e1, List.findIdx?_cons, e2]
theorem pmake (p r c t u : Int) (L : Led) (hL : crens (fun n => if n < L.length then some n else none) L = some L) : makeD true 9 K07.f_Plan_init 3 [] [.d (dr p r c t), .d (.int u)] L = if 1 ≤ u ∧ u ≤ p then .ok (.d (pl p r c t u)) L else .exc 1 [.str [116, 117, 114, 110]] (L ++ [.obj 9 []]) := by
  by_cases h : 1 ≤ u ∧ u ≤ p
  · simp [makeD, makeF, pnew_run, h, pures, hL]
  · simp only [makeD, makeF, List.append_nil, List.map_nil, pnew_run, if_neg h, List.length_cons, List.length_nil]
    rfl
def pas (p r u : Int) : Int := (r - 1 + p - u) / p + 1
theorem passes_run (p r c t u : Int) (h1 : 1 ≤ p) (h2 : p ≤ 6) : K07.f_Plan_passes [.d (pl p r c t u)] [] = .ok (.d (.int (pas p r u))) [] := by
  simp [K07.f_Plan_passes, K07.m_Plan_passes, defF, attrV, ix2, v_div (isDiv_of (show 0 < p by omega) (show p < 2 ^ 62 by omega)), pas]
theorem passes_call (p r c t u : Int) (L : Led) (h1 : 1 ≤ p) (h2 : p ≤ 6) : callD K07.f_Plan_passes 1 [] [.d (pl p r c t u)] L = .ok (.d (.int (pas p r u))) L := by
  simp [callD, callF, Rv.locs, dedup, reach, rens, Rv.ren, picks, crens, passes_run p r c t u h1 h2, writes]
theorem moments_run (p r c t u : Int) (h1 : 1 ≤ p) (h2 : p ≤ 6) (h3 : 1 ≤ c) (h4 : c ≤ 16) (h5 : 0 ≤ t) (h6 : t ≤ 6) : K07.f_Plan_moments [.d (pl p r c t u)] [] = .ok (.d (.int (pas p r u * c + (pas p r u - 1) * t))) [] := by
  have b1 : isB c = true := isB_of (by omega) (by omega)
  have b2 : isB t = true := isB_of (by omega) (by omega)
  simp [K07.f_Plan_moments, K07.m_Plan_moments, defF, attrV, ix2, propD, clsOf, passes_call p r c t u _ h1 h2, v_mul, b1, b2]
theorem moments_call (p r c t u : Int) (L : Led) (h1 : 1 ≤ p) (h2 : p ≤ 6) (h3 : 1 ≤ c) (h4 : c ≤ 16) (h5 : 0 ≤ t) (h6 : t ≤ 6) : callD K07.f_Plan_moments 1 [] [.d (pl p r c t u)] L = .ok (.d (.int (pas p r u * c + (pas p r u - 1) * t))) L := by
  simp [callD, callF, Rv.locs, dedup, reach, rens, Rv.ren, picks, crens, moments_run p r c t u h1 h2 h3 h4 h5 h6, writes]
theorem number_call (a : Int) (L : Led) : callD K07.f__law_number 1 [] [.d (.int a)] L = .ok (.d (.bl true)) L := K06.number_run a L
theorem passes_loop (p r u : Int) (h1 : 1 ≤ p) (xs : List D) : ∀ (k i : Nat) (n s : Int) (o : Option Rv), i + k = xs.length → r - s ≤ k * p → ∃ o', forK (.vals xs) (.name 4) K07.m__law_passes_b1 k i [some (.d (.int p)), some (.d (.int r)), some (.d (.int u)), some (.d (.int n)), o, some (.d (.int s))] [] = .next [some (.d (.int p)), some (.d (.int r)), some (.d (.int u)), some (.d (.int (if s < r then n + ((r - 1 - s) / p + 1) else n))), o', some (.d (.int (if s < r then s + ((r - 1 - s) / p + 1) * p else s)))] []
  | 0, i, n, s, o, e, h => by
    have : ¬ s < r := by omega
    exact ⟨o, by simp [forK, Src.fin, this]⟩
  | k + 1, i, n, s, o, e, h => by
    have hi : i < xs.length := by omega
    by_cases hs : s < r
    · have e0 : ((k + 1 : Nat) : Int) * p = k * p + p := by
        rw [Int.natCast_succ, Int.add_mul, Int.one_mul]
      rw [e0] at h
      obtain ⟨o', e1⟩ := passes_loop p r u h1 xs k (i + 1) (n + 1) (s + p) (some (.d xs[i])) (by omega) (by omega)
      refine ⟨o', ?_⟩
      rw [forK_next (vals_at hi []) rfl (show _ = Flow.next [some (.d (.int p)), some (.d (.int r)), some (.d (.int u)), some (.d (.int (n + 1))), some (.d xs[i]), some (.d (.int (s + p)))] [] by simp [K07.m__law_passes_b1, hs]), e1, if_pos hs, if_pos hs]
      have e2 : (r - 1 - s) / p = (r - 1 - (s + p)) / p + 1 := by
        have : r - 1 - s = (r - 1 - (s + p)) + 1 * p := by omega
        rw [this, Int.add_mul_ediv_right _ _ (by omega)]
      by_cases hs2 : s + p < r
      · rw [if_pos hs2, if_pos hs2, e2, Int.add_mul ((r - 1 - (s + p)) / p + 1) 1 p, Int.one_mul, show n + 1 + ((r - 1 - (s + p)) / p + 1) = n + ((r - 1 - (s + p)) / p + 1 + 1) by omega, show s + p + ((r - 1 - (s + p)) / p + 1) * p = s + (((r - 1 - (s + p)) / p + 1) * p + p) by omega]
      · rw [if_neg hs2, if_neg hs2]
        have e3 : (r - 1 - s) / p = 0 := Int.ediv_eq_zero_of_lt (by omega) (by omega)
        rw [e3]
        simp
    · obtain ⟨o', e1⟩ := passes_loop p r u h1 xs k (i + 1) n s (some (.d xs[i])) (by omega) (by
        have : (0 : Int) ≤ k * p := Int.mul_nonneg (by omega) (by omega)
        omega)
      refine ⟨o', ?_⟩
      rw [forK_next (vals_at hi []) rfl (show _ = Flow.next [some (.d (.int p)), some (.d (.int r)), some (.d (.int u)), some (.d (.int n)), some (.d xs[i]), some (.d (.int s))] [] by simp [K07.m__law_passes_b1, hs]), e1]
theorem lpasses_run (p r u : Int) (h1 : 1 ≤ p) (h3 : 1 ≤ r) (h4 : r ≤ 16) (h5 : 1 ≤ u) (h6 : u ≤ p) : K07.f__law_passes [.d (.int p), .d (.int r), .d (.int u)] [] = .ok (.d (.int (pas p r u))) [] := by
  have hn : (rangeL 0 (r + 1)).length = (r + 1).toNat := by simp
  have hc : (((r + 1).toNat : Nat) : Int) = r + 1 := by omega
  obtain ⟨o', e⟩ := passes_loop p r u h1 (rangeL 0 (r + 1)) (r + 1).toNat 0 0 (u - p) none (by omega) (by
    rw [hc, Int.add_mul, Int.one_mul]
    have : r * 1 ≤ r * p := Int.mul_le_mul_of_nonneg_left h1 (by omega)
    omega)
  have hs : small (r + 1) = true := by simp [small]; omega
  have hlt : u - p < r := by omega
  have e4 : r - 1 - (u - p) = r - 1 + p - u := by omega
  simp only [if_pos hlt, e4, Int.zero_add] at e
  simp [K07.f__law_passes, K07.m__law_passes, defF, iRange1, hs, Src.len, e, pas]
theorem lpasses_call (p r u : Int) (L : Led) (h1 : 1 ≤ p) (h3 : 1 ≤ r) (h4 : r ≤ 16) (h5 : 1 ≤ u) (h6 : u ≤ p) : callD K07.f__law_passes 3 [] [.d (.int p), .d (.int r), .d (.int u)] L = .ok (.d (.int (pas p r u))) L := by
  simp [callD, callF, Rv.locs, dedup, reach, rens, Rv.ren, picks, crens, lpasses_run p r u h1 h3 h4 h5 h6, writes]
theorem refused_run (p r c t u : Int) : K07.f__law_refused [.d (dr p r c t), .d (.int u)] [] = .ok (.d (.int (if 1 ≤ u ∧ u ≤ p then 0 else 1))) [] := by
  have hm := pmake p r c t u [] rfl
  by_cases h : 1 ≤ u ∧ u ≤ p
  · rw [if_pos h] at hm
    simp [K07.f__law_refused, K07.m__law_refused, defF, sTry, hm, h, attrV, ix2]
  · rw [if_neg h] at hm
    simp [K07.f__law_refused, K07.m__law_refused, defF, sTry, hm, if_neg h, handle, K07.sub, slotOk, forget, eIsE, isEs, isE, tupV, pures, SZ, Flow.out, excE]
theorem refused_call (p r c t u : Int) (L : Led) : callD K07.f__law_refused 2 [] [.d (dr p r c t), .d (.int u)] L = .ok (.d (.int (if 1 ≤ u ∧ u ≤ p then 0 else 1))) L := by
  simp [callD, callF, Rv.locs, dedup, reach, rens, Rv.ren, picks, crens, refused_run p r c t u, writes]
theorem plans_ok (p r c t : Int) (st : Cell) (h : StOk st) (h1 : 1 ≤ p) (h2 : p ≤ 6) {x0 x3 x4 x5 x7 x8 x9 x10 x11 x12 : Option Rv} :
    eComp false (iRange2 (cE (.int 1)) (e2 (addV false) (varE 2) (cE (.int 1)))) (.name 8) [8] tYes (eN (makeD true 9 K07.f_Plan_init 3 []) (aC (varE 6) (aC (varE 8) aN))) [x0, some (.loc 0), some (.d (.int p)), x3, x4, x5, some (.d (dr p r c t)), x7, x8, x9, x10, x11, x12] [st] = .ok (.d (.lst ((List.range p.toNat).map fun k : Nat => pl p r c t (1 + k)))) [st] := by
  have hs : small (p + 1) = true := by simp [small]; omega
  have hs1 : small 1 = true := by decide
  have hc : crens (fun n => if n < [st].length then some n else none) [st] = some [st] := crens_all fun c hc => by
    rw [List.mem_singleton.mp hc]
    exact h.ren _
  let g : D → D := fun x => match x with
    | .int k => pl p r c t k
    | _ => .non
  have key : compK (.vals (rangeL 1 (p + 1))) (.name 8) tYes (eN (makeD true 9 K07.f_Plan_init 3 []) (aC (varE 6) (aC (varE 8) aN))) [x0, some (.loc 0), some (.d (.int p)), x3, x4, x5, some (.d (dr p r c t)), x7, none, x9, x10, x11, x12] (rangeL 1 (p + 1)).length 0 [] [st] = .ok ((rangeL 1 (p + 1)).map g) [st] := compK_map (by rw [rngL_len]; show (p + 1 - 1).toNat ≤ 16777216; omega) fun x hx => by
    obtain ⟨k, e, k1, k2⟩ := rngL_mem hx
    subst e
    refine ⟨_, rfl, ?_⟩
    have hm := pmake p r c t k [st] hc
    rw [if_pos ⟨k1, by omega⟩] at hm
    simp [hm, g]
  have e3 : (p + 1 - 1).toNat = p.toNat := by omega
  rw [rngL_map, e3] at key
  simp [eComp, iRange2, hs, hs1, wipe, Src.len, mkL]
  rw [rngL_len, e3] at key
  rw [key]
  rfl
theorem loop_ok (p r c t : Int) (st : Cell) (h1 : 1 ≤ p) (h2 : p ≤ 6) (h3 : 1 ≤ r) (h4 : r ≤ 16) (h5 : 1 ≤ c) (h6 : c ≤ 16) (h7 : 0 ≤ t) (h8 : t ≤ 6) (x0 x1 x8 x9 x10 x11 x12 : Option Rv) : ∃ ρ, K07.m_law_s8 [x0, x1, some (.d (.int p)), some (.d (.int r)), some (.d (.int c)), some (.d (.int t)), some (.d (dr p r c t)), some (.d (.lst ((List.range p.toNat).map fun k : Nat => pl p r c t (1 + k)))), x8, x9, x10, x11, x12] [st] = .next ρ [st] ∧ ∃ y8 y9 y10 y11 y12, ρ = [x0, x1, some (.d (.int p)), some (.d (.int r)), some (.d (.int c)), some (.d (.int t)), some (.d (dr p r c t)), some (.d (.lst ((List.range p.toNat).map fun k : Nat => pl p r c t (1 + k)))), y8, y9, y10, y11, y12] := by
  have hs : small p = true := by simp [small]; omega
  have b1 : isB c = true := isB_of (by omega) (by omega)
  have b2 : isB t = true := isB_of (by omega) (by omega)
  have key := forK_inv (xs := rangeL 0 p) (p := .name 9) (body := K07.m_law_b1)
    (I := fun _ ρ L => L = [st] ∧ ∃ y8 y9 y10 y11 y12, ρ = [x0, x1, some (.d (.int p)), some (.d (.int r)), some (.d (.int c)), some (.d (.int t)), some (.d (dr p r c t)), some (.d (.lst ((List.range p.toNat).map fun k : Nat => pl p r c t (1 + k)))), y8, y9, y10, y11, y12])
    (ρ := [x0, x1, some (.d (.int p)), some (.d (.int r)), some (.d (.int c)), some (.d (.int t)), some (.d (dr p r c t)), some (.d (.lst ((List.range p.toNat).map fun k : Nat => pl p r c t (1 + k)))), x8, x9, x10, x11, x12]) (L := [st]) ⟨rfl, _, _, _, _, _, rfl⟩ fun i ρ L hi hI => by
      obtain ⟨hL, y8, y9, y10, y11, y12, e⟩ := hI
      subst hL e
      rw [rngL_at]
      rw [rngL_len] at hi
      refine ⟨_, rfl, ?_⟩
      have ha : atI ((List.range p.toNat).map fun k : Nat => pl p r c t (1 + k)) (p - 1 - (0 + i)) = some (pl p r c t (p - i)) := by
        rw [atI_range (by omega) (by omega)]
        congr 2
        omega
      refine ⟨[x0, x1, some (.d (.int p)), some (.d (.int r)), some (.d (.int c)), some (.d (.int t)), some (.d (dr p r c t)), some (.d (.lst ((List.range p.toNat).map fun k : Nat => pl p r c t (1 + k)))), y8, some (.d (.int (0 + i))), some (.d (dr p r c t)), some (.d (pl p r c t (p - i))), some (.d (.int (pas p r (p - i))))], [st], .inl ?_, rfl, _, _, _, _, _, rfl⟩
      rw [Int.zero_add] at ha ⊢
      simp [K07.m_law_b1, List.set, ev_v0, ev_vs, v_ix ha, lpasses_call p r (p - i) _ h1 h3 h4 (by omega) (by omega), propD, clsOf, passes_call p r c t (p - i) _ h1 h2, moments_call p r c t (p - i) _ h1 h2 h5 h6 h7 h8, number_call, truth, v_mul, b1, b2, attrV, ix2, lstV, pures, SZ, mkL, eqV, asD, scal, deq, deqs, plain, plains]
  obtain ⟨ρ2, L2, e, hL, y8, y9, y10, y11, y12, e2⟩ := key
  subst hL
  refine ⟨ρ2, ?_, y8, y9, y10, y11, y12, e2⟩
  simp only [K07.m_law_s8, st_for, iRange1, ev_v0, ev_vs, Res.bind_ok, hs, if_true, Res.flow_ok, Src.len]
  exact e
theorem tail_ok (p r c t u : Int) (st : Cell) (h1 : 1 ≤ p) (x0 x1 x7 x9 x10 x11 x12 : Option Rv) : sSeq K07.m_law_s11 K07.m_law_s12 [x0, x1, some (.d (.int p)), some (.d (.int r)), some (.d (.int c)), some (.d (.int t)), some (.d (dr p r c t)), x7, some (.d (.int u)), x9, x10, x11, x12] [st] = .ret (.d (.bl true)) [st] := by
  have n1 : ¬ (1 ≤ (0 : Int) ∧ (0 : Int) ≤ p) := by omega
  have n2 : ¬ (1 ≤ p + 1 ∧ p + 1 ≤ p) := by omega
  by_cases h : 1 ≤ u ∧ u ≤ p
  · have a1 : ¬ u < 1 := by omega
    have a2 : ¬ p < u := by omega
    simp [K07.m_law_s11, K07.m_law_s12, refused_call, if_neg n1, if_neg n2, h, a1, a2]
  · by_cases a1 : u < 1
    · simp [K07.m_law_s11, K07.m_law_s12, refused_call, if_neg n1, if_neg n2, if_neg h, a1]
    · have a2 : p < u := by omega
      simp [K07.m_law_s11, K07.m_law_s12, refused_call, if_neg n1, if_neg n2, if_neg h, a1, a2]
theorem law_true (ns : List Int) (hl : ns.length ≤ 63) (hb : ∀ z ∈ ns, PySem.Builtin.Int.intBits z ≤ 1048576) : ∃ L, K07.f_law [.d (.slst (ns.map D.int))] [] = .ok (.d (.bl true)) L := by
  obtain ⟨s, e0⟩ : ∃ s, callD K07.f__law_begin 1 [] [.d (.slst (ns.map D.int))] [] = .ok (.loc 0) [stC ns 0 0 s 0] := begin_call ns []
  have h0 := StOk.start ns s
  obtain ⟨v1, s1, e1, l1, u1, k1⟩ : ∃ v st', callD K07.f__law_draw 2 [] [.loc 0, .d (.int 6)] [stC ns 0 0 s 0] = .ok (.d (.int v)) [st'] ∧ 0 ≤ v ∧ v < 6 ∧ StOk st' := draw0 (r := []) (many := 6) h0 (by decide) (by decide)
  obtain ⟨v2, s2, e2, l2, u2, k2⟩ : ∃ v st', callD K07.f__law_draw 2 [] [.loc 0, .d (.int 16)] [s1] = .ok (.d (.int v)) [st'] ∧ 0 ≤ v ∧ v < 16 ∧ StOk st' := draw0 (r := []) (many := 16) k1 (by decide) (by decide)
  obtain ⟨v3, s3, e3, l3, u3, k3⟩ : ∃ v st', callD K07.f__law_draw 2 [] [.loc 0, .d (.int 16)] [s2] = .ok (.d (.int v)) [st'] ∧ 0 ≤ v ∧ v < 16 ∧ StOk st' := draw0 (r := []) (many := 16) k2 (by decide) (by decide)
  obtain ⟨v4, s4, e4, l4, u4, k4⟩ : ∃ v st', callD K07.f__law_draw 2 [] [.loc 0, .d (.int 7)] [s3] = .ok (.d (.int v)) [st'] ∧ 0 ≤ v ∧ v < 7 ∧ StOk st' := draw0 (r := []) (many := 7) k3 (by decide) (by decide)
  obtain ⟨v5, s5, e5, l5, u5, k5⟩ : ∃ v st', callD K07.f__law_draw 2 [] [.loc 0, .d (.int 10)] [s4] = .ok (.d (.int v)) [st'] ∧ 0 ≤ v ∧ v < 10 ∧ StOk st' := draw0 (r := []) (many := 10) k4 (by decide) (by decide)
  obtain ⟨v6, s6, e6, l6, u6, k6⟩ : ∃ v st', callD K07.f__law_draw 2 [] [.loc 0, .d (.int 8)] [s5] = .ok (.d (.int v)) [st'] ∧ 0 ≤ v ∧ v < 8 ∧ StOk st' := draw0 (r := []) (many := 8) k5 (by decide) (by decide)
  obtain ⟨v7, s7, e7, l7, u7, k7⟩ : ∃ v st', callD K07.f__law_draw 2 [] [.loc 0, .d (.int 2000000001)] [s6] = .ok (.d (.int v)) [st'] ∧ 0 ≤ v ∧ v < 2000000001 ∧ StOk st' := draw0 (r := []) (many := 2000000001) k6 (by decide) (by decide)
  have hz : bad4 (1 + v1) (1 + v2) (1 + v3) v4 = [] := by
    unfold bad4
    rw [if_pos (by omega), if_pos (by omega), if_pos (by omega), if_pos (by omega)]
  have hp := plans_ok (1 + v1) (1 + v2) (1 + v3) v4 s4 k4 (by omega) (by omega) (x0 := some (.d (.slst (ns.map D.int)))) (x3 := some (.d (.int (1 + v2)))) (x4 := some (.d (.int (1 + v3)))) (x5 := some (.d (.int v4))) (x7 := none) (x8 := none) (x9 := none) (x10 := none) (x11 := none) (x12 := none)
  obtain ⟨ρ, hq, y8, y9, y10, y11, y12, hρ⟩ := loop_ok (1 + v1) (1 + v2) (1 + v3) v4 s4 (by omega) (by omega) (by omega) (by omega) (by omega) (by omega) (by omega) (by omega) (some (.d (.slst (ns.map D.int)))) (some (.loc 0)) none none none none none
  subst hρ
  have hd := drill_call (1 + v1) (1 + v2) (1 + v3) v4 [s4] hz
  have s7e : K07.m_law_s7 [some (.d (.slst (ns.map D.int))), some (.loc 0), some (.d (.int (1 + v1))), some (.d (.int (1 + v2))), some (.d (.int (1 + v3))), some (.d (.int v4)), some (.d (dr (1 + v1) (1 + v2) (1 + v3) v4)), none, none, none, none, none, none] [s4] = .next [some (.d (.slst (ns.map D.int))), some (.loc 0), some (.d (.int (1 + v1))), some (.d (.int (1 + v2))), some (.d (.int (1 + v3))), some (.d (.int v4)), some (.d (dr (1 + v1) (1 + v2) (1 + v3) v4)), some (.d (.lst ((List.range (1 + v1).toNat).map fun k : Nat => pl (1 + v1) (1 + v2) (1 + v3) v4 (1 + k)))), none, none, none, none, none] [s4] := by
    simp only [K07.m_law_s7, st_asg, hp, Res.flow_ok]
    rfl
  by_cases hx : v6 = 0
  · have tl := tail_ok (1 + v1) (1 + v2) (1 + v3) v4 (v7 - 1000000000) s7 (by omega) (some (.d (.slst (ns.map D.int)))) (some (.loc 0)) (some (.d (.lst ((List.range (1 + v1).toNat).map fun k : Nat => pl (1 + v1) (1 + v2) (1 + v3) v4 (1 + k))))) y9 y10 y11 y12
    rw [st_seq] at tl
    subst hx
    refine ⟨[], ?_⟩
    simp [K07.f_law, K07.m_law, defF, K07.m_law_s1, K07.m_law_s2, K07.m_law_s3, K07.m_law_s4, K07.m_law_s5, K07.m_law_s6, s7e, hq, K07.m_law_s9, K07.m_law_s10, e0, e1, e2, e3, e4, e5, e6, e7, hd, powV, v_mul, isB, tl]
  · have tl := tail_ok (1 + v1) (1 + v2) (1 + v3) v4 (v5 - 1) s6 (by omega) (some (.d (.slst (ns.map D.int)))) (some (.loc 0)) (some (.d (.lst ((List.range (1 + v1).toNat).map fun k : Nat => pl (1 + v1) (1 + v2) (1 + v3) v4 (1 + k))))) y9 y10 y11 y12
    rw [st_seq] at tl
    refine ⟨[], ?_⟩
    simp [K07.f_law, K07.m_law, defF, K07.m_law_s1, K07.m_law_s2, K07.m_law_s3, K07.m_law_s4, K07.m_law_s5, K07.m_law_s6, s7e, hq, K07.m_law_s9, K07.m_law_s10, e0, e1, e2, e3, e4, e5, e6, e7, hd, hx, powV, v_mul, isB, tl]
end K07

set_option Elab.async false
set_option linter.all false
set_option maxRecDepth 100000
/-! Dt: lists of keys and values. -/
namespace Dl
section
variable {κ : Type} [DecidableEq κ] {α : Type}
theorem look_app {l : List (κ × α)} {x y : κ} {v : α} : look (l ++ [(x, v)]) y = match look l y with | some w => some w | none => if x = y then some v else none := by
  induction l with
  | nil => simp [look]
  | cons p l ih =>
    obtain ⟨k, w⟩ := p
    by_cases h : k = y
    · simp [look, h]
    · simp [look, h, ih]
theorem look_none {l : List (κ × α)} {x : κ} : look l x = none ↔ ∀ p ∈ l, p.1 ≠ x := by
  induction l with
  | nil => simp [look]
  | cons p l ih =>
    obtain ⟨k, w⟩ := p
    by_cases h : k = x
    · simp [look, h]
    · simp [look, h, ih]
theorem put_new {l : List (κ × α)} {x : κ} {v : α} (h : look l x = none) : put l x v = l ++ [(x, v)] := by
  have h1 : (l.any fun p => decide (p.1 = x)) = false := by
    rw [List.any_eq_false]
    intro p hp
    have := look_none.mp h p hp
    simp [this]
  simp [put, h1]
theorem look_map {l : List (κ × α)} {x y : κ} {v : α} : look (l.map fun p => if p.1 = x then (p.1, v) else p) y = if x = y then (look l y).map fun _ => v else look l y := by
  induction l with
  | nil => simp [look]
  | cons p l ih =>
    obtain ⟨k, w⟩ := p
    by_cases h : k = x
    · subst h
      by_cases e : k = y
      · subst e
        simp [look]
      · simp [look, e] at ih ⊢
        exact ih
    · by_cases e : k = y
      · subst e
        have h2 : ¬ x = k := fun z => h z.symm
        simp [look, h, h2]
      · simp [look, h, e] at ih ⊢
        exact ih
theorem look_put {l : List (κ × α)} {x y : κ} {v : α} : look (put l x v) y = if x = y then some v else look l y := by
  by_cases h : (l.any fun p => decide (p.1 = x)) = true
  · unfold put
    rw [if_pos h, look_map]
    by_cases e : x = y
    · subst e
      rw [if_pos rfl, if_pos rfl]
      cases e2 : look l x with
      | some w => rfl
      | none =>
        obtain ⟨p, hp, z⟩ := List.any_eq_true.mp h
        exact absurd (of_decide_eq_true z) (look_none.mp e2 p hp)
    · rw [if_neg e, if_neg e]
  · have h1 : look l x = none := look_none.mpr fun p hp e => h (List.any_eq_true.mpr ⟨p, hp, by simp [e]⟩)
    rw [put_new h1, look_app]
    by_cases e : x = y
    · subst e
      simp [h1]
    · simp only [if_neg e]
      cases look l y <;> rfl
theorem look_mem {l : List (κ × α)} {x : κ} {v : α} (h : look l x = some v) : (x, v) ∈ l := by
  induction l with
  | nil => simp [look] at h
  | cons p l ih =>
    obtain ⟨k, w⟩ := p
    by_cases e : k = x
    · subst e
      simp [look] at h
      rw [h]
      exact List.mem_cons_self
    · simp [look, e] at h
      exact List.mem_cons_of_mem _ (ih h)
theorem mem_look {l : List (κ × α)} (nd : (l.map (·.1)).Nodup) {x : κ} {v : α} (h : (x, v) ∈ l) : look l x = some v := by
  induction l with
  | nil => simp at h
  | cons p l ih =>
    obtain ⟨k, w⟩ := p
    rw [List.map_cons, List.nodup_cons] at nd
    rcases List.mem_cons.mp h with e | e
    · cases e
      simp [look]
    · have hk : k ≠ x := fun z => nd.1 (List.mem_map.mpr ⟨(x, v), e, z.symm⟩)
      simp [look, hk]
      exact ih nd.2 e
end
theorem bindP_n {i : Nat} {a : D} {ρ : Env} : bindP (.name i) a ρ = some (ρ.set i (some (.d a))) := rfl
theorem bindP_2 {i j : Nat} {a b : D} {ρ : Env} : bindP (.tup [.name i, .name j]) (.tup [a, b]) ρ = some ((ρ.set i (some (.d a))).set j (some (.d b))) := rfl
theorem put_length {κ α : Type} [DecidableEq κ] : ∀ {l : List (κ × α)} {k : κ} {v : α}, (put l k v).length ≤ l.length + 1 := fun {l k v} => by
  cases e : look l k with
  | none => rw [put_new e, List.length_append]; exact Nat.le_refl _
  | some w =>
    unfold put
    split
    · simp
    · simp
/-! calls of defs that see no cell, one cell -/
theorem locs_d : ∀ xs : List D, (xs.map Rv.d).flatMap Rv.locs = []
  | [] => rfl
  | _ :: r => locs_d r
theorem rens_d (f : Nat → Option Nat) : ∀ xs : List D, rens f (xs.map Rv.d) = some (xs.map Rv.d)
  | [] => rfl
  | x :: r => by
    show ((Rv.d x).ren f).bind (fun y => (rens f (r.map Rv.d)).map (y :: ·)) = _
    rw [rens_d f r]
    rfl
theorem reach_nil {L : Led} : ∀ k, reach L k [] = []
  | 0 => rfl
  | k + 1 => reach_nil k
theorem callD_ok {f : Fn} {n : Nat} {xs : List D} {v : D} {L : Led} (hn : xs.length = n) (h : f (xs.map Rv.d) [] = .ok (.d v) []) : callD f n [] (xs.map Rv.d) L = .ok (.d v) L := by
  unfold callD
  rw [if_pos (by simpa using hn), List.map_nil, List.append_nil]
  unfold callF
  dsimp only
  rw [locs_d]
  simp [dedup, reach_nil, rens_d, picks, crens, h, Rv.ren, writes]
theorem callD_exc {f : Fn} {n c : Nat} {xs ys : List D} {L : Led} (hn : xs.length = n) (h : f (xs.map Rv.d) [] = .exc c ys []) : callD f n [] (xs.map Rv.d) L = .exc c ys L := by
  unfold callD
  rw [if_pos (by simpa using hn), List.map_nil, List.append_nil]
  unfold callF
  dsimp only
  rw [locs_d]
  simp [dedup, reach_nil, rens_d, picks, crens, h, Rv.ren, writes]
theorem pow9 {L : Led} : powV (.d (.int 10)) (.d (.int 9)) L = .ok (.d (.int 1000000000)) L := by simp [powV]
theorem mul29 {b : Bool} {L : Led} : mulV b (.d (.int 2)) (.d (.int 1000000000)) L = .ok (.d (.int 2000000000)) L := by simp [mulV, isB]
/-- a cell that holds no cells -/
def Cell.flat (c : Cell) : Prop := c.locs = [] ∧ ∀ f, c.ren f = some c
theorem callD_one {f : Fn} {n j : Nat} {xs : List D} {v : D} {L : Led} {c c' : Cell} (hn : xs.length + 1 = n) (hj : L[j]? = some c) (hc : c.flat) (hc' : c'.flat) (h : f (.loc 0 :: xs.map Rv.d) [c] = .ok (.d v) [c']) : callD f n [] (.loc j :: xs.map Rv.d) L = .ok (.d v) (L.set j c') := by
  unfold callD
  rw [if_pos (by simpa using hn), List.map_nil, List.append_nil]
  unfold callF
  dsimp only
  rw [List.flatMap_cons, locs_d]
  simp [Rv.locs, dedup, reach, hj, hc.1, rens, Rv.ren, place, List.findIdx?_cons, rens_d, picks, crens, hc.2, h, hc'.2, writes]
theorem callD_oneX {f : Fn} {n j k : Nat} {xs ys : List D} {L : Led} {c c' : Cell} (hn : xs.length + 1 = n) (hj : L[j]? = some c) (hc : c.flat) (hc' : c'.flat) (h : f (.loc 0 :: xs.map Rv.d) [c] = .exc k ys [c']) : callD f n [] (.loc j :: xs.map Rv.d) L = .exc k ys (L.set j c') := by
  unfold callD
  rw [if_pos (by simpa using hn), List.map_nil, List.append_nil]
  unfold callF
  dsimp only
  rw [List.flatMap_cons, locs_d]
  simp [Rv.locs, dedup, reach, hj, hc.1, rens, Rv.ren, place, List.findIdx?_cons, rens_d, picks, crens, hc.2, h, hc'.2, writes]
theorem flat_dT {l : List (List Key × D)} : (Cell.dT l).flat := ⟨rfl, fun _ => rfl⟩
theorem flat_dK {l : List (Key × D)} : (Cell.dK l).flat := ⟨rfl, fun _ => rfl⟩
theorem flat_lst {l : List D} : (Cell.lst l).flat := ⟨rfl, fun _ => rfl⟩
/-- what a def leaves, of one flat cell -/
theorem leave_one {x : D} {c : Cell} {r : Led} (h : c.flat) : leave 1 (.d x) (c :: r) = .ok (.d x) [c] := leave_d1 h.2
theorem leaveX_one {k : Nat} {xs : List D} {c : Cell} {r : Led} (h : c.flat) : leaveX 1 k xs (c :: r) = .exc k xs [c] := by
  exact leaveX1 h.2
/-- a law's statements, one by one -/
theorem seq_n {a b : DS} {ρ ρ' : Env} {L L' : Led} (h : a ρ L = .next ρ' L') : sSeq a b ρ L = b ρ' L' := by
  show (a ρ L).then b = _
  rw [h]
  rfl
theorem seq3 {a b c e : DS} {ρ ρ' : Env} {L L' : Led} (h : sSeq a (sSeq b c) ρ L = .next ρ' L') : sSeq a (sSeq b (sSeq c e)) ρ L = e ρ' L' := by
  have h1 : (a ρ L).then (sSeq b c) = .next ρ' L' := h
  show (a ρ L).then (sSeq b (sSeq c e)) = e ρ' L'
  cases e1 : a ρ L with
  | next ρ1 L1 =>
    rw [e1] at h1
    have h2 : (b ρ1 L1).then c = .next ρ' L' := h1
    show (b ρ1 L1).then (sSeq c e) = e ρ' L'
    cases e2 : b ρ1 L1 with
    | next ρ2 L2 =>
      rw [e2] at h2
      have h3 : c ρ2 L2 = .next ρ' L' := h2
      show (c ρ2 L2).then e = e ρ' L'
      rw [h3]
      rfl
    | _ => rw [e2] at h2; cases h2
  | _ => rw [e1] at h1; cases h1
theorem seq_x {a b : DS} {ρ ρ' : Env} {L L' : Led} {k : Nat} {xs : List D} (h : a ρ L = .exc k xs ρ' L') : sSeq a b ρ L = .exc k xs ρ' L' := by
  show (a ρ L).then b = _
  rw [h]
  rfl
theorem seq_r {a b : DS} {ρ : Env} {L L' : Led} {v : Rv} (h : a ρ L = .ret v L') : sSeq a b ρ L = .ret v L' := by
  show (a ρ L).then b = _
  rw [h]
  rfl
theorem law_ret {m : DS} {n : Nat} {x : D} {b : Bool} {L : Led} (h : m (some (.d x) :: List.replicate (n - 1) none) [] = .ret (.d (.bl b)) L) : defF n 1 m [.d x] [] = .ok (.d (.bl b)) [] := by
  have e : (match m ([Rv.d x].map some ++ List.replicate (n - 1) none) [] with
    | .next _ L1 => leave 0 (.d .non) L1
    | .ret v L1 => leave 0 v L1
    | .exc c xs _ L1 => leaveX 0 c xs L1
    | _ => .bad) = .ok (.d (.bl b)) [] := by
    rw [show m ([Rv.d x].map some ++ List.replicate (n - 1) none) [] = .ret (.d (.bl b)) L from h]
    simp [leave, Rv.locs, reach_nil, dedup, picks, crens, Rv.ren]
  simp only [defF]
  exact e
/-! loops, without simp -/
theorem for_range1 {a : DE} {p : Pat} {t : DS} {ρ : Env} {L L1 : Led} {j : Int} (ha : a ρ L = .ok (.d (.int j)) L1) (hs : small j = true) : sFor (iRange1 a) p t ρ L = forK (.vals (rangeL 0 j)) p t (rangeL 0 j).length 0 ρ L1 := by
  show ((a ρ L).bind fun x L1 => match x with
    | .d (.int j) => if small j = true then Res.ok (Src.vals (rangeL 0 j)) L1 else .bad
    | _ => .bad).flow ρ _ = _
  rw [ha]
  show (if small j = true then Res.ok (Src.vals (rangeL 0 j)) L1 else .bad).flow ρ _ = _
  rw [if_pos hs]
  rfl
theorem for_range2 {a b : DE} {p : Pat} {t : DS} {ρ : Env} {L L1 L2 : Led} {i j : Int} (ha : a ρ L = .ok (.d (.int i)) L1) (hb : b ρ L1 = .ok (.d (.int j)) L2) (hi : small i = true) (hs : small j = true) : sFor (iRange2 a b) p t ρ L = forK (.vals (rangeL i j)) p t (rangeL i j).length 0 ρ L2 := by
  have e : iRange2 a b ρ L = .ok (.vals (rangeL i j)) L2 := by
    unfold iRange2
    rw [ha]
    show ((b ρ L1).bind fun y L2 => _) = _
    rw [hb]
    show (if (small i && small j) = true then Res.ok (Src.vals (rangeL i j)) L2 else .bad) = _
    rw [hi, hs]
    rfl
  show ((iRange2 a b ρ L).flow ρ _) = _
  rw [e]
  rfl
theorem for_list {a : DE} {p : Pat} {t : DS} {ρ : Env} {L L1 : Led} {xs : List D} (ha : a ρ L = .ok (.d (.lst xs)) L1) : sFor (iL a) p t ρ L = forK (.vals xs) p t xs.length 0 ρ L1 := by
  have e : iL a ρ L = .ok (.vals xs) L1 := by
    unfold iL
    rw [ha]
    rfl
  show ((iL a ρ L).flow ρ _) = _
  rw [e]
  rfl
theorem defF_ret {n ps : Nat} {m : DS} {args : List Rv} {L L1 : Led} {v : Rv} (h : args.length = ps) (hm : m (args.map some ++ List.replicate (n - ps) none) L = .ret v L1) : defF n ps m args L = leave L.length v L1 := by
  unfold defF
  rw [if_pos h, hm]
theorem defF_next {n ps : Nat} {m : DS} {args : List Rv} {L L1 : Led} {ρ : Env} (h : args.length = ps) (hm : m (args.map some ++ List.replicate (n - ps) none) L = .next ρ L1) : defF n ps m args L = leave L.length (.d .non) L1 := by
  unfold defF
  rw [if_pos h, hm]
theorem defF_exc {n ps k : Nat} {m : DS} {args : List Rv} {L L1 : Led} {ρ : Env} {xs : List D} (h : args.length = ps) (hm : m (args.map some ++ List.replicate (n - ps) none) L = .exc k xs ρ L1) : defF n ps m args L = leaveX L.length k xs L1 := by
  unfold defF
  rw [if_pos h, hm]
theorem compR_step {src : Src} {p : Pat} {c : DT} {e : DE} {ρ ρ1 : Env} {k i : Nat} {acc : List Rv} {L L2 : Led} {v : D} {y : Rv} (hg : src.get L i = some v) (hp : bindP p v ρ = some ρ1) (hc : c ρ1 L = .ok true L) (he : e ρ1 L = .ok y L2) (hl : acc.length < SZ) : compR src p c e ρ (k + 1) i acc L = compR src p c e ρ k (i + 1) (acc ++ [y]) L2 := by
  simp only [compR, hg, hp, hc, he, if_pos hl]
theorem iRange1_ok {a : DE} {ρ : Env} {L L1 : Led} {j : Int} (ha : a ρ L = .ok (.d (.int j)) L1) (hs : small j = true) : iRange1 a ρ L = .ok (.vals (rangeL 0 j)) L1 := by
  unfold iRange1
  rw [ha]
  show (if small j = true then Res.ok (Src.vals (rangeL 0 j)) L1 else .bad) = _
  rw [if_pos hs]
theorem attr_run {t : List (Nat × Nat)} {o e : DE} {ρ : Env} {L L1 L2 L3 : Led} {v x : Rv} (he : e ρ L = .ok v L1) (ho : o ρ L1 = .ok x L2) (hs : setAttrV t x v L2 = .ok () L3) : sAttr t o e ρ L = .next ρ L3 := by
  rw [st_attr, he]
  show (o ρ L1).flow ρ _ = _
  rw [ho]
  show (setAttrV t x v L2).flow ρ _ = _
  rw [hs]
  rfl
theorem mulV_rep {x : D} {C : Nat} {L : Led} (hC : C ≤ 1000) : mulV true (.d (.lst [x])) (.d (.int C)) L = .ok (.loc L.length) (L ++ [.lst (List.replicate C x)]) := by
  have h3 : (decide ((C : Int) < 2 ^ 62) && (decide (-(2 ^ 62) < (C : Int)) && decide ([x].length * (C : Int).toNat ≤ SZ))) = true := by
    have a1 : (C : Int) < 2 ^ 62 := by omega
    have a2 : -(2 ^ 62) < (C : Int) := by omega
    have a3 : [x].length * (C : Int).toNat ≤ SZ := by
      rw [List.length_singleton, Nat.one_mul, Int.toNat_natCast]
      exact Nat.le_trans hC (by decide)
    rw [decide_eq_true a1, decide_eq_true a2, decide_eq_true a3]
    rfl
  have e3 : (List.replicate (C : Int).toNat [x]).flatten = List.replicate C x := by
    apply List.ext_getElem
    · simp
    · intro j h1 h2
      simp
  unfold mulV
  dsimp only [itemsL]
  rw [if_pos h3, e3]
  rfl
theorem e2_run {f : V2} {a b : DE} {ρ : Env} {L L1 L2 : Led} {x y : Rv} (ha : a ρ L = .ok x L1) (hb : b ρ L1 = .ok y L2) : e2 f a b ρ L = f x y L2 := by
  unfold e2
  rw [ha, Res.bind_ok, hb, Res.bind_ok]
theorem eN_run {f : VN} {m : DA} {ρ : Env} {L L1 : Led} {xs : List Rv} (h : m ρ L = .ok xs L1) : eN f m ρ L = f xs L1 := by
  unfold eN
  rw [h, Res.bind_ok]
theorem aC_run {e : DE} {m : DA} {ρ : Env} {L L1 L2 : Led} {x : Rv} {xs : List Rv} (h : e ρ L = .ok x L1) (h2 : m ρ L1 = .ok xs L2) : aC e m ρ L = .ok (x :: xs) L2 := by
  unfold aC
  rw [h, Res.bind_ok, h2, Res.bind_ok]
theorem asg_run {i : Nat} {e : DE} {ρ : Env} {L L1 : Led} {x : Rv} (h : e ρ L = .ok x L1) : sAsg i e ρ L = .next (ρ.set i (some x)) L1 := by
  rw [st_asg, h]
  rfl
/-- a walk that leaves at the first bad item -/
theorem forK_first_aux {xs : List D} {p : Pat} {body : DS} {L : Led} (env : Nat → Env) (bad : Nat → Bool) (F : Nat → Flow) (hF : ∀ i, (∃ k ys ρ L, F i = .exc k ys ρ L) ∨ ∃ v L, F i = .ret v L) (h : ∀ i (hi : i < xs.length), ∃ ρ1, bindP p xs[i] (env i) = some ρ1 ∧ body ρ1 L = if bad i then F i else .next (env (i + 1)) L) :
    ∀ (k i : Nat), i + k = xs.length → forK (.vals xs) p body k i (env i) L = match ((List.range k).map (· + i)).find? bad with
      | some j => F j
      | none => .next (env xs.length) L
  | 0, i, e => by
    have e2 : i = xs.length := by omega
    subst e2
    have hf : (Src.vals xs).fin L = true := rfl
    show (if (Src.vals xs).fin L = true then Flow.next (env xs.length) L else .bad) = _
    rw [if_pos hf]
    rfl
  | k + 1, i, e => by
    obtain ⟨ρ1, h1, h2⟩ := h i (by omega)
    have hg : (Src.vals xs).get L i = some xs[i] := vals_at (by omega) L
    have e1 : ((List.range (k + 1)).map (· + i)).find? bad = if bad i then some i else ((List.range k).map (· + (i + 1))).find? bad := by
      rw [List.range_succ_eq_map, List.map_cons, List.map_map, List.find?_cons]
      have e3 : ((fun x => x + i) ∘ Nat.succ) = fun x => x + (i + 1) := by
        funext x
        show x + 1 + i = x + (i + 1)
        omega
      rw [e3, Nat.zero_add]
      cases bad i <;> rfl
    rw [e1]
    by_cases hb : bad i = true
    · rw [if_pos hb] at h2 ⊢
      rcases hF i with ⟨c, ys, ρ, L', e4⟩ | ⟨v, L', e4⟩
      · simp only [forK, hg, h1, h2, e4]
      · simp only [forK, hg, h1, h2, e4]
    · rw [if_neg hb] at h2 ⊢
      rw [forK_next hg h1 h2]
      exact forK_first_aux env bad F hF h k (i + 1) (by omega)
theorem forK_first {xs : List D} {p : Pat} {body : DS} {L : Led} (env : Nat → Env) (bad : Nat → Bool) (F : Nat → Flow) (hF : ∀ i, (∃ k ys ρ L, F i = .exc k ys ρ L) ∨ ∃ v L, F i = .ret v L) (h : ∀ i (hi : i < xs.length), ∃ ρ1, bindP p xs[i] (env i) = some ρ1 ∧ body ρ1 L = if bad i then F i else .next (env (i + 1)) L) :
    forK (.vals xs) p body xs.length 0 (env 0) L = match (List.range xs.length).find? bad with
      | some j => F j
      | none => .next (env xs.length) L := by
  have := forK_first_aux env bad F hF h xs.length 0 (Nat.zero_add _)
  have e : (List.range xs.length).map (· + 0) = List.range xs.length := by simp
  rw [e] at this
  exact this
end Dl

set_option Elab.async false
set_option linter.all false
set_option maxRecDepth 100000
/-! Df: frames: calls of defs that see an instance with a list of lists. -/
namespace Dl
/-! ### renaming, in general -/
theorem rens_of {f : Nat → Option Nat} : ∀ {xs ys : List Rv}, xs.length = ys.length → (∀ (i : Nat) x, xs[i]? = some x → x.ren f = ys[i]?) → rens f xs = some ys
  | [], [], _, _ => rfl
  | [], _ :: _, h, _ => by cases h
  | _ :: _, [], h, _ => by cases h
  | x :: xs, y :: ys, h, g => by
    have e : x.ren f = some y := g 0 x rfl
    have t : rens f xs = some ys := rens_of (Nat.succ.inj h) fun i z hz => g (i + 1) z hz
    show (x.ren f).bind (fun y => (rens f xs).map (y :: ·)) = _
    rw [e, t]
    rfl
theorem crens_of {f : Nat → Option Nat} : ∀ {xs ys : List Cell}, xs.length = ys.length → (∀ (i : Nat) x, xs[i]? = some x → x.ren f = ys[i]?) → crens f xs = some ys
  | [], [], _, _ => rfl
  | [], _ :: _, h, _ => by cases h
  | _ :: _, [], h, _ => by cases h
  | x :: xs, y :: ys, h, g => by
    have e : x.ren f = some y := g 0 x rfl
    have t : crens f xs = some ys := crens_of (Nat.succ.inj h) fun i z hz => g (i + 1) z hz
    show (x.ren f).bind (fun y => (crens f xs).map (y :: ·)) = _
    rw [e, t]
    rfl
theorem rens_id {f : Nat → Option Nat} : ∀ {xs : List Rv}, (∀ m ∈ xs.flatMap Rv.locs, f m = some m) → rens f xs = some xs
  | [], _ => rfl
  | .d x :: xs, h => by
    show ((some (Rv.d x)).bind fun y => (rens f xs).map (y :: ·)) = _
    rw [rens_id (xs := xs) h]
    rfl
  | .loc n :: xs, h => by
    show ((f n).map Rv.loc).bind (fun y => (rens f xs).map (y :: ·)) = _
    rw [h n (by simp [Rv.locs]), rens_id (xs := xs) fun m hm => h m (by simp [Rv.locs] at hm ⊢; exact .inr hm)]
    rfl
theorem ren_id {f : Nat → Option Nat} : ∀ {c : Cell}, (∀ m ∈ c.locs, f m = some m) → c.ren f = some c
  | .lst _, _ => rfl
  | .dK _, _ => rfl
  | .dT _, _ => rfl
  | .dead, _ => rfl
  | .obj k xs, h => by
    show (rens f xs).map _ = _
    rw [rens_id h]
    rfl
  | .rcd k xs, h => by
    show (rens f xs).map _ = _
    rw [rens_id h]
    rfl
  | .seq xs, h => by
    show (rens f xs).map _ = _
    rw [rens_id h]
    rfl
  | .fz c, h => by
    show (c.ren f).map _ = _
    rw [ren_id (c := c) h]
    rfl
theorem place_at : ∀ {fp : List Nat} {i n : Nat}, fp.Nodup → fp[i]? = some n → place fp n = some i
  | [], _, _, _, h => by simp at h
  | m :: r, 0, n, _, h => by
    have e : m = n := Option.some.inj h
    subst e
    simp [place, List.findIdx?_cons]
  | m :: r, i + 1, n, nd, h => by
    obtain ⟨nd1, nd2⟩ := List.nodup_cons.mp nd
    have h2 : r[i]? = some n := h
    have ne : m ≠ n := fun e => nd1 (e ▸ List.mem_of_getElem? h2)
    have ih := place_at nd2 h2
    unfold place at ih ⊢
    rw [List.findIdx?_cons, ih]
    have e : (m == n) = false := beq_eq_false_iff_ne.mpr ne
    rw [e]
    rfl
theorem place_range {k m : Nat} (h : m < k) : place (List.range k) m = some m := place_at List.nodup_range (by rw [List.getElem?_range h])
theorem dedup_app : ∀ {r s : List Nat}, (s ++ r).Nodup → dedup s r = s ++ r
  | [], s, _ => by rw [List.append_nil]; rfl
  | n :: r, s, nd => by
    have hn : n ∉ s := fun h => by
      rw [List.nodup_append] at nd
      exact nd.2.2 n h n List.mem_cons_self rfl
    show (if n ∈ s then dedup s r else dedup (s ++ [n]) r) = _
    rw [if_neg hn, dedup_app (r := r) (s := s ++ [n]) (by rw [List.append_assoc]; exact nd), List.append_assoc]
    rfl
theorem dedup_skip {n : Nat} {r s : List Nat} (h : n ∈ s) : dedup s (n :: r) = dedup s r := if_pos h
def locsAt (L : Led) (n : Nat) : List Nat := match L[n]? with
  | some c => c.locs
  | none => []
theorem reach_step {L : Led} {k : Nat} {s : List Nat} : reach L (k + 1) s = reach L k (dedup s (s.flatMap (locsAt L))) := rfl
/-- all cells refer within -/
def Closed (L : Led) : Prop := ∀ c ∈ L, ∀ m ∈ c.locs, m < L.length
theorem picks_range {L ex : Led} : picks (L ++ ex) (List.range L.length) = some L := by
  have key : ∀ (k : Nat), k ≤ L.length → picks (L ++ ex) ((List.range k).map (· + (L.length - k))) = some (L.drop (L.length - k)) := fun k => by
    induction k with
    | zero => intro _; simp [picks]
    | succ k ih =>
      intro hk
      have ih := ih (by omega)
      rw [List.range_succ_eq_map, List.map_cons, List.map_map]
      have e1 : ((fun x => x + (L.length - (k + 1))) ∘ Nat.succ) = (· + (L.length - k)) := by
        funext x
        show x + 1 + (L.length - (k + 1)) = x + (L.length - k)
        omega
      rw [e1]
      have hl : 0 + (L.length - (k + 1)) < L.length := by omega
      show ((L ++ ex)[0 + (L.length - (k + 1))]?).bind (fun c => (picks (L ++ ex) ((List.range k).map (· + (L.length - k)))).map (c :: ·)) = _
      rw [ih, List.getElem?_append_left hl, List.getElem?_eq_getElem hl]
      show some (L[0 + (L.length - (k + 1))] :: L.drop (L.length - k)) = _
      have e2 : L.drop (L.length - (k + 1)) = L[L.length - (k + 1)]'(by omega) :: L.drop (L.length - (k + 1) + 1) := List.drop_eq_getElem_cons (by omega)
      have e3 : L.length - (k + 1) + 1 = L.length - k := by omega
      rw [e2, e3]
      simp
  have := key L.length (Nat.le_refl _)
  simpa using this
theorem Closed.reach {L ex : Led} (h : Closed L) : reach (L ++ ex) 3 (List.range L.length) = List.range L.length := reach_same (fun n hn c hc m hm => by
  rw [List.mem_range] at hn ⊢
  rw [List.getElem?_append_left hn] at hc
  exact h c (List.mem_of_getElem? hc) m hm) 3
theorem Closed.crens {L : Led} (h : Closed L) : crens (place (List.range L.length)) L = some L := crens_of rfl fun i c hc => by
  rw [hc]
  exact ren_id fun m hm => place_range (h c (List.mem_of_getElem? hc) m hm)
theorem leave_data {L ex : Led} {v : D} (h : Closed L) : leave L.length (.d v) (L ++ ex) = .ok (.d v) L := by
  unfold leave
  have e : dedup (List.range L.length) (Rv.locs (.d v)) = List.range L.length := rfl
  rw [e, h.reach]
  dsimp only
  rw [picks_range]
  rw [show (some L).bind (crens (place (List.range L.length))) = some L from h.crens]
  rfl
theorem leaveX_data {L ex : Led} {k : Nat} {xs : List D} (h : Closed L) : leaveX L.length k xs (L ++ ex) = .exc k xs L := by
  unfold leaveX
  rw [h.reach, picks_range]
  rw [show (some L).bind (crens (place (List.range L.length))) = some L from h.crens]
/-- a call, its cells by their numbers -/
theorem callF_fp {f : Fn} {args as : List Rv} {L cs L1 L2 : Led} {fp : List Nat} {v w : Rv} (hfp : reach L 3 (dedup [] (args.flatMap Rv.locs)) = fp) (h1 : rens (place fp) args = some as) (h2 : (picks L fp).bind (crens (place fp)) = some cs) (h3 : f as cs = .ok v L1)
    (h4 : v.ren (back fp L.length) = some w) (h5 : crens (back fp L.length) L1 = some L2) (h6 : fp.length ≤ L1.length) : callF f args L = .ok w (writes L fp (L2.take fp.length) ++ L2.drop fp.length) := by
  unfold callF
  rw [hfp]
  dsimp only
  rw [h1, h2]
  dsimp only
  rw [h3]
  dsimp only
  rw [h4, h5]
  dsimp only
  rw [if_pos h6]
theorem callF_fpX {f : Fn} {args as : List Rv} {L cs L1 L2 : Led} {fp : List Nat} {k : Nat} {xs : List D} (hfp : reach L 3 (dedup [] (args.flatMap Rv.locs)) = fp) (h1 : rens (place fp) args = some as) (h2 : (picks L fp).bind (crens (place fp)) = some cs) (h3 : f as cs = .exc k xs L1)
    (h5 : crens (back fp L.length) L1 = some L2) (h6 : fp.length ≤ L1.length) : callF f args L = .exc k xs (writes L fp (L2.take fp.length) ++ L2.drop fp.length) := by
  unfold callF
  rw [hfp]
  dsimp only
  rw [h1, h2]
  dsimp only
  rw [h3]
  dsimp only
  rw [h5]
  dsimp only
  rw [if_pos h6]
/-! ### an instance with data and a list of lists -/
abbrev Rows := List (List D)
structure FAt (L : Led) (n s : Nat) (rs : List Nat) (c : Nat) (d : D) (rows : Rows) : Prop where
  o : L[n]? = some (.obj c [.d d, .loc s])
  q : L[s]? = some (.seq (rs.map .loc))
  len : rs.length = rows.length
  r : ∀ (i x : Nat), rs[i]? = some x → L[x]? = (rows[i]?).map .lst
  nd : (n :: s :: rs).Nodup
/-- as a def sees it whose first argument it is -/
def canon (c : Nat) (d : D) (rows : Rows) : Led := .obj c [.d d, .loc 1] :: .seq ((List.range rows.length).map fun i => .loc (i + 2)) :: rows.map .lst
/-- .. with a flat cell as its second -/
def canon2 (c : Nat) (d : D) (k : Cell) (rows : Rows) : Led := .obj c [.d d, .loc 2] :: k :: .seq ((List.range rows.length).map fun i => .loc (i + 3)) :: rows.map .lst
def putF (L : Led) (rs : List Nat) (rows : Rows) : Led := writes L rs (rows.map .lst)
theorem set_self {L : Led} {n : Nat} {c : Cell} (h : L[n]? = some c) : L.set n c = L := by
  obtain ⟨h1, h2⟩ := List.getElem?_eq_some_iff.mp h
  rw [← h2, List.set_getElem_self]
theorem writes_nil {L : Led} {cs : List Cell} : writes L [] cs = L := by cases cs <;> rfl
theorem writes_self : ∀ {fp : List Nat} {L : Led} {cs : List Cell}, picks L fp = some cs → writes L fp cs = L
  | [], _, _, _ => writes_nil
  | n :: r, L, [], _ => rfl
  | n :: r, L, c :: cs, h => by
    have h1 : (L[n]?).bind (fun c => (picks L r).map (c :: ·)) = some (c :: cs) := h
    cases e1 : L[n]? with
    | none => rw [e1] at h1; cases h1
    | some c' =>
      cases e2 : picks L r with
      | none => rw [e1, e2] at h1; cases h1
      | some cs' =>
        rw [e1, e2] at h1
        have h2 : c' :: cs' = c :: cs := Option.some.inj h1
        injection h2 with h3 h4
        show writes (L.set n c) r cs = L
        rw [← h3, set_self e1, ← h4]
        exact writes_self e2
theorem writes_get : ∀ {fp : List Nat} {L : Led} {cs : List Cell} {m : Nat}, m ∉ fp → (writes L fp cs)[m]? = L[m]?
  | [], _, _, _, _ => by rw [writes_nil]
  | n :: r, L, [], _, _ => rfl
  | n :: r, L, c :: cs, m, h => by
    show (writes (L.set n c) r cs)[m]? = L[m]?
    rw [writes_get fun z => h (List.mem_cons_of_mem _ z), List.getElem?_set_ne (fun z : n = m => h (by rw [z]; exact List.mem_cons_self))]
theorem writes_length : ∀ {fp : List Nat} {L : Led} {cs : List Cell}, (writes L fp cs).length = L.length
  | [], _, _ => by rw [writes_nil]
  | _ :: _, _, [] => rfl
  | n :: r, L, c :: cs => by
    show (writes (L.set n c) r cs).length = L.length
    rw [writes_length, List.length_set]
theorem writes_hit : ∀ {fp : List Nat} {L : Led} {cs : List Cell} {i x : Nat}, fp.Nodup → (∀ y ∈ fp, y < L.length) → fp.length = cs.length → fp[i]? = some x → (writes L fp cs)[x]? = cs[i]?
  | [], _, _, _, _, _, _, _, h => by simp at h
  | _ :: _, _, [], _, _, _, _, hl, _ => by cases hl
  | n :: r, L, c :: cs, 0, x, nd, hin, _, h => by
    have e : n = x := Option.some.inj h
    subst e
    show (writes (L.set n c) r cs)[n]? = some c
    rw [writes_get (List.nodup_cons.mp nd).1, List.getElem?_set_self (hin n List.mem_cons_self)]
  | n :: r, L, c :: cs, i + 1, x, nd, hin, hl, h => by
    show (writes (L.set n c) r cs)[x]? = cs[i]?
    exact writes_hit (List.nodup_cons.mp nd).2 (fun y hy => by rw [List.length_set]; exact hin y (List.mem_cons_of_mem _ hy)) (Nat.succ.inj hl) h
section
variable {L : Led} {n s : Nat} {rs : List Nat} {c : Nat} {d : D} {rows rows' : Rows}
theorem FAt.inb (h : FAt L n s rs c d rows) : ∀ y ∈ rs, y < L.length := fun y hy => by
  obtain ⟨i, hi⟩ := List.getElem?_of_mem hy
  have e := h.r i y hi
  have hl : i < rows.length := by rw [← h.len]; exact (List.getElem?_eq_some_iff.mp hi).1
  rw [List.getElem?_eq_getElem hl] at e
  exact (List.getElem?_eq_some_iff.mp e).1
theorem FAt.ndr (h : FAt L n s rs c d rows) : rs.Nodup := (List.nodup_cons.mp (List.nodup_cons.mp h.nd).2).2
theorem FAt.nin (h : FAt L n s rs c d rows) : n ∉ rs ∧ s ∉ rs ∧ n ≠ s := by
  obtain ⟨h1, h2⟩ := List.nodup_cons.mp h.nd
  obtain ⟨h3, h4⟩ := List.nodup_cons.mp h2
  exact ⟨fun z => h1 (List.mem_cons_of_mem _ z), h3, fun z => h1 (z ▸ List.mem_cons_self)⟩
theorem FAt.put (h : FAt L n s rs c d rows) (hl : rows'.length = rows.length) : FAt (putF L rs rows') n s rs c d rows' := by
  refine ⟨?_, ?_, by rw [h.len, hl], fun i x hx => ?_, h.nd⟩
  · unfold putF
    rw [writes_get h.nin.1]
    exact h.o
  · unfold putF
    rw [writes_get h.nin.2.1]
    exact h.q
  · unfold putF
    rw [writes_hit h.ndr h.inb (by rw [List.length_map, h.len, hl]) hx, List.getElem?_map]
theorem picks_rows : ∀ {rs : List Nat} {rows : Rows}, rs.length = rows.length → (∀ (i x : Nat), rs[i]? = some x → L[x]? = (rows[i]?).map .lst) → picks L rs = some (rows.map .lst)
  | [], [], _, _ => rfl
  | [], _ :: _, h, _ => by cases h
  | _ :: _, [], h, _ => by cases h
  | x :: rs, r :: rows, h, g => by
    have e : L[x]? = some (.lst r) := g 0 x rfl
    have t : picks L rs = some (rows.map .lst) := picks_rows (Nat.succ.inj h) fun i z hz => g (i + 1) z hz
    show (L[x]?).bind (fun c => (picks L rs).map (c :: ·)) = _
    rw [e, t]
    rfl
theorem putF_self (h : FAt L n s rs c d rows) : putF L rs rows = L := writes_self (picks_rows h.len h.r)
theorem crens_rows {f : Nat → Option Nat} : crens f (rows.map .lst) = some (rows.map .lst) := crens_of rfl fun i c hc => by
  rw [hc]
  rw [List.getElem?_map] at hc
  cases e : rows[i]? with
  | none => rw [e] at hc; cases hc
  | some r =>
    rw [e] at hc
    have e2 : Cell.lst r = c := Option.some.inj hc
    rw [← e2]
    rfl
theorem canon_at : FAt (canon c d rows) 0 1 ((List.range rows.length).map (· + 2)) c d rows := by
  refine ⟨rfl, ?_, by simp, fun i x hx => ?_, ?_⟩
  · show some (Cell.seq ((List.range rows.length).map fun i => Rv.loc (i + 2))) = _
    rw [List.map_map]
    rfl
  · rw [List.getElem?_map] at hx
    cases e : (List.range rows.length)[i]? with
    | none => rw [e] at hx; cases hx
    | some k =>
      rw [e] at hx
      have hk := List.getElem?_eq_some_iff.mp e
      obtain ⟨h1, h2⟩ := hk
      rw [List.getElem_range] at h2
      have e2 : k + 2 = x := Option.some.inj hx
      rw [← e2, ← h2]
      show (rows.map Cell.lst)[i]? = _
      rw [List.getElem?_map]
  · rw [List.nodup_cons, List.nodup_cons]
    refine ⟨by simp, by simp, ?_⟩
    exact List.Pairwise.map _ (fun a b h z => h (by omega)) List.nodup_range
theorem canon2_at {k : Cell} : FAt (canon2 c d k rows) 0 2 ((List.range rows.length).map (· + 3)) c d rows := by
  refine ⟨rfl, ?_, by simp, fun i x hx => ?_, ?_⟩
  · show some (Cell.seq ((List.range rows.length).map fun i => Rv.loc (i + 3))) = _
    rw [List.map_map]
    rfl
  · rw [List.getElem?_map] at hx
    cases e : (List.range rows.length)[i]? with
    | none => rw [e] at hx; cases hx
    | some k =>
      rw [e] at hx
      have hk := List.getElem?_eq_some_iff.mp e
      obtain ⟨h1, h2⟩ := hk
      rw [List.getElem_range] at h2
      have e2 : k + 3 = x := Option.some.inj hx
      rw [← e2, ← h2]
      show (rows.map Cell.lst)[i]? = _
      rw [List.getElem?_map]
  · rw [List.nodup_cons, List.nodup_cons]
    refine ⟨by simp, by simp, ?_⟩
    exact List.Pairwise.map _ (fun a b h z => h (by omega)) List.nodup_range
theorem locs_map (rs : List Nat) : (rs.map Rv.loc).flatMap Rv.locs = rs := by
  induction rs with
  | nil => rfl
  | cons a r ih => rw [List.map_cons, List.flatMap_cons, ih]; rfl
theorem FAt.reach (h : FAt L n s rs c d rows) : Dl.reach L 3 [n] = n :: s :: rs := by
  have e1 : locsAt L n = [s] := by
    unfold locsAt
    rw [h.o]
    rfl
  have e2 : locsAt L s = rs := by
    unfold locsAt
    rw [h.q]
    exact locs_map rs
  have nd2 : ([n] ++ [s]).Nodup := by simp [h.nin.2.2]
  rw [reach_step, List.flatMap_cons, List.flatMap_nil, e1, List.append_nil, dedup_app nd2, reach_step]
  show Dl.reach L 1 (dedup [n, s] (locsAt L n ++ (locsAt L s ++ []))) = _
  rw [e1, e2, List.append_nil]
  show Dl.reach L 1 (dedup [n, s] (s :: rs)) = _
  rw [dedup_skip (by simp), dedup_app (by exact h.nd)]
  refine reach_same (fun m hm cc hc k hk => ?_) 1
  have hm' : m = n ∨ m = s ∨ m ∈ rs := by simpa using hm
  rcases hm' with rfl | rfl | hm'
  · rw [h.o] at hc
    cases hc
    have : k = s := by simpa [Cell.locs, Rv.locs] using hk
    rw [this]
    simp
  · rw [h.q] at hc
    cases hc
    have : k ∈ rs := by rw [← locs_map rs]; exact hk
    simp [this]
  · obtain ⟨i, hi⟩ := List.getElem?_of_mem hm'
    rw [h.r i m hi] at hc
    cases e : rows[i]? with
    | none => rw [e] at hc; cases hc
    | some r =>
      rw [e] at hc
      cases hc
      cases hk
theorem FAt.pick (h : FAt L n s rs c d rows) : (picks L (n :: s :: rs)).bind (crens (place (n :: s :: rs))) = some (canon c d rows) := by
  have e : picks L (n :: s :: rs) = some (.obj c [.d d, .loc s] :: .seq (rs.map .loc) :: rows.map .lst) := by
    show (L[n]?).bind (fun c => ((L[s]?).bind fun c => (picks L rs).map (c :: ·)).map (c :: ·)) = _
    rw [h.o, h.q, picks_rows h.len h.r]
    rfl
  rw [e]
  have p1 : place (n :: s :: rs) s = some 1 := place_at h.nd rfl
  have r1 : rens (place (n :: s :: rs)) [.d d, .loc s] = some [.d d, .loc 1] := by simp [rens, Rv.ren, p1]
  have r2 : rens (place (n :: s :: rs)) (rs.map .loc) = some ((List.range rows.length).map fun i => .loc (i + 2)) := rens_of (by simp [h.len]) fun i x hx => by
    rw [List.getElem?_map] at hx
    cases e1 : rs[i]? with
    | none => rw [e1] at hx; cases hx
    | some y =>
      rw [e1] at hx
      have e2 : Rv.loc y = x := Option.some.inj hx
      rw [← e2]
      have hi : i < rows.length := by rw [← h.len]; exact (List.getElem?_eq_some_iff.mp e1).1
      show (place (n :: s :: rs) y).map Rv.loc = _
      rw [place_at (i := i + 2) h.nd e1, List.getElem?_map, List.getElem?_range hi]
      rfl
  show (((rens (place (n :: s :: rs)) [.d d, .loc s]).map (Cell.obj c)).bind fun y => (((rens (place (n :: s :: rs)) (rs.map .loc)).map Cell.seq).bind fun y => (crens (place (n :: s :: rs)) (rows.map .lst)).map (y :: ·)).map (y :: ·)) = _
  rw [r1, r2, crens_rows]
  rfl
theorem FAt.back (h : FAt L n s rs c d rows) {m : Nat} (hl : rows'.length = rows.length) : crens (Dl.back (n :: s :: rs) m) (canon c d rows') = some (.obj c [.d d, .loc s] :: .seq (rs.map .loc) :: rows'.map .lst) := by
  have p1 : Dl.back (n :: s :: rs) m 1 = some s := by simp [Dl.back]
  have r1 : rens (Dl.back (n :: s :: rs) m) [.d d, .loc 1] = some [.d d, .loc s] := by simp [rens, Rv.ren, p1]
  have r2 : rens (Dl.back (n :: s :: rs) m) ((List.range rows'.length).map fun i => .loc (i + 2)) = some (rs.map .loc) := rens_of (by simp [h.len, hl]) fun i x hx => by
    rw [List.getElem?_map] at hx
    cases e1 : (List.range rows'.length)[i]? with
    | none => rw [e1] at hx; cases hx
    | some y =>
      rw [e1] at hx
      have e2 : Rv.loc (y + 2) = x := Option.some.inj hx
      obtain ⟨h1, h2⟩ := List.getElem?_eq_some_iff.mp e1
      rw [List.getElem_range] at h2
      rw [List.length_range, hl, ← h.len] at h1
      rw [← e2, ← h2]
      show (Dl.back (n :: s :: rs) m (i + 2)).map Rv.loc = _
      have h3 : i + 2 < (n :: s :: rs).length := by simp; omega
      unfold Dl.back
      rw [if_pos h3, List.getElem?_map]
      rfl
  show (((rens (Dl.back (n :: s :: rs) m) [.d d, .loc 1]).map (Cell.obj c)).bind fun y => (((rens (Dl.back (n :: s :: rs) m) ((List.range rows'.length).map fun i => .loc (i + 2))).map Cell.seq).bind fun y => (crens (Dl.back (n :: s :: rs) m) (rows'.map .lst)).map (y :: ·)).map (y :: ·)) = _
  rw [r1, r2, crens_rows]
  rfl
theorem FAt.writes (h : FAt L n s rs c d rows) {cs : List Cell} : Dl.writes L (n :: s :: rs) (.obj c [.d d, .loc s] :: .seq (rs.map .loc) :: cs) = Dl.writes L rs cs := by
  show Dl.writes ((L.set n _).set s _) rs cs = _
  rw [set_self h.o, set_self h.q]
/-- a def whose first argument is the instance, the others data -/
theorem FAt.call {f : Fn} {k : Nat} {xs : List D} {v : D} (h : FAt L n s rs c d rows) (hn : xs.length + 1 = k) (hf : f (.loc 0 :: xs.map Rv.d) (canon c d rows) = .ok (.d v) (canon c d rows')) (hl : rows'.length = rows.length) : callD f k [] (.loc n :: xs.map Rv.d) L = .ok (.d v) (putF L rs rows') := by
  unfold callD
  rw [if_pos (by simpa using hn), List.map_nil, List.append_nil]
  have lc : (canon c d rows').length = (n :: s :: rs).length := by simp [canon, hl, h.len]
  have hb := h.back (m := L.length) hl
  rw [callF_fp (fp := n :: s :: rs) (as := .loc 0 :: xs.map Rv.d) (cs := canon c d rows) (v := .d v) (w := .d v) ?_ ?_ h.pick hf rfl hb (Nat.le_of_eq lc.symm)]
  · have l2 : (Cell.obj c [.d d, .loc s] :: .seq (rs.map .loc) :: rows'.map Cell.lst).length = (n :: s :: rs).length := by simp [hl, h.len]
    rw [← l2, List.take_length, List.drop_length, List.append_nil, h.writes]
    rfl
  · rw [List.flatMap_cons, locs_d]
    exact h.reach
  · show ((place (n :: s :: rs) n).map Rv.loc).bind (fun y => (rens (place (n :: s :: rs)) (xs.map Rv.d)).map (y :: ·)) = _
    rw [place_at (i := 0) h.nd rfl, rens_d]
    rfl
theorem FAt.callX {f : Fn} {k j : Nat} {xs ys : List D} (h : FAt L n s rs c d rows) (hn : xs.length + 1 = k) (hf : f (.loc 0 :: xs.map Rv.d) (canon c d rows) = .exc j ys (canon c d rows')) (hl : rows'.length = rows.length) : callD f k [] (.loc n :: xs.map Rv.d) L = .exc j ys (putF L rs rows') := by
  unfold callD
  rw [if_pos (by simpa using hn), List.map_nil, List.append_nil]
  have lc : (canon c d rows').length = (n :: s :: rs).length := by simp [canon, hl, h.len]
  have hb := h.back (m := L.length) hl
  rw [callF_fpX (fp := n :: s :: rs) (as := .loc 0 :: xs.map Rv.d) (cs := canon c d rows) ?_ ?_ h.pick hf hb (Nat.le_of_eq lc.symm)]
  · have l2 : (Cell.obj c [.d d, .loc s] :: .seq (rs.map .loc) :: rows'.map Cell.lst).length = (n :: s :: rs).length := by simp [hl, h.len]
    rw [← l2, List.take_length, List.drop_length, List.append_nil, h.writes]
    rfl
  · rw [List.flatMap_cons, locs_d]
    exact h.reach
  · show ((place (n :: s :: rs) n).map Rv.loc).bind (fun y => (rens (place (n :: s :: rs)) (xs.map Rv.d)).map (y :: ·)) = _
    rw [place_at (i := 0) h.nd rfl, rens_d]
    rfl
theorem FAt.reach2 {m : Nat} {kc : Cell} (h : FAt L n s rs c d rows) (hm : L[m]? = some kc) (hk : kc.locs = []) (hne : m ∉ n :: s :: rs) : Dl.reach L 3 [n, m] = n :: m :: s :: rs := by
  have e1 : locsAt L n = [s] := by
    unfold locsAt
    rw [h.o]
    rfl
  have e2 : locsAt L s = rs := by
    unfold locsAt
    rw [h.q]
    exact locs_map rs
  have e3 : locsAt L m = [] := by
    unfold locsAt
    rw [hm]
    exact hk
  obtain ⟨n1, n2, n3⟩ := h.nin
  have m1 : m ≠ n := fun z => hne (by simp [z])
  have m2 : m ≠ s := fun z => hne (by simp [z])
  have m3 : m ∉ rs := fun z => hne (by simp [z])
  have nd1 : ([n, m] ++ [s]).Nodup := by simp [n3, m1.symm, m2]
  have nd2 : ([n, m, s] ++ rs).Nodup := by
    have := h.ndr
    simp [n1, n2, n3, m1.symm, m2, m3, this]
  rw [reach_step]
  show Dl.reach L 2 (dedup [n, m] (locsAt L n ++ (locsAt L m ++ []))) = _
  rw [e1, e3, List.append_nil, List.append_nil, dedup_app nd1, reach_step]
  show Dl.reach L 1 (dedup [n, m, s] (locsAt L n ++ (locsAt L m ++ (locsAt L s ++ [])))) = _
  rw [e1, e2, e3, List.append_nil, List.nil_append]
  show Dl.reach L 1 (dedup [n, m, s] (s :: rs)) = _
  rw [dedup_skip (by simp), dedup_app nd2]
  refine reach_same (fun x hx cc hc k hk2 => ?_) 1
  have hx' : x = n ∨ x = m ∨ x = s ∨ x ∈ rs := by simpa using hx
  rcases hx' with rfl | rfl | rfl | hx'
  · rw [h.o] at hc
    cases hc
    have : k = s := by simpa [Cell.locs, Rv.locs] using hk2
    rw [this]
    simp
  · rw [hm] at hc
    cases hc
    rw [hk] at hk2
    cases hk2
  · rw [h.q] at hc
    cases hc
    have : k ∈ rs := by rw [← locs_map rs]; exact hk2
    simp [this]
  · obtain ⟨i, hi⟩ := List.getElem?_of_mem hx'
    rw [h.r i x hi] at hc
    cases e : rows[i]? with
    | none => rw [e] at hc; cases hc
    | some r =>
      rw [e] at hc
      cases hc
      cases hk2
/-- .. and a flat cell, both as they were -/
theorem FAt.call2 {f : Fn} {k m : Nat} {kc : Cell} {xs : List D} {v : D} (h : FAt L n s rs c d rows) (hm : L[m]? = some kc) (hk : kc.flat) (hne : m ∉ n :: s :: rs) (hn : xs.length + 2 = k) (hf : f (.loc 0 :: .loc 1 :: xs.map Rv.d) (canon2 c d kc rows) = .ok (.d v) (canon2 c d kc rows)) : callD f k [] (.loc n :: .loc m :: xs.map Rv.d) L = .ok (.d v) L := by
  unfold callD
  rw [if_pos (by simpa using hn), List.map_nil, List.append_nil]
  obtain ⟨n1, n2, n3⟩ := h.nin
  have m1 : m ≠ n := fun z => hne (by simp [z])
  have m2 : m ≠ s := fun z => hne (by simp [z])
  have m3 : m ∉ rs := fun z => hne (by simp [z])
  have nd : (n :: m :: s :: rs).Nodup := by
    have := h.ndr
    simp [n1, n2, n3, m1.symm, m2, m3, this]
  have lc : (canon2 c d kc rows).length = (n :: m :: s :: rs).length := by simp [canon2, h.len]
  have hpk : picks L (n :: m :: s :: rs) = some (.obj c [.d d, .loc s] :: kc :: .seq (rs.map .loc) :: rows.map .lst) := by
    show (L[n]?).bind (fun c => ((L[m]?).bind fun c => ((L[s]?).bind fun c => (picks L rs).map (c :: ·)).map (c :: ·)).map (c :: ·)) = _
    rw [h.o, hm, h.q, picks_rows h.len h.r]
    rfl
  have hpick : (picks L (n :: m :: s :: rs)).bind (crens (place (n :: m :: s :: rs))) = some (canon2 c d kc rows) := by
    rw [hpk]
    have p1 : place (n :: m :: s :: rs) s = some 2 := place_at nd rfl
    have r1 : rens (place (n :: m :: s :: rs)) [.d d, .loc s] = some [.d d, .loc 2] := by simp [rens, Rv.ren, p1]
    have r2 : rens (place (n :: m :: s :: rs)) (rs.map .loc) = some ((List.range rows.length).map fun i => .loc (i + 3)) := rens_of (by simp [h.len]) fun i x hx => by
      rw [List.getElem?_map] at hx
      cases e1 : rs[i]? with
      | none => rw [e1] at hx; cases hx
      | some y =>
        rw [e1] at hx
        have e2 : Rv.loc y = x := Option.some.inj hx
        rw [← e2]
        have hi : i < rows.length := by rw [← h.len]; exact (List.getElem?_eq_some_iff.mp e1).1
        show (place (n :: m :: s :: rs) y).map Rv.loc = _
        rw [place_at (i := i + 3) nd e1, List.getElem?_map, List.getElem?_range hi]
        rfl
    show (((rens (place (n :: m :: s :: rs)) [.d d, .loc s]).map (Cell.obj c)).bind fun y => (((kc.ren (place (n :: m :: s :: rs))).bind fun y => (((rens (place (n :: m :: s :: rs)) (rs.map .loc)).map Cell.seq).bind fun y => (crens (place (n :: m :: s :: rs)) (rows.map .lst)).map (y :: ·)).map (y :: ·)).map (y :: ·))) = _
    rw [r1, r2, crens_rows, hk.2]
    rfl
  have hb : crens (Dl.back (n :: m :: s :: rs) L.length) (canon2 c d kc rows) = some (.obj c [.d d, .loc s] :: kc :: .seq (rs.map .loc) :: rows.map .lst) := by
    have p1 : Dl.back (n :: m :: s :: rs) L.length 2 = some s := by simp [Dl.back]
    have r1 : rens (Dl.back (n :: m :: s :: rs) L.length) [.d d, .loc 2] = some [.d d, .loc s] := by simp [rens, Rv.ren, p1]
    have r2 : rens (Dl.back (n :: m :: s :: rs) L.length) ((List.range rows.length).map fun i => .loc (i + 3)) = some (rs.map .loc) := rens_of (by simp [h.len]) fun i x hx => by
      rw [List.getElem?_map] at hx
      cases e1 : (List.range rows.length)[i]? with
      | none => rw [e1] at hx; cases hx
      | some y =>
        rw [e1] at hx
        have e2 : Rv.loc (y + 3) = x := Option.some.inj hx
        obtain ⟨h1, h2⟩ := List.getElem?_eq_some_iff.mp e1
        rw [List.getElem_range] at h2
        rw [List.length_range, ← h.len] at h1
        rw [← e2, ← h2]
        show (Dl.back (n :: m :: s :: rs) L.length (i + 3)).map Rv.loc = _
        have h3 : i + 3 < (n :: m :: s :: rs).length := by simp; omega
        unfold Dl.back
        rw [if_pos h3, List.getElem?_map]
        rfl
    show (((rens (Dl.back (n :: m :: s :: rs) L.length) [.d d, .loc 2]).map (Cell.obj c)).bind fun y => (((kc.ren (Dl.back (n :: m :: s :: rs) L.length)).bind fun y => (((rens (Dl.back (n :: m :: s :: rs) L.length) ((List.range rows.length).map fun i => .loc (i + 3))).map Cell.seq).bind fun y => (crens (Dl.back (n :: m :: s :: rs) L.length) (rows.map .lst)).map (y :: ·)).map (y :: ·)).map (y :: ·))) = _
    rw [r1, r2, crens_rows, hk.2]
    rfl
  rw [callF_fp (fp := n :: m :: s :: rs) (as := .loc 0 :: .loc 1 :: xs.map Rv.d) (cs := canon2 c d kc rows) (v := .d v) (w := .d v) ?_ ?_ hpick hf rfl hb (Nat.le_of_eq lc.symm)]
  · have l2 : (Cell.obj c [.d d, .loc s] :: kc :: .seq (rs.map .loc) :: rows.map Cell.lst).length = (n :: m :: s :: rs).length := by simp [h.len]
    rw [← l2, List.take_length, List.drop_length, List.append_nil, writes_self hpk]
  · rw [List.flatMap_cons, List.flatMap_cons, locs_d]
    show Dl.reach L 3 (dedup [] [n, m]) = _
    have e0 : dedup [] [n, m] = [n, m] := dedup_app (s := []) (by simp [m1.symm])
    rw [e0]
    exact h.reach2 hm hk.1 hne
  · show ((place (n :: m :: s :: rs) n).map Rv.loc).bind (fun y => (((place (n :: m :: s :: rs) m).map Rv.loc).bind fun y => (rens (place (n :: m :: s :: rs)) (xs.map Rv.d)).map (y :: ·)).map (y :: ·)) = _
    rw [place_at (i := 0) nd rfl, place_at (i := 1) nd rfl, rens_d]
    rfl
theorem canon_closed : Closed (canon c d rows) := fun cc hc m hm => by
  have hl : (canon c d rows).length = rows.length + 2 := by simp [canon]
  rw [hl]
  have hc' : cc = .obj c [.d d, .loc 1] ∨ cc = .seq ((List.range rows.length).map fun i => .loc (i + 2)) ∨ cc ∈ rows.map Cell.lst := by simpa [canon] using hc
  rcases hc' with rfl | rfl | hc'
  · have : m = 1 := by simpa [Cell.locs, Rv.locs] using hm
    omega
  · have h2 : m ∈ ((List.range rows.length).map fun i => Rv.loc (i + 2)).flatMap Rv.locs := hm
    obtain ⟨x, hx, h3⟩ := List.mem_flatMap.mp h2
    obtain ⟨i, hi, e⟩ := List.mem_map.mp hx
    rw [← e] at h3
    have : m = i + 2 := by simpa [Rv.locs] using h3
    have := List.mem_range.mp hi
    omega
  · obtain ⟨r, _, e⟩ := List.mem_map.mp hc'
    rw [← e] at hm
    cases hm
theorem canon2_closed {k : Cell} (hk : k.flat) : Closed (canon2 c d k rows) := fun cc hc m hm => by
  have hl : (canon2 c d k rows).length = rows.length + 3 := by simp [canon2]
  rw [hl]
  have hc' : cc = .obj c [.d d, .loc 2] ∨ cc = k ∨ cc = .seq ((List.range rows.length).map fun i => .loc (i + 3)) ∨ cc ∈ rows.map Cell.lst := by simpa [canon2] using hc
  rcases hc' with rfl | rfl | rfl | hc'
  · have : m = 2 := by simpa [Cell.locs, Rv.locs] using hm
    omega
  · rw [hk.1] at hm
    cases hm
  · have h2 : m ∈ ((List.range rows.length).map fun i => Rv.loc (i + 3)).flatMap Rv.locs := hm
    obtain ⟨x, hx, h3⟩ := List.mem_flatMap.mp h2
    obtain ⟨i, hi, e⟩ := List.mem_map.mp hx
    rw [← e] at h3
    have : m = i + 3 := by simpa [Rv.locs] using h3
    have := List.mem_range.mp hi
    omega
  · obtain ⟨r, _, e⟩ := List.mem_map.mp hc'
    rw [← e] at hm
    cases hm
theorem leave_canon {v : D} (hl : rows'.length = rows.length) : leave (canon c d rows).length (.d v) (canon c d rows') = .ok (.d v) (canon c d rows') := by
  have e : (canon c d rows).length = (canon c d rows').length := by simp [canon, hl]
  have := leave_data (L := canon c d rows') (ex := []) (v := v) canon_closed
  rw [List.append_nil] at this
  rw [e]
  exact this
theorem leaveX_canon {k : Nat} {xs : List D} (hl : rows'.length = rows.length) : leaveX (canon c d rows).length k xs (canon c d rows') = .exc k xs (canon c d rows') := by
  have e : (canon c d rows).length = (canon c d rows').length := by simp [canon, hl]
  have := leaveX_data (L := canon c d rows') (ex := []) (k := k) (xs := xs) canon_closed
  rw [List.append_nil] at this
  rw [e]
  exact this
theorem leave_canon2 {v : D} {k : Cell} (hk : k.flat) : leave (canon2 c d k rows).length (.d v) (canon2 c d k rows) = .ok (.d v) (canon2 c d k rows) := by
  have := leave_data (L := canon2 c d k rows) (ex := []) (v := v) (canon2_closed hk)
  rw [List.append_nil] at this
  exact this
/-! ### texts in a grid -/
def mkR (R C : Nat) (g : Nat → Nat → Txt) : Rows := (List.range R).map fun r => (List.range C).map fun p => D.str (g r p)
def upG (g : Nat → Nat → Txt) (r p : Nat) (t : Txt) : Nat → Nat → Txt := fun a b => if a = r ∧ b = p then t else g a b
theorem mkR_len {R C : Nat} {g : Nat → Nat → Txt} : (mkR R C g).length = R := by simp [mkR]
theorem mkR_get {R C : Nat} {g : Nat → Nat → Txt} {i : Nat} (h : i < R) : (mkR R C g)[i]? = some ((List.range C).map fun p => D.str (g i p)) := by
  unfold mkR
  rw [List.getElem?_map, List.getElem?_range h]
  rfl
theorem mkR_set {R C : Nat} {g : Nat → Nat → Txt} {r p : Nat} {t : Txt} : (mkR R C g).set r (((List.range C).map fun p => D.str (g r p)).set p (.str t)) = mkR R C (upG g r p t) := by
  apply List.ext_getElem?
  intro i
  by_cases hi : i < R
  · rw [mkR_get hi]
    by_cases e : r = i
    · subst e
      rw [List.getElem?_set_self (by rw [mkR_len]; exact hi)]
      congr 1
      apply List.ext_getElem?
      intro j
      by_cases hj : j < C
      · rw [List.getElem?_map, List.getElem?_range hj]
        by_cases e2 : p = j
        · subst e2
          rw [List.getElem?_set_self (by simpa using hj)]
          simp [upG]
        · rw [List.getElem?_set_ne e2, List.getElem?_map, List.getElem?_range hj]
          show some (D.str (g r j)) = some (D.str (if r = r ∧ j = p then t else g r j))
          rw [if_neg (fun z : r = r ∧ j = p => e2 z.2.symm)]
      · rw [List.getElem?_eq_none (by simpa using hj), List.getElem?_eq_none (by simpa using hj)]
    · rw [List.getElem?_set_ne e, mkR_get hi]
      congr 1
      apply List.map_congr_left
      intro j _
      show D.str (g i j) = D.str (if i = r ∧ j = p then t else g i j)
      rw [if_neg (fun z : i = r ∧ j = p => e z.1.symm)]
  · rw [List.getElem?_eq_none (by simpa [mkR_len] using hi), List.getElem?_eq_none (by simpa [mkR_len] using hi)]
abbrev cn (P : D) (R C : Nat) (g : Nat → Nat → Txt) : Led := canon 9 P (mkR R C g)
section
variable {P : D} {R C : Nat} {g : Nat → Nat → Txt}
theorem canon_get {i : Nat} : (canon c d rows)[i + 2]? = (rows[i]?).map .lst := by
  show (rows.map Cell.lst)[i]? = _
  rw [List.getElem?_map]
theorem canon_set {i : Nat} {x : List D} : (canon c d rows).set (i + 2) (.lst x) = canon c d (rows.set i x) := by
  show Cell.obj c [.d d, .loc 1] :: Cell.seq ((List.range rows.length).map fun i => .loc (i + 2)) :: (rows.map Cell.lst).set i (.lst x) = _
  unfold canon
  rw [List.length_set, List.map_set]
theorem cnk_ix1 {r : Int} (h1 : 0 ≤ r) (h2 : r < R) : ixV (.loc 1) (.d (.int r)) (canon c P (mkR R C g)) = .ok (.loc (r.toNat + 2)) (canon c P (mkR R C g)) := by
  have e : (canon c P (mkR R C g))[1]? = some (.seq ((List.range R).map fun i => .loc (i + 2))) := by
    show some (Cell.seq ((List.range (mkR R C g).length).map fun i => Rv.loc (i + 2))) = _
    rw [mkR_len]
  have e2 : atI ((List.range R).map fun i => Rv.loc (i + 2)) r = some (.loc (r.toNat + 2)) := atI_range h1 h2
  unfold ixV
  simp only [e, e2]
theorem cnk_ix2 {i : Nat} {p : Int} (hi : i < R) (h1 : 0 ≤ p) (h2 : p < C) : ixV (.loc (i + 2)) (.d (.int p)) (canon c P (mkR R C g)) = .ok (.d (.str (g i p.toNat))) (canon c P (mkR R C g)) := by
  have e : (canon c P (mkR R C g))[i + 2]? = some (.lst ((List.range C).map fun p => D.str (g i p))) := by rw [canon_get, mkR_get hi]; rfl
  have e2 : atI ((List.range C).map fun p => D.str (g i p)) p = some (D.str (g i p.toNat)) := atI_range h1 h2
  unfold ixV
  simp only [e, e2]
theorem cnk_set {i : Nat} {p : Int} {t : Txt} (hi : i < R) (h1 : 0 ≤ p) (h2 : p < C) : setV (.loc (i + 2)) (.d (.int p)) (.d (.str t)) (canon c P (mkR R C g)) = .ok () (canon c P (mkR R C (upG g i p.toNat t))) := by
  have e : (canon c P (mkR R C g))[i + 2]? = some (.lst ((List.range C).map fun p => D.str (g i p))) := by rw [canon_get, mkR_get hi]; rfl
  have e2 : ixN ((List.range C).map fun p => D.str (g i p)).length p = some p.toNat := by
    unfold ixN
    rw [if_pos h1, if_pos (by simpa using h2)]
  unfold setV
  simp only [e, e2]
  rw [canon_set, mkR_set]
theorem cn_ix1 {r : Int} (h1 : 0 ≤ r) (h2 : r < R) : ixV (.loc 1) (.d (.int r)) (cn P R C g) = .ok (.loc (r.toNat + 2)) (cn P R C g) := cnk_ix1 h1 h2
theorem cn_ix2 {i : Nat} {p : Int} (hi : i < R) (h1 : 0 ≤ p) (h2 : p < C) : ixV (.loc (i + 2)) (.d (.int p)) (cn P R C g) = .ok (.d (.str (g i p.toNat))) (cn P R C g) := cnk_ix2 hi h1 h2
theorem cn_set {i : Nat} {p : Int} {t : Txt} (hi : i < R) (h1 : 0 ≤ p) (h2 : p < C) : setV (.loc (i + 2)) (.d (.int p)) (.d (.str t)) (cn P R C g) = .ok () (cn P R C (upG g i p.toNat t)) := cnk_set hi h1 h2
theorem cn_a0 : attrV [(9, 0)] (.loc 0) (cn P R C g) = .ok (.d P) (cn P R C g) := rfl
theorem cn_a1 : attrV [(9, 1)] (.loc 0) (cn P R C g) = .ok (.loc 1) (cn P R C g) := rfl
theorem cnk_leave {v : D} {g' : Nat → Nat → Txt} : leave (canon c P (mkR R C g)).length (.d v) (canon c P (mkR R C g')) = .ok (.d v) (canon c P (mkR R C g')) := leave_canon (by rw [mkR_len, mkR_len])
theorem cnk_leaveX {k : Nat} {xs : List D} {g' : Nat → Nat → Txt} : leaveX (canon c P (mkR R C g)).length k xs (canon c P (mkR R C g')) = .exc k xs (canon c P (mkR R C g')) := leaveX_canon (by rw [mkR_len, mkR_len])
theorem cn_leave {v : D} {g' : Nat → Nat → Txt} : leave (cn P R C g).length (.d v) (cn P R C g') = .ok (.d v) (cn P R C g') := cnk_leave
theorem cn_leaveX {k : Nat} {xs : List D} {g' : Nat → Nat → Txt} : leaveX (cn P R C g).length k xs (cn P R C g') = .exc k xs (cn P R C g') := cnk_leaveX
end
theorem putF_canon (hl : rows'.length = rows.length) : putF (canon c d rows) ((List.range rows.length).map (· + 2)) rows' = canon c d rows' := by
  have h := canon_at (c := c) (d := d) (rows := rows)
  apply List.ext_getElem?
  intro i
  unfold putF
  match i with
  | 0 =>
    rw [writes_get h.nin.1]
    rfl
  | 1 =>
    rw [writes_get h.nin.2.1]
    show some (Cell.seq ((List.range rows.length).map fun i => Rv.loc (i + 2))) = some (Cell.seq ((List.range rows'.length).map fun i => Rv.loc (i + 2)))
    rw [hl]
  | i + 2 =>
    rw [canon_get]
    by_cases hi : i < rows.length
    · have hx : ((List.range rows.length).map (· + 2))[i]? = some (i + 2) := by
        rw [List.getElem?_map, List.getElem?_range hi]
        rfl
      rw [writes_hit h.ndr h.inb (by simp [hl]) hx, List.getElem?_map]
    · rw [writes_get (fun z => by
        obtain ⟨j, hj, e⟩ := List.mem_map.mp z
        have := List.mem_range.mp hj
        omega), canon_get, List.getElem?_eq_none (by omega), List.getElem?_eq_none (by omega)]
theorem FAt.cls (h : FAt L n s rs c d rows) : clsOf L (.loc n) = some c := by
  show (match L[n]? with | some (.obj c _) => some c | _ => none) = some c
  rw [h.o]
/-- a new instance's own def lets it go -/
theorem FAt.leave_new (h : FAt L 0 s rs c d rows) : leave 1 (.d .non) L = .ok (.d .non) (canon c d rows) := by
  unfold leave
  have e : dedup (List.range 1) (Rv.locs (.d .non)) = [0] := rfl
  rw [e, h.reach]
  dsimp only
  rw [h.pick]
  rfl
/-- the instance and its lists behind L -/
def behind (L : Led) (c : Nat) (d : D) (rows : Rows) : Led := L ++ (.obj c [.d d, .loc (L.length + 1)] :: .seq ((List.range rows.length).map fun i => .loc (i + (L.length + 2))) :: rows.map .lst)
theorem make_new {f : Fn} {args : List D} (hf : f (.loc 0 :: args.map Rv.d) [.obj c []] = .ok (.d .non) (canon c d rows)) : makeF false c f (args.map Rv.d) L = .ok (.loc L.length) (behind L c d rows) := by
  have e1 : (L ++ [Cell.obj c []])[L.length]? = some (.obj c []) := by simp
  have hr : Dl.reach (L ++ [Cell.obj c []]) 3 [L.length] = [L.length] := reach_same (fun n hn cc hc m hm => by
    rw [List.mem_singleton.mp hn, e1] at hc
    cases hc
    cases hm) 3
  have p1 : place [L.length] L.length = some 0 := place_at (by simp) rfl
  have hp : (picks (L ++ [Cell.obj c []]) [L.length]).bind (crens (place [L.length])) = some [.obj c []] := by
    have : picks (L ++ [Cell.obj c []]) [L.length] = some [.obj c []] := by
      show ((L ++ [Cell.obj c []])[L.length]?).bind (fun x => (some []).map (x :: ·)) = _
      rw [e1]
      rfl
    rw [this]
    rfl
  have hb : crens (Dl.back [L.length] (L ++ [Cell.obj c []]).length) (canon c d rows) = some (.obj c [.d d, .loc (L.length + 1)] :: .seq ((List.range rows.length).map fun i => .loc (i + (L.length + 2))) :: rows.map .lst) := by
    have ll : (L ++ [Cell.obj c []]).length = L.length + 1 := by simp
    rw [ll]
    have r1 : rens (Dl.back [L.length] (L.length + 1)) [.d d, .loc 1] = some [.d d, .loc (L.length + 1)] := by simp [rens, Rv.ren, Dl.back]
    have r2 : rens (Dl.back [L.length] (L.length + 1)) ((List.range rows.length).map fun i => .loc (i + 2)) = some ((List.range rows.length).map fun i => .loc (i + (L.length + 2))) := rens_of (by simp) fun i x hx => by
      rw [List.getElem?_map] at hx ⊢
      cases e1 : (List.range rows.length)[i]? with
      | none => rw [e1] at hx; cases hx
      | some y =>
        rw [e1] at hx
        have e2 : Rv.loc (y + 2) = x := Option.some.inj hx
        rw [← e2]
        show (Dl.back [L.length] (L.length + 1) (y + 2)).map Rv.loc = some (Rv.loc (y + (L.length + 2)))
        have e3 : Dl.back [L.length] (L.length + 1) (y + 2) = some (L.length + 1 + (y + 2 - 1)) := by
          unfold Dl.back
          rw [if_neg (by simp)]
          rfl
        rw [e3]
        show some (Rv.loc _) = some (Rv.loc _)
        congr 2
        omega
    show (((rens (Dl.back [L.length] (L.length + 1)) [.d d, .loc 1]).map (Cell.obj c)).bind fun y => (((rens (Dl.back [L.length] (L.length + 1)) ((List.range rows.length).map fun i => .loc (i + 2))).map Cell.seq).bind fun y => (crens (Dl.back [L.length] (L.length + 1)) (rows.map .lst)).map (y :: ·)).map (y :: ·)) = _
    rw [r1, r2, crens_rows]
    rfl
  have hc := callF_fp (f := f) (args := .loc L.length :: args.map Rv.d) (as := .loc 0 :: args.map Rv.d) (L := L ++ [Cell.obj c []]) (fp := [L.length]) (cs := [.obj c []]) (v := .d .non) (w := .d .non) (by
      rw [List.flatMap_cons, locs_d]
      exact hr) (by
      show ((place [L.length] L.length).map Rv.loc).bind (fun y => (rens (place [L.length]) (args.map Rv.d)).map (y :: ·)) = _
      rw [p1, rens_d]
      rfl) hp hf rfl hb (by simp [canon])
  have e3 : writes (L ++ [Cell.obj c []]) [L.length] ((Cell.obj c [.d d, .loc (L.length + 1)] :: Cell.seq ((List.range rows.length).map fun i => .loc (i + (L.length + 2))) :: rows.map .lst).take [L.length].length) ++ (Cell.obj c [.d d, .loc (L.length + 1)] :: Cell.seq ((List.range rows.length).map fun i => .loc (i + (L.length + 2))) :: rows.map .lst).drop [L.length].length = behind L c d rows := by
    show (L ++ [Cell.obj c []]).set L.length (Cell.obj c [.d d, .loc (L.length + 1)]) ++ _ = _
    rw [List.set_append_right _ _ (Nat.le_refl _), Nat.sub_self]
    show L ++ [Cell.obj c [.d d, .loc (L.length + 1)]] ++ _ = _
    rw [List.append_assoc]
    rfl
  rw [e3] at hc
  simp [makeF, hc]
theorem behind_at {r : Led} : FAt (behind L c d rows ++ r) L.length (L.length + 1) ((List.range rows.length).map (· + (L.length + 2))) c d rows := by
  have g : ∀ j, j < rows.length + 2 → (behind L c d rows ++ r)[L.length + j]? = (Cell.obj c [.d d, .loc (L.length + 1)] :: Cell.seq ((List.range rows.length).map fun i => .loc (i + (L.length + 2))) :: rows.map .lst)[j]? := fun j hj => by
    unfold behind
    rw [List.append_assoc, List.getElem?_append_right (Nat.le_add_right _ _), Nat.add_sub_cancel_left, List.getElem?_append_left (by simp; omega)]
  refine ⟨g 0 (by omega), ?_, by simp, fun i x hx => ?_, ?_⟩
  · rw [g 1 (by omega), List.map_map]
    rfl
  · rw [List.getElem?_map] at hx
    cases e : (List.range rows.length)[i]? with
    | none => rw [e] at hx; cases hx
    | some k =>
      rw [e] at hx
      obtain ⟨h1, h2⟩ := List.getElem?_eq_some_iff.mp e
      rw [List.getElem_range] at h2
      rw [List.length_range] at h1
      have e2 : k + (L.length + 2) = x := Option.some.inj hx
      have e3 : x = L.length + (i + 2) := by omega
      rw [e3, g (i + 2) (by omega)]
      show (rows.map Cell.lst)[i]? = _
      rw [List.getElem?_map]
  · rw [List.nodup_cons, List.nodup_cons]
    refine ⟨fun z => ?_, fun z => ?_, ?_⟩
    · rcases List.mem_cons.mp z with z | z
      · omega
      · obtain ⟨j, _, e⟩ := List.mem_map.mp z
        omega
    · obtain ⟨j, _, e⟩ := List.mem_map.mp z
      omega
    · exact List.Pairwise.map _ (fun a b h z => h (by omega)) List.nodup_range
theorem behind_len : (behind L c d rows).length = L.length + (rows.length + 2) := by simp [behind]
theorem behind_put {r : Led} (hl : rows'.length = rows.length) : putF (behind L c d rows ++ r) ((List.range rows.length).map (· + (L.length + 2))) rows' = behind L c d rows' ++ r := by
  have h := behind_at (L := L) (c := c) (d := d) (rows := rows) (r := r)
  have h' := behind_at (L := L) (c := c) (d := d) (rows := rows') (r := r)
  apply List.ext_getElem?
  intro i
  unfold putF
  by_cases hi : L.length + 2 ≤ i ∧ i < L.length + 2 + rows.length
  · have hx : ((List.range rows.length).map (· + (L.length + 2)))[i - (L.length + 2)]? = some i := by
      rw [List.getElem?_map, List.getElem?_range (by omega)]
      show some (i - (L.length + 2) + (L.length + 2)) = some i
      congr 1
      omega
    rw [writes_hit h.ndr h.inb (by simp [hl]) hx, List.getElem?_map]
    exact (h'.r _ _ (by rw [hl]; exact hx)).symm
  · rw [writes_get (fun z => by
      obtain ⟨j, hj, e⟩ := List.mem_map.mp z
      have := List.mem_range.mp hj
      omega)]
    unfold behind
    rw [List.append_assoc, List.append_assoc]
    by_cases h1 : i < L.length
    · rw [List.getElem?_append_left h1, List.getElem?_append_left h1]
    · rw [List.getElem?_append_right (l₁ := L) (by omega), List.getElem?_append_right (l₁ := L) (by omega)]
      generalize hj : i - L.length = j
      match j with
      | 0 => rfl
      | 1 =>
        show some (Cell.seq ((List.range rows.length).map fun i => Rv.loc (i + (L.length + 2)))) = some (Cell.seq ((List.range rows'.length).map fun i => Rv.loc (i + (L.length + 2))))
        rw [hl]
      | j + 2 =>
        show (rows.map Cell.lst ++ r)[j]? = (rows'.map Cell.lst ++ r)[j]?
        rw [List.getElem?_append_right (l₁ := rows.map Cell.lst) (by simp; omega), List.getElem?_append_right (l₁ := rows'.map Cell.lst) (by simp; omega)]
        simp [hl]
end
end Dl

set_option Elab.async false
set_option linter.all false
set_option maxRecDepth 100000
/-! M12: what k12 computes. -/
namespace K12
open Dl Dr K06
theorem K08s {x : Int} (h1 : 0 ≤ x) (h2 : x ≤ 1000000) : small x = true := by
  unfold small
  rw [decide_eq_true (by omega), decide_eq_true (by omega)]
  rfl
abbrev dr (P R C : Int) : D := .obj 10 [.int P, .int R, .int C, .int 0]
theorem within_call (s : Txt) (n lo hi : Int) (L : Led) (h : s.length ≤ 100) : callD K12.f_within 4 [] [.d (.str s), .d (.int n), .d (.int lo), .d (.int hi)] L = if lo ≤ n ∧ n ≤ hi then .ok (.d .non) L else .exc 1 [.str s] L := K06.within_call s n lo hi L h
theorem init_run (a b c d : Int) : K12.f_Drill_init [.loc 0, .d (.int a), .d (.int b), .d (.int c), .d (.int d)] [.obj 10 []] = if bad4 a b c d = [] then .ok (.d .non) [.obj 10 [.d (.int a), .d (.int b), .d (.int c), .d (.int d)]] else .exc 1 [.str (bad4 a b c d)] [.obj 10 []] := by
  unfold bad4
  by_cases h1 : 1 ≤ a ∧ a ≤ 6
  · by_cases h2 : 1 ≤ b ∧ b ≤ 16
    · by_cases h3 : 1 ≤ c ∧ c ≤ 16
      · by_cases h4 : 0 ≤ d ∧ d ≤ 6
        · simp [K12.f_Drill_init, K12.m_Drill_init, defF, within_call, h1, h2, h3, h4, setAttrV, ix2, leave, dedup, reach, Rv.locs, Rv.ren, picks, crens, Cell.locs, Cell.ren, rens, place]
        · simp [K12.f_Drill_init, K12.m_Drill_init, defF, within_call, h1, h2, h3, h4, leaveX, reach, dedup, Cell.locs, picks, crens, Cell.ren, rens]
      · simp [K12.f_Drill_init, K12.m_Drill_init, defF, within_call, h1, h2, h3, leaveX, reach, dedup, Cell.locs, picks, crens, Cell.ren, rens]
    · simp [K12.f_Drill_init, K12.m_Drill_init, defF, within_call, h1, h2, leaveX, reach, dedup, Cell.locs, picks, crens, Cell.ren, rens]
  · simp [K12.f_Drill_init, K12.m_Drill_init, defF, within_call, h1, leaveX, reach, dedup, Cell.locs, picks, crens, Cell.ren, rens]
theorem new_run (a b c d : Int) (L : Led) : callF K12.f_Drill_init [.loc L.length, .d (.int a), .d (.int b), .d (.int c), .d (.int d)] (L ++ [.obj 10 []]) = if bad4 a b c d = [] then .ok (.d .non) (L ++ [.obj 10 [.d (.int a), .d (.int b), .d (.int c), .d (.int d)]]) else .exc 1 [.str (bad4 a b c d)] (L ++ [.obj 10 []]) := by
  have e1 : (L ++ [Cell.obj 10 []])[L.length]? = some (.obj 10 []) := by simp
  have e2 : ∀ x, (L ++ [Cell.obj 10 []]).set L.length x = L ++ [x] := fun x => by simp
  by_cases h : bad4 a b c d = []
  · simp [callF, Rv.locs, dedup, reach, rens, Rv.ren, picks, crens, Cell.ren, Cell.locs, place, init_run, h, writes, e1, List.findIdx?_cons, e2]
  · simp [callF, Rv.locs, dedup, reach, rens, Rv.ren, picks, crens, Cell.ren, Cell.locs, place, init_run, h, writes, e1, List.findIdx?_cons, e2]
theorem make_run (a b c : Int) (L : Led) (hL : crens (fun n => if n < L.length then some n else none) L = some L) (h : bad4 a b c 0 = []) : makeD true 10 K12.f_Drill_init 5 [.int 0] [.d (.int a), .d (.int b), .d (.int c)] L = .ok (.d (dr a b c)) L := by
  simp [makeD, makeF, new_run, h, pures, hL]
abbrev inF (R C r p : Int) : Prop := (0 ≤ r ∧ r < R) ∧ 0 ≤ p ∧ p < C
theorem require_run (P R C r p : Int) : K12.f_Drill_require [.d (dr P R C), .d (.int r), .d (.int p)] [] = if inF R C r p then .ok (.d .non) [] else .exc 3 [.int p, .int r] [] := by
  by_cases h1 : 0 ≤ r
  · by_cases h2 : r < R
    · by_cases h3 : 0 ≤ p
      · by_cases h4 : p < C
        · simp [K12.f_Drill_require, K12.m_Drill_require, defF, attrV, ix2, h1, h2, h3, h4]
        · simp [K12.f_Drill_require, K12.m_Drill_require, defF, attrV, ix2, h1, h2, h3, h4, sRaiseI, pures, K12.m0_OutOfField]
      · simp [K12.f_Drill_require, K12.m_Drill_require, defF, attrV, ix2, h1, h2, h3, sRaiseI, pures, K12.m0_OutOfField]
    · simp [K12.f_Drill_require, K12.m_Drill_require, defF, attrV, ix2, h1, h2, sRaiseI, pures, K12.m0_OutOfField]
  · simp [K12.f_Drill_require, K12.m_Drill_require, defF, attrV, ix2, h1, sRaiseI, pures, K12.m0_OutOfField]
theorem require_call (P R C r p : Int) (L : Led) : callD K12.f_Drill_require 3 [] [.d (dr P R C), .d (.int r), .d (.int p)] L = if inF R C r p then .ok (.d .non) L else .exc 3 [.int p, .int r] L := by
  have e := require_run P R C r p
  by_cases h : inF R C r p
  · rw [if_pos h] at e ⊢
    exact callD_ok (xs := [dr P R C, .int r, .int p]) rfl e
  · rw [if_neg h] at e ⊢
    exact callD_exc (xs := [dr P R C, .int r, .int p]) rfl e
theorem c_dr {P R C : Int} {L : Led} : clsOf L (.d (dr P R C)) = some 10 := rfl
/-! ### the field -/
section
variable {P : Int} {R C : Nat} {g : Nat → Nat → Txt}
theorem get_run (r p : Int) : K12.f_Field___getitem__ [.loc 0, .d (.tup [.int r, .int p])] (cn (dr P R C) R C g) = if inF R C r p then .ok (.d (.str (g r.toNat p.toNat))) (cn (dr P R C) R C g) else .exc 3 [.int p, .int r] (cn (dr P R C) R C g) := by
  have hr := require_call P R C r p (cn (dr P R C) R C g)
  by_cases h : inF R C r p
  · rw [if_pos h] at hr ⊢
    have h1 := cn_ix1 (P := dr P R C) (C := C) (g := g) h.1.1 h.1.2
    have h2 := cn_ix2 (P := dr P R C) (g := g) (i := r.toNat) (by omega : r.toNat < R) h.2.1 h.2.2
    simp [K12.f_Field___getitem__, K12.m_Field___getitem__, defF, bindP_2, cn_a0, cn_a1, methD, c_dr, hr, h1, h2, cn_leave]
  · rw [if_neg h] at hr ⊢
    simp [K12.f_Field___getitem__, K12.m_Field___getitem__, defF, bindP_2, cn_a0, cn_a1, methD, c_dr, hr, cn_leaveX]
abbrev isK (t : Txt) : Prop := t = [98, 97, 114, 101] ∨ t = [103, 114, 101, 101, 110] ∨ t = [117, 110, 115, 101, 101, 110]
theorem beq_dec (a t : Txt) : (a == t) = decide (t = a) := by
  rw [Bool.eq_iff_iff, beq_iff_eq, decide_eq_true_eq]
  exact ⟨Eq.symm, Eq.symm⟩
theorem in_kinds {t : Txt} {L : Led} {n : Bool} : in2V n (.d (.str t)) (.d (.stup [D.str [98, 97, 114, 101], D.str [103, 114, 101, 101, 110], D.str [117, 110, 115, 101, 101, 110]])) L = .ok (.d (.bl (decide (isK t) != n))) L := by
  have e : (decide (isK t)) = (([98, 97, 114, 101] == t) || (([103, 114, 101, 101, 110] == t) || (([117, 110, 115, 101, 101, 110] == t) || false))) := by
    rw [beq_dec, beq_dec, beq_dec, Bool.or_false, Bool.decide_or, Bool.decide_or]
  rw [e]
  rfl
theorem set_run (r p : Int) (t : Txt) : K12.f_Field___setitem__ [.loc 0, .d (.tup [.int r, .int p]), .d (.str t)] (cn (dr P R C) R C g) = if isK t then (if inF R C r p then .ok (.d .non) (cn (dr P R C) R C (upG g r.toNat p.toNat t)) else .exc 3 [.int p, .int r] (cn (dr P R C) R C g)) else .exc 2 [] (cn (dr P R C) R C g) := by
  have hr := require_call P R C r p (cn (dr P R C) R C g)
  by_cases hk : isK t
  · rw [if_pos hk]
    by_cases h : inF R C r p
    · rw [if_pos h] at hr ⊢
      have h1 := cn_ix1 (P := dr P R C) (C := C) (g := g) h.1.1 h.1.2
      have h2 := cn_set (P := dr P R C) (g := g) (i := r.toNat) (t := t) (by omega : r.toNat < R) h.2.1 h.2.2
      simp [K12.f_Field___setitem__, K12.m_Field___setitem__, defF, bindP_2, in_kinds, decide_eq_true hk, cn_a0, cn_a1, methD, c_dr, hr, h1, h2, cn_leave]
    · rw [if_neg h] at hr ⊢
      simp [K12.f_Field___setitem__, K12.m_Field___setitem__, defF, bindP_2, in_kinds, decide_eq_true hk, cn_a0, cn_a1, methD, c_dr, hr, cn_leaveX]
  · rw [if_neg hk]
    simp [K12.f_Field___setitem__, K12.m_Field___setitem__, defF, bindP_2, in_kinds, decide_eq_false hk, sRaise0, cn_leaveX]

variable {L : Led} {n s : Nat} {rs : List Nat}
theorem get_call (h : FAt L n s rs 9 (dr P R C) (mkR R C g)) (r p : Int) : callD K12.f_Field___getitem__ 2 [] [.loc n, .d (.tup [.int r, .int p])] L = if inF R C r p then .ok (.d (.str (g r.toNat p.toNat))) L else .exc 3 [.int p, .int r] L := by
  have e := get_run (P := P) (R := R) (C := C) (g := g) r p
  by_cases hi : inF R C r p
  · rw [if_pos hi] at e ⊢
    have := h.call (xs := [.tup [.int r, .int p]]) (k := 2) rfl e rfl
    rw [putF_self h] at this
    exact this
  · rw [if_neg hi] at e ⊢
    have := h.callX (xs := [.tup [.int r, .int p]]) (k := 2) rfl e rfl
    rw [putF_self h] at this
    exact this
theorem set_call (h : FAt L n s rs 9 (dr P R C) (mkR R C g)) (r p : Int) (t : Txt) : callD K12.f_Field___setitem__ 3 [] [.loc n, .d (.tup [.int r, .int p]), .d (.str t)] L = if isK t then (if inF R C r p then .ok (.d .non) (putF L rs (mkR R C (upG g r.toNat p.toNat t))) else .exc 3 [.int p, .int r] L) else .exc 2 [] L := by
  have e := set_run (P := P) (R := R) (C := C) (g := g) r p t
  by_cases hk : isK t
  · rw [if_pos hk] at e ⊢
    by_cases hi : inF R C r p
    · rw [if_pos hi] at e ⊢
      exact h.call (xs := [.tup [.int r, .int p], .str t]) (k := 3) rfl e (by rw [mkR_len, mkR_len])
    · rw [if_neg hi] at e ⊢
      have := h.callX (xs := [.tup [.int r, .int p], .str t]) (k := 3) rfl e rfl
      rw [putF_self h] at this
      exact this
  · rw [if_neg hk] at e ⊢
    have := h.callX (xs := [.tup [.int r, .int p], .str t]) (k := 3) rfl e rfl
    rw [putF_self h] at this
    exact this
theorem set_cn (r p : Int) (t : Txt) : callD K12.f_Field___setitem__ 3 [] [.loc 0, .d (.tup [.int r, .int p]), .d (.str t)] (cn (dr P R C) R C g) = if isK t then (if inF R C r p then .ok (.d .non) (cn (dr P R C) R C (upG g r.toNat p.toNat t)) else .exc 3 [.int p, .int r] (cn (dr P R C) R C g)) else .exc 2 [] (cn (dr P R C) R C g) := by
  have h := set_call (canon_at (c := 9) (d := dr P R C) (rows := mkR R C g)) r p t
  rw [putF_canon (by rw [mkR_len, mkR_len])] at h
  exact h
theorem get_cn (r p : Int) : callD K12.f_Field___getitem__ 2 [] [.loc 0, .d (.tup [.int r, .int p])] (cn (dr P R C) R C g) = if inF R C r p then .ok (.d (.str (g r.toNat p.toNat))) (cn (dr P R C) R C g) else .exc 3 [.int p, .int r] (cn (dr P R C) R C g) := get_call canon_at r p
theorem cls_cn {d : D} : clsOf (cn d R C g) (.loc 0) = some 9 := rfl
abbrev tOut : Txt := [111, 117, 116]
abbrev tKind : Txt := [107, 105, 110, 100]
def setD (R C : Nat) (r p : Int) (t : Txt) : D := if isK t then (if inF R C r p then .lst [] else .lst [.str tOut, .int r, .int p]) else .lst [.str tKind]
def setG (R C : Nat) (g : Nat → Nat → Txt) (r p : Int) (t : Txt) : Nat → Nat → Txt := if isK t ∧ inF R C r p then upG g r.toNat p.toNat t else g
theorem lset_run (r p : Int) (t : Txt) : K12.f__law_set [.loc 0, .d (.int r), .d (.int p), .d (.str t)] (cn (dr P R C) R C g) = .ok (.d (setD R C r p t)) (cn (dr P R C) R C (setG R C g r p t)) := by
  have e := set_cn (P := P) (R := R) (C := C) (g := g) r p t
  unfold setD setG
  by_cases hk : isK t
  · rw [if_pos hk] at e ⊢
    by_cases hi : inF R C r p
    · rw [if_pos hi] at e
      rw [if_pos hi, if_pos ⟨hk, hi⟩]
      simp [K12.f__law_set, K12.m__law_set, defF, sTry, sSetO, tupV, pures, SZ, cls_cn, e, lstV, mkL, cn_leave]
    · rw [if_neg hi] at e
      rw [if_neg hi, if_neg fun z => hi z.2]
      simp [K12.f__law_set, K12.m__law_set, defF, sTry, sSetO, tupV, pures, SZ, cls_cn, e, handle, K12.sub, slotOk, forget, eIsE, isEs, isE, Flow.out, excE, lstV, mkL, cn_leave]
  · rw [if_neg hk] at e
    rw [if_neg hk, if_neg fun z => hk z.1]
    simp [K12.f__law_set, K12.m__law_set, defF, sTry, sSetO, tupV, pures, SZ, cls_cn, e, handle, K12.sub, slotOk, forget, eIsE, isEs, isE, Flow.out, excE, lstV, mkL, cn_leave]
theorem lset_call (h : FAt L n s rs 9 (dr P R C) (mkR R C g)) (r p : Int) (t : Txt) : callD K12.f__law_set 4 [] [.loc n, .d (.int r), .d (.int p), .d (.str t)] L = .ok (.d (setD R C r p t)) (putF L rs (mkR R C (setG R C g r p t))) :=
  h.call (xs := [.int r, .int p, .str t]) (k := 4) rfl (lset_run r p t) (by rw [mkR_len, mkR_len])
theorem due_run (r p : Int) (t : Txt) : K12.f__law_set_due [.d (.int R), .d (.int C), .d (.int r), .d (.int p), .d (.str t)] [] = .ok (.d (setD R C r p t)) [] := by
  unfold setD
  by_cases hk : isK t
  · rw [if_pos hk]
    by_cases hi : inF R C r p
    · rw [if_pos hi]
      obtain ⟨⟨h1, h2⟩, h3, h4⟩ := hi
      rcases hk with rfl | rfl | rfl
      all_goals simp [K12.f__law_set_due, K12.m__law_set_due, defF, eqV, asD, scal, deq, lstV, pures, SZ, mkL, Int.not_lt.mpr h1, Int.not_le.mpr h2, Int.not_lt.mpr h3, Int.not_le.mpr h4]
    · rw [if_neg hi]
      have key : ∀ tt : Txt, isK tt → K12.f__law_set_due [.d (.int R), .d (.int C), .d (.int r), .d (.int p), .d (.str tt)] [] = .ok (.d (.lst [.str tOut, .int r, .int p])) [] := fun tt hk => by
        by_cases h1 : 0 ≤ r
        · by_cases h2 : r < R
          · by_cases h3 : 0 ≤ p
            · have h4 : ¬ p < C := fun h4 => hi ⟨⟨h1, h2⟩, h3, h4⟩
              rcases hk with rfl | rfl | rfl
              all_goals simp [K12.f__law_set_due, K12.m__law_set_due, defF, eqV, asD, scal, deq, lstV, pures, SZ, mkL, Int.not_lt.mpr h1, Int.not_le.mpr h2, Int.not_lt.mpr h3, Int.not_lt.mp h4]
            · rcases hk with rfl | rfl | rfl
              all_goals simp [K12.f__law_set_due, K12.m__law_set_due, defF, eqV, asD, scal, deq, lstV, pures, SZ, mkL, Int.not_lt.mpr h1, Int.not_le.mpr h2, Int.not_le.mp h3]
          · rcases hk with rfl | rfl | rfl
            all_goals simp [K12.f__law_set_due, K12.m__law_set_due, defF, eqV, asD, scal, deq, lstV, pures, SZ, mkL, Int.not_lt.mpr h1, Int.not_lt.mp h2]
        · rcases hk with rfl | rfl | rfl
          all_goals simp [K12.f__law_set_due, K12.m__law_set_due, defF, eqV, asD, scal, deq, lstV, pures, SZ, mkL, Int.not_le.mp h1]
      exact key t hk
  · rw [if_neg hk]
    have h1 : t ≠ [98, 97, 114, 101] := fun z => hk (.inl z)
    have h2 : t ≠ [103, 114, 101, 101, 110] := fun z => hk (.inr (.inl z))
    have h3 : t ≠ [117, 110, 115, 101, 101, 110] := fun z => hk (.inr (.inr z))
    simp [K12.f__law_set_due, K12.m__law_set_due, defF, eqV, asD, scal, deq, h1, h2, h3, lstV, pures, SZ, mkL]
theorem due_call (r p : Int) (t : Txt) (L : Led) : callD K12.f__law_set_due 5 [] [.d (.int R), .d (.int C), .d (.int r), .d (.int p), .d (.str t)] L = .ok (.d (setD R C r p t)) L := callD_ok (xs := [.int R, .int C, .int r, .int p, .str t]) rfl (due_run r p t)
theorem setD_eq (r p : Int) (t : Txt) (L : Led) (n : Bool) : eqV n (.d (setD R C r p t)) (.d (setD R C r p t)) L = .ok (.d (.bl (!n))) L := by
  unfold setD
  split
  · split <;> simp [eqV, asD, scal, plain, plains, deq, deqs]
  · simp [eqV, asD, scal, plain, plains, deq, deqs]
theorem setD_nil (r p : Int) (t : Txt) (L : Led) : eqV false (.d (setD R C r p t)) (.d (.lst [])) L = .ok (.d (.bl (decide (isK t ∧ inF R C r p)))) L := by
  unfold setD
  by_cases hk : isK t
  · rw [if_pos hk]
    by_cases hi : inF R C r p
    · rw [if_pos hi, decide_eq_true (show isK t ∧ inF R C r p from ⟨hk, hi⟩)]
      simp [eqV, asD, scal, plain, plains, deq, deqs]
    · rw [if_neg hi, decide_eq_false (fun z => hi z.2 : ¬ (isK t ∧ inF R C r p))]
      simp [eqV, asD, scal, plain, plains, deq, deqs]
  · rw [if_neg hk, decide_eq_false (fun z => hk z.1 : ¬ (isK t ∧ inF R C r p))]
    simp [eqV, asD, scal, plain, plains, deq, deqs]
/-! ### reading -/
theorem read_run (r p : Int) : K12.f__law_read [.loc 0, .d (.int r), .d (.int p)] (cn (dr P R C) R C g) = .ok (.d (if inF R C r p then .lst [.str (g r.toNat p.toNat)] else .lst [.int r, .int p])) (cn (dr P R C) R C g) := by
  have e := get_cn (P := P) (R := R) (C := C) (g := g) r p
  by_cases hi : inF R C r p
  · rw [if_pos hi] at e ⊢
    simp [K12.f__law_read, K12.m__law_read, defF, sTry, getO, tupV, pures, SZ, cls_cn, e, lstV, mkL, cn_leave]
  · rw [if_neg hi] at e ⊢
    simp [K12.f__law_read, K12.m__law_read, defF, sTry, getO, tupV, pures, SZ, cls_cn, e, handle, K12.sub, slotOk, forget, eIsE, isEs, isE, Flow.out, excE, lstV, mkL, cn_leave]
theorem read_call (h : FAt L n s rs 9 (dr P R C) (mkR R C g)) (r p : Int) : callD K12.f__law_read 3 [] [.loc n, .d (.int r), .d (.int p)] L = .ok (.d (if inF R C r p then .lst [.str (g r.toNat p.toNat)] else .lst [.int r, .int p])) L := by
  have := h.call (xs := [.int r, .int p]) (k := 3) rfl (read_run r p) rfl
  rw [putF_self h] at this
  exact this
abbrev kt (r p : Int) : D := .tup [.int r, .int p]
abbrev oi (x : Int) : Option Rv := some (.d (.int x))
theorem ar_body (a b : Int) (r p : Option Rv) (x6 : Option Rv) : ∃ x6', K12.m__law_around_b1 [some (.loc 0), oi R, oi C, r, p, some (.d (kt a b)), x6] (cn (dr P R C) R C g) = .next [some (.loc 0), oi R, oi C, r, p, some (.d (kt a b)), x6'] (cn (dr P R C) R C g) := by
  have e := read_call (canon_at (c := 9) (d := dr P R C) (rows := mkR R C g)) a b
  by_cases h1 : 0 ≤ a
  · by_cases h2 : a < R
    · by_cases h3 : 0 ≤ b
      · by_cases h4 : b < C
        · exact ⟨_, by simp [K12.m__law_around_b1, ixV, atI, ixN, h1, h2, h3, h4, truth]; rfl⟩
        · rw [if_neg (fun z => h4 z.2.2)] at e
          exact ⟨_, by simp [K12.m__law_around_b1, ixV, atI, ixN, h1, h2, h3, h4, truth, e, lstV, pures, SZ, mkL, eqV, asD, scal, plain, plains, deq, deqs]; rfl⟩
      · rw [if_neg (fun z => h3 z.2.1)] at e
        exact ⟨_, by simp [K12.m__law_around_b1, ixV, atI, ixN, h1, h2, h3, truth, e, lstV, pures, SZ, mkL, eqV, asD, scal, plain, plains, deq, deqs]; rfl⟩
    · rw [if_neg (fun z => h2 z.1.2)] at e
      exact ⟨_, by simp [K12.m__law_around_b1, ixV, atI, ixN, h1, h2, truth, e, lstV, pures, SZ, mkL, eqV, asD, scal, plain, plains, deq, deqs]; rfl⟩
  · rw [if_neg (fun z => h1 z.1.1)] at e
    exact ⟨_, by simp [K12.m__law_around_b1, ixV, atI, ixN, h1, truth, e, lstV, pures, SZ, mkL, eqV, asD, scal, plain, plains, deq, deqs]; rfl⟩
theorem ar_run (row place : Int) : K12.f__law_around [.loc 0, .d (.int R), .d (.int C), .d (.int row), .d (.int place)] (cn (dr P R C) R C g) = .ok (.d (.bl true)) (cn (dr P R C) R C g) := by
  have hx : ∀ x ∈ [kt (-1) 0, kt 0 (-1), kt R 0, kt 0 C, kt (R - 1) C, kt R (C - 1), kt row place], ∃ a b, x = kt a b := by
    intro x hx
    simp only [List.mem_cons, List.not_mem_nil, or_false] at hx
    rcases hx with rfl | rfl | rfl | rfl | rfl | rfl | rfl <;> exact ⟨_, _, rfl⟩
  obtain ⟨ρ, L, e, x5, x6, e1, e2⟩ := forK_inv (xs := [kt (-1) 0, kt 0 (-1), kt R 0, kt 0 C, kt (R - 1) C, kt R (C - 1), kt row place]) (p := .name 5) (body := K12.m__law_around_b1)
    (I := fun i ρ L => ∃ x5 x6, ρ = [some (.loc 0), oi R, oi C, oi row, oi place, x5, x6] ∧ L = cn (dr P R C) R C g)
    (ρ := [some (.loc 0), oi R, oi C, oi row, oi place, none, none]) (L := cn (dr P R C) R C g) ⟨none, none, rfl, rfl⟩ fun i ρ L hi hI => by
      obtain ⟨x5, x6, e1, e2⟩ := hI
      subst e1 e2
      obtain ⟨a, b, e⟩ := hx _ (List.getElem_mem hi)
      rw [e]
      obtain ⟨x6', e3⟩ := ar_body (P := P) (R := R) (C := C) (g := g) a b (oi row) (oi place) x6
      exact ⟨_, rfl, _, _, .inl e3, some (.d (kt a b)), x6', rfl, rfl⟩
  subst e1 e2
  have e' := e
  simp [K12.f__law_around, K12.m__law_around, defF, tupV, pures, SZ, lstV, mkL, Src.len] at e' ⊢
  simp only [kt, oi] at e'
  rw [e']
  simp [cn_leave]
theorem ar_call (h : FAt L n s rs 9 (dr P R C) (mkR R C g)) (row place : Int) : callD K12.f__law_around 5 [] [.loc n, .d (.int R), .d (.int C), .d (.int row), .d (.int place)] L = .ok (.d (.bl true)) L := by
  have := h.call (xs := [.int R, .int C, .int row, .int place]) (k := 5) rfl (ar_run row place) rfl
  rw [putF_self h] at this
  exact this
/-! ### the whole field against what is known -/
abbrev KL := List (List Key × D)
abbrev ky (r p : Int) : List Key := [.inl r, .inl p]
abbrev tUn : Txt := [117, 110, 115, 101, 101, 110]
def Known (R C : Nat) (g : Nat → Nat → Txt) (kv : KL) : Prop := ∀ r p : Nat, r < R → p < C → (look kv (ky r p)).getD (.str tUn) = .str (g r p)
abbrev cn2 (P : Int) (R C : Nat) (g : Nat → Nat → Txt) (kv : KL) : Led := canon2 9 (dr P R C) (.dT kv) (mkR R C g)
theorem all_b1 {kv : KL} (hk : Known R C g kv) (r p : Nat) (hr : r < R) (hp : p < C) (x6 : Option Rv) : K12.m__law_all_b1 [some (.loc 0), some (.loc 1), oi R, oi C, oi r, oi p, x6] (cn2 P R C g kv) = .next [some (.loc 0), some (.loc 1), oi R, oi C, oi r, oi p, some (.d (.str (g r p)))] (cn2 P R C g kv) := by
  have e := get_call (canon2_at (c := 9) (d := dr P R C) (rows := mkR R C g) (k := .dT kv)) r p
  have hc : clsOf (cn2 P R C g kv) (.loc 0) = some 9 := rfl
  rw [if_pos ⟨⟨by omega, by omega⟩, by omega, by omega⟩] at e
  have h1 := hk r p hr hp
  have ed : dget (.dT kv) (.tup [.int r, .int p]) = some ((look kv (ky r p)).map Rv.d) := by
    show (keysOf [.int r, .int p]).map (fun k => (look kv k).map Rv.d) = _
    simp [keysOf, keyOf]
  have hg : getDV (varE 1) (eN tupV (aC (varE 4) (aC (varE 5) aN))) (cE (.str tUn)) [some (.loc 0), some (.loc 1), oi R, oi C, oi r, oi p, some (.d (.str (g r p)))] (cn2 P R C g kv) = .ok (.d (.str (g r p))) (cn2 P R C g kv) := by
    have e0 : (cn2 P R C g kv)[1]? = some (.dT kv) := rfl
    cases e3 : look kv (ky r p) with
    | none =>
      rw [e3] at h1 ed
      have h2 : D.str tUn = .str (g r p) := h1
      simp [getDV, e0, Cell.dict, tupV, pures, SZ, ed, h2]
    | some v =>
      rw [e3] at h1 ed
      have h2 : v = .str (g r p) := h1
      simp [getDV, e0, Cell.dict, tupV, pures, SZ, ed, h2]
  simp [K12.m__law_all_b1, getO, tupV, pures, SZ, hc, e]
  simp [isTyV, tyD, Ty.below, hg, eqV, asD, scal, deq]
theorem all_b2 {kv : KL} (hk : Known R C g kv) (hC : C ≤ 16) (r : Nat) (hr : r < R) (x5 x6 : Option Rv) : ∃ x5' x6', K12.m__law_all_b2 [some (.loc 0), some (.loc 1), oi R, oi C, oi r, x5, x6] (cn2 P R C g kv) = .next [some (.loc 0), some (.loc 1), oi R, oi C, oi r, x5', x6'] (cn2 P R C g kv) := by
  obtain ⟨ρ, L, e, x5', x6', e1, e2⟩ := forK_inv (xs := rangeL 0 C) (p := .name 5) (body := K12.m__law_all_b1)
    (I := fun i ρ L => ∃ x5 x6, ρ = [some (.loc 0), some (.loc 1), oi R, oi C, oi r, x5, x6] ∧ L = cn2 P R C g kv)
    (ρ := [some (.loc 0), some (.loc 1), oi R, oi C, oi r, x5, x6]) (L := cn2 P R C g kv) ⟨x5, x6, rfl, rfl⟩ fun i ρ L hi hI => by
      obtain ⟨x5, x6, e1, e2⟩ := hI
      subst e1 e2
      rw [rngL_at]
      rw [rngL_len] at hi
      rw [Int.zero_add]
      exact ⟨_, rfl, _, _, .inl (all_b1 hk r i hr (by omega) x6), _, _, rfl, rfl⟩
  subst e1 e2
  have hs : small (C : Int) = true := K08s (by omega) (by omega)
  refine ⟨x5', x6', ?_⟩
  exact (for_range1 (a := varE 3) rfl hs).trans e
theorem all_run {kv : KL} (hk : Known R C g kv) (hR : R ≤ 16) (hC : C ≤ 16) : K12.f__law_all [.loc 0, .loc 1, .d (.int R), .d (.int C)] (cn2 P R C g kv) = .ok (.d (.bl true)) (cn2 P R C g kv) := by
  obtain ⟨ρ, L, e, x4, x5, x6, e1, e2⟩ := forK_inv (xs := rangeL 0 R) (p := .name 4) (body := K12.m__law_all_b2)
    (I := fun i ρ L => ∃ x4 x5 x6, ρ = [some (.loc 0), some (.loc 1), oi R, oi C, x4, x5, x6] ∧ L = cn2 P R C g kv)
    (ρ := [some (.loc 0), some (.loc 1), oi R, oi C, none, none, none]) (L := cn2 P R C g kv) ⟨none, none, none, rfl, rfl⟩ fun i ρ L hi hI => by
      obtain ⟨x4, x5, x6, e1, e2⟩ := hI
      subst e1 e2
      rw [rngL_at]
      rw [rngL_len] at hi
      rw [Int.zero_add]
      obtain ⟨x5', x6', e3⟩ := all_b2 (P := P) hk hC i (by omega) x5 x6
      exact ⟨_, rfl, _, _, .inl e3, _, _, _, rfl, rfl⟩
  subst e1 e2
  have hs : small (R : Int) = true := K08s (by omega) (by omega)
  have e2 := (for_range1 (a := varE 2) rfl hs).trans e
  have e3 : K12.m__law_all [some (.loc 0), some (.loc 1), oi R, oi C, none, none, none] (cn2 P R C g kv) = .ret (.d (.bl true)) (cn2 P R C g kv) := seq_n (b := sRet (cE (.bl true))) e2
  exact (defF_ret (n := 7) (ps := 4) (m := K12.m__law_all) (args := [.loc 0, .loc 1, .d (.int R), .d (.int C)]) (v := .d (.bl true)) rfl e3).trans (leave_canon2 flat_dT)
theorem all_call {kv : KL} (hk : Known R C g kv) (hR : R ≤ 16) (hC : C ≤ 16) (h : FAt L n s rs 9 (dr P R C) (mkR R C g)) {m : Nat} (hm : L[m]? = some (.dT kv)) (hne : m ∉ n :: s :: rs) : callD K12.f__law_all 4 [] [.loc n, .loc m, .d (.int R), .d (.int C)] L = .ok (.d (.bl true)) L :=
  h.call2 (xs := [.int R, .int C]) (k := 4) hm flat_dT hne rfl (all_run hk hR hC)
theorem Known.step {kv : KL} (hk : Known R C g kv) (r p : Int) (t : Txt) (hi : inF R C r p) : Known R C (upG g r.toNat p.toNat t) (put kv (ky r p) (.str t)) := fun a b ha hb => by
  rw [look_put]
  by_cases e : ky r p = ky a b
  · rw [if_pos e]
    have e1 : r = a ∧ p = b := by
      injection e with e1 e2
      injection e2 with e3 e4
      exact ⟨Sum.inl.inj e1, Sum.inl.inj e3⟩
    have h2 : a = r.toNat ∧ b = p.toNat := by omega
    unfold upG
    rw [if_pos h2]
    rfl
  · rw [if_neg e]
    unfold upG
    rw [if_neg fun z => e (by
      have h1 : r = (a : Int) := by omega
      have h2 : p = (b : Int) := by omega
      rw [h1, h2])]
    exact hk a b ha hb
end
/-! ### the draws -/
theorem dr0 {st : Cell} {r : Led} {many : Int} (h : StOk st) (h4 : 0 < many) (h5 : many < 2 ^ 62) : ∃ v st', callD K12.f__law_draw 2 [] [.loc 0, .d (.int many)] (st :: r) = .ok (.d (.int v)) (st' :: r) ∧ 0 ≤ v ∧ v < many ∧ StOk st' := draw0 h h4 h5
theorem StOk.flat {st : Cell} (h : StOk st) : st.flat := ⟨h.locs, h.ren⟩
theorem kind_run {st : Cell} (h : StOk st) : ∃ t st', K12.f__law_kind [.loc 0] [st] = .ok (.d (.str t)) [st'] ∧ StOk st' := by
  obtain ⟨v, st', e, l, u, k⟩ := dr0 (r := []) (many := 608) h (by decide) (by decide)
  have hl := leave_one (r := []) (x := .str []) (StOk.flat k)
  by_cases hv : v % 2 = 0
  · have h3 : 0 ≤ v / 2 % 3 ∧ v / 2 % 3 < 3 := by omega
    have : v / 2 % 3 = 0 ∨ v / 2 % 3 = 1 ∨ v / 2 % 3 = 2 := by omega
    rcases this with z | z | z
    all_goals exact ⟨_, st', by simp [K12.f__law_kind, K12.m__law_kind, defF, e, hv, z, lstV, pures, SZ, mkL, ixV, atI, ixN, intV, vn1, int1, divV, isDiv, modV, leave_one (StOk.flat k)]; rfl, k⟩
  · exact ⟨_, st', by simp [K12.f__law_kind, K12.m__law_kind, defF, e, hv, intV, vn1, int1, divV, isDiv, modV, eSlice, oSome, sliceV, SZ, leave_one (StOk.flat k)]; rfl, k⟩
theorem kind_call {st : Cell} {r : Led} (h : StOk st) : ∃ t st', callD K12.f__law_kind 1 [] [.loc 0] (st :: r) = .ok (.d (.str t)) (st' :: r) ∧ StOk st' := by
  obtain ⟨t, st', e, k⟩ := kind_run h
  exact ⟨t, st', callD_one (xs := []) (n := 1) rfl rfl (StOk.flat h) (StOk.flat k) e, k⟩
theorem size_run {st : Cell} (h : StOk st) : ∃ a b st', K12.f__law_size [.loc 0] [st] = .ok (.d (.lst [.int a, .int b])) [st'] ∧ StOk st' ∧ (1 ≤ a ∧ a ≤ 16) ∧ 1 ≤ b ∧ b ≤ 16 := by
  obtain ⟨v1, s1, e1, l1, u1, k1⟩ := dr0 (r := []) (many := 5) h (by decide) (by decide)
  obtain ⟨v2, s2, e2, l2, u2, k2⟩ := dr0 (r := []) (many := 6) k1 (by decide) (by decide)
  obtain ⟨v3, s3, e3, l3, u3, k3⟩ := dr0 (r := []) (many := 8) k2 (by decide) (by decide)
  by_cases hv : v3 = 0
  · obtain ⟨v4, s4, e4, l4, u4, k4⟩ := dr0 (r := []) (many := 16) k3 (by decide) (by decide)
    obtain ⟨v5, s5, e5, l5, u5, k5⟩ := dr0 (r := []) (many := 16) k4 (by decide) (by decide)
    refine ⟨1 + v4, 1 + v5, s5, ?_, k5, by omega, by omega⟩
    simp [K12.f__law_size, K12.m__law_size, defF, e1, e2, e3, e4, e5, hv, lstV, pures, SZ, mkL, leave_one (StOk.flat k5)]
  · refine ⟨1 + v1, 1 + v2, s3, ?_, k3, by omega, by omega⟩
    simp [K12.f__law_size, K12.m__law_size, defF, e1, e2, e3, hv, lstV, pures, SZ, mkL, leave_one (StOk.flat k3)]
theorem size_call {st : Cell} (h : StOk st) (r : Led) : ∃ a b st', callD K12.f__law_size 1 [] [.loc 0] (st :: r) = .ok (.d (.lst [.int a, .int b])) (st' :: r) ∧ StOk st' ∧ (1 ≤ a ∧ a ≤ 16) ∧ 1 ≤ b ∧ b ≤ 16 := by
  obtain ⟨a, b, st', e, k, h1, h2⟩ := size_run h
  exact ⟨a, b, st', callD_one (xs := []) (n := 1) rfl rfl (StOk.flat h) (StOk.flat k) e, k, h1, h2⟩
/-! ### a new field -/
theorem row_new {C : Nat} (hC : C ≤ 16) (P R : Int) (x2 : Option Rv) (L : Led) : e2 (mulV true) (eN (lstV false) (aC (cE (.str tUn)) aN)) (e1 (attrV [(10, 2)]) (varE 1)) [some (.loc 0), some (.d (dr P R C)), x2] L = .ok (.loc L.length) (L ++ [.lst ((List.range C).map fun _ => .str tUn)]) := by
  have h1 : eN (lstV false) (aC (cE (.str tUn)) aN) [some (.loc 0), some (.d (dr P R C)), x2] L = .ok (.d (.lst [.str tUn])) L := rfl
  have h2 : e1 (attrV [(10, 2)]) (varE 1) [some (.loc 0), some (.d (dr P R C)), x2] L = .ok (.d (.int C)) L := rfl
  have e5 : List.replicate C (D.str tUn) = (List.range C).map fun _ => .str tUn := List.ext_getElem (by simp) fun j h1 h2 => by simp
  rw [e2_run h1 h2, mulV_rep (by omega), e5]
theorem comp_new {C : Nat} (hC : C ≤ 16) (P R : Int) (n : Nat) (h3 : n ≤ 16) : ∀ (k i : Nat) (acc : List Rv) (L : Led), i + k = n → acc.length = i →
    compR (.vals (rangeL 0 n)) (.name 2) tYes (e2 (mulV true) (eN (lstV false) (aC (cE (.str tUn)) aN)) (e1 (attrV [(10, 2)]) (varE 1))) [some (.loc 0), some (.d (dr P R C)), none] k i acc L = .ok (acc ++ (List.range k).map fun j => .loc (L.length + j)) (L ++ List.replicate k (.lst ((List.range C).map fun _ => .str tUn))) := by
  intro k
  induction k with
  | zero =>
    intro i acc L h h2
    have e : compR (.vals (rangeL 0 n)) (.name 2) tYes (e2 (mulV true) (eN (lstV false) (aC (cE (.str tUn)) aN)) (e1 (attrV [(10, 2)]) (varE 1))) [some (.loc 0), some (.d (dr P R C)), none] 0 i acc L = .ok acc L := rfl
    rw [e]
    simp
  | succ k ih =>
    intro i acc L h h2
    have hi : i < (rangeL 0 (n : Int)).length := by rw [rngL_len]; omega
    have e1 : (Src.vals (rangeL 0 n)).get L i = some (.int (0 + i)) := by rw [Dl.vals_at hi, rngL_at]
    have hz : acc.length < SZ := by
      show acc.length < 16777216
      omega
    have hst := compR_step (src := .vals (rangeL 0 n)) (p := .name 2) (c := tYes) (ρ := [some (.loc 0), some (.d (dr P R C)), none]) (k := k) (acc := acc) e1 bindP_n rfl (row_new hC P R (some (.d (.int (0 + i)))) L) hz
    rw [hst, ih (i + 1) _ _ (by omega) (by simp [h2])]
    have e4 : (List.range k).map (fun j => Rv.loc ((L ++ [Cell.lst ((List.range C).map fun _ => D.str tUn)]).length + j)) = (List.range k).map fun j => .loc (L.length + (j + 1)) := by
      apply List.map_congr_left
      intro j _
      rw [List.length_append]
      show Rv.loc (L.length + 1 + j) = _
      rw [Nat.add_assoc, Nat.add_comm 1 j]
    rw [e4, List.range_succ_eq_map, List.map_cons, List.map_map, List.append_assoc, List.append_assoc]
    rfl
theorem finit_run {R C : Nat} (hR : R ≤ 16) (hC : C ≤ 16) (P : Int) : K12.f_Field_init [.loc 0, .d (dr P R C)] [.obj 9 []] = .ok (.d .non) (cn (dr P R C) R C fun _ _ => tUn) := by
  have hs : small (R : Int) = true := K08s (by omega) (by omega)
  have hlen : (rangeL 0 (R : Int)).length = R := by rw [rngL_len]; omega
  have hcomp := comp_new hC P R R hR R 0 [] [.obj 9 [.d (dr P R C)]] (by omega) rfl
  have hE : eCompS (iRange1 (e1 (attrV [(10, 1)]) (varE 1))) (.name 2) [2] tYes (e2 (mulV true) (eN (lstV false) (aC (cE (.str tUn)) aN)) (e1 (attrV [(10, 2)]) (varE 1))) [some (.loc 0), some (.d (dr P R C)), none] [.obj 9 [.d (dr P R C)]] = .ok (.loc (R + 1)) ([.obj 9 [.d (dr P R C)]] ++ List.replicate R (.lst ((List.range C).map fun _ => .str tUn)) ++ [.seq ((List.range R).map fun j => .loc (j + 1))]) := by
    have hi : iRange1 (e1 (attrV [(10, 1)]) (varE 1)) [some (.loc 0), some (.d (dr P R C)), none] [.obj 9 [.d (dr P R C)]] = .ok (.vals (rangeL 0 R)) [.obj 9 [.d (dr P R C)]] := iRange1_ok (a := e1 (attrV [(10, 1)]) (varE 1)) rfl hs
    unfold eCompS
    rw [hi]
    show (compR (.vals (rangeL 0 R)) (.name 2) tYes _ [some (.loc 0), some (.d (dr P R C)), none] (rangeL 0 (R : Int)).length 0 [] _).bind _ = _
    rw [hlen, hcomp]
    show Res.ok (Rv.loc _) _ = _
    have e1 : ([Cell.obj 9 [.d (dr P R C)]] ++ List.replicate R (Cell.lst ((List.range C).map fun _ => .str tUn))).length = R + 1 := by simp
    have e2 : ((List.range R).map fun j => Rv.loc ([Cell.obj 9 [.d (dr P R C)]].length + j)) = (List.range R).map fun j => .loc (j + 1) := by
      apply List.map_congr_left
      intro j _
      show Rv.loc (1 + j) = _
      rw [Nat.add_comm]
    rw [e1, List.nil_append, e2]
  have hlast : setAttrV [(9, 1)] (.loc 0) (.loc (R + 1)) ([.obj 9 [.d (dr P R C)]] ++ List.replicate R (.lst ((List.range C).map fun _ => .str tUn)) ++ [.seq ((List.range R).map fun j => .loc (j + 1))]) = .ok () ([.obj 9 [.d (dr P R C), .loc (R + 1)]] ++ List.replicate R (.lst ((List.range C).map fun _ => .str tUn)) ++ [.seq ((List.range R).map fun j => .loc (j + 1))]) := rfl
  have t1 : sAttr [(9, 0)] (varE 0) (varE 1) [some (.loc 0), some (.d (dr P R C)), none] [.obj 9 []] = .next [some (.loc 0), some (.d (dr P R C)), none] [.obj 9 [.d (dr P R C)]] := rfl
  have t2 : sAttr [(9, 1)] (varE 0) (eCompS (iRange1 (e1 (attrV [(10, 1)]) (varE 1))) (.name 2) [2] tYes (e2 (mulV true) (eN (lstV false) (aC (cE (.str tUn)) aN)) (e1 (attrV [(10, 2)]) (varE 1)))) [some (.loc 0), some (.d (dr P R C)), none] [.obj 9 [.d (dr P R C)]] = .next [some (.loc 0), some (.d (dr P R C)), none] ([.obj 9 [.d (dr P R C), .loc (R + 1)]] ++ List.replicate R (.lst ((List.range C).map fun _ => .str tUn)) ++ [.seq ((List.range R).map fun j => .loc (j + 1))]) := attr_run hE rfl hlast
  have hm : K12.m_Field_init [some (.loc 0), some (.d (dr P R C)), none] [.obj 9 []] = .next [some (.loc 0), some (.d (dr P R C)), none] ([.obj 9 [.d (dr P R C), .loc (R + 1)]] ++ List.replicate R (.lst ((List.range C).map fun _ => .str tUn)) ++ [.seq ((List.range R).map fun j => .loc (j + 1))]) := (seq_n t1).trans t2
  have hF : FAt ([.obj 9 [.d (dr P R C), .loc (R + 1)]] ++ List.replicate R (.lst ((List.range C).map fun _ => .str tUn)) ++ [.seq ((List.range R).map fun j => .loc (j + 1))]) 0 (R + 1) ((List.range R).map (· + 1)) 9 (dr P R C) (mkR R C fun _ _ => tUn) := by
    refine ⟨rfl, ?_, by simp [mkR], fun i x hx => ?_, ?_⟩
    · rw [List.getElem?_append_right (by simp), List.map_map]
      simp
    · rw [List.getElem?_map] at hx
      cases e : (List.range R)[i]? with
      | none => rw [e] at hx; cases hx
      | some k =>
        rw [e] at hx
        obtain ⟨h1, h2⟩ := List.getElem?_eq_some_iff.mp e
        rw [List.getElem_range] at h2
        rw [List.length_range] at h1
        have e2 : k + 1 = x := Option.some.inj hx
        have e3 : x = i + 1 := by omega
        rw [e3, mkR_get h1, List.getElem?_append_left (by simp; omega), List.getElem?_append_right (by simp)]
        show (List.replicate R _)[i + 1 - 1]? = _
        rw [Nat.add_sub_cancel, List.getElem?_replicate, if_pos h1]
        rfl
    · rw [List.nodup_cons, List.nodup_cons]
      refine ⟨fun z => ?_, fun z => ?_, ?_⟩
      · rcases List.mem_cons.mp z with z | z
        · omega
        · obtain ⟨j, _, e⟩ := List.mem_map.mp z
          omega
      · obtain ⟨j, hj, e⟩ := List.mem_map.mp z
        have := List.mem_range.mp hj
        omega
      · exact List.Pairwise.map _ (fun a b h z => h (by omega)) List.nodup_range
  exact (defF_next (n := 3) (ps := 2) (m := K12.m_Field_init) (args := [.loc 0, .d (dr P R C)]) rfl hm).trans hF.leave_new
theorem fmake {R C : Nat} (hR : R ≤ 16) (hC : C ≤ 16) (P : Int) (L : Led) : makeD false 9 K12.f_Field_init 2 [] [.d (dr P R C)] L = .ok (.loc L.length) (behind L 9 (dr P R C) (mkR R C fun _ _ => tUn)) := by
  unfold makeD
  rw [if_pos (by rfl), List.map_nil, List.append_nil]
  exact make_new (args := [dr P R C]) (finit_run hR hC P)
/-! ### the law -/
def LL (st : Cell) (P : Int) (R C : Nat) (g : Nat → Nat → Txt) (kv : KL) : Led := behind [st] 9 (dr P R C) (mkR R C g) ++ [.dT kv]
section
variable {st : Cell} {P : Int} {R C : Nat} {g : Nat → Nat → Txt} {kv : KL}
def TL (P : Int) (R C : Nat) (g : Nat → Nat → Txt) (kv : KL) : Led := .obj 9 [.d (dr P R C), .loc 2] :: .seq ((List.range (mkR R C g).length).map fun i => .loc (i + 3)) :: (mkR R C g).map .lst ++ [.dT kv]
theorem LL_eq : LL st P R C g kv = st :: TL P R C g kv := rfl
theorem ll_draw {many : Int} (h : StOk st) (h4 : 0 < many) (h5 : many < 2 ^ 62) : ∃ v st', callD K12.f__law_draw 2 [] [.loc 0, .d (.int many)] (LL st P R C g kv) = .ok (.d (.int v)) (LL st' P R C g kv) ∧ 0 ≤ v ∧ v < many ∧ StOk st' := by
  obtain ⟨v, st', e, h1⟩ := dr0 (r := TL P R C g kv) h h4 h5
  exact ⟨v, st', by rw [LL_eq, LL_eq]; exact e, h1⟩
theorem ll_kind (h : StOk st) : ∃ t st', callD K12.f__law_kind 1 [] [.loc 0] (LL st P R C g kv) = .ok (.d (.str t)) (LL st' P R C g kv) ∧ StOk st' := by
  obtain ⟨v, st', e, h1⟩ := kind_call (r := TL P R C g kv) h
  exact ⟨v, st', by rw [LL_eq, LL_eq]; exact e, h1⟩
theorem ll_at : FAt (LL st P R C g kv) 1 2 ((List.range (mkR R C g).length).map (· + 3)) 9 (dr P R C) (mkR R C g) := behind_at (L := [st]) (r := [.dT kv])
theorem ll_set (r p : Int) (t : Txt) : callD K12.f__law_set 4 [] [.loc 1, .d (.int r), .d (.int p), .d (.str t)] (LL st P R C g kv) = .ok (.d (setD R C r p t)) (LL st P R C (setG R C g r p t) kv) := by
  rw [lset_call ll_at r p t]
  have e : putF (LL st P R C g kv) ((List.range (mkR R C g).length).map (· + 3)) (mkR R C (setG R C g r p t)) = LL st P R C (setG R C g r p t) kv := behind_put (L := [st]) (r := [.dT kv]) (by rw [mkR_len, mkR_len])
  rw [e]
theorem ll_len : (behind [st] 9 (dr P R C) (mkR R C g)).length = R + 3 := by
  rw [behind_len, mkR_len]
  show 1 + (R + 2) = R + 3
  omega
theorem ll_known : (LL st P R C g kv)[R + 3]? = some (.dT kv) := by
  unfold LL
  rw [List.getElem?_append_right (by rw [ll_len]; exact Nat.le_refl _), ll_len, Nat.sub_self]
  rfl
theorem ll_put {kv' : KL} : (LL st P R C g kv).set (R + 3) (.dT kv') = LL st P R C g kv' := by
  unfold LL
  rw [List.set_append_right _ _ (by rw [ll_len]; exact Nat.le_refl _), ll_len, Nat.sub_self]
  rfl
theorem ll_setk {r p : Int} {t : Txt} (hl : kv.length < SZ) : setV (.loc (R + 3)) (.d (.tup [.int r, .int p])) (.d (.str t)) (LL st P R C g kv) = .ok () (LL st P R C g (put kv (ky r p) (.str t))) := by
  unfold setV
  simp only [ll_known]
  simp only [keysOf, keyOf, Option.bind_some, Option.map_some]
  rw [if_pos hl, ll_put]
theorem ll_all (hk : Known R C g kv) (hR : R ≤ 16) (hC : C ≤ 16) : callD K12.f__law_all 4 [] [.loc 1, .loc (R + 3), .d (.int R), .d (.int C)] (LL st P R C g kv) = .ok (.d (.bl true)) (LL st P R C g kv) := all_call hk hR hC ll_at ll_known (fun z => by
  rw [mkR_len] at z
  rcases List.mem_cons.mp z with z | z
  · omega
  · rcases List.mem_cons.mp z with z | z
    · omega
    · obtain ⟨j, hj, e⟩ := List.mem_map.mp z
      have := List.mem_range.mp hj
      omega)
theorem ll_around (row place : Int) : callD K12.f__law_around 5 [] [.loc 1, .d (.int R), .d (.int C), .d (.int row), .d (.int place)] (LL st P R C g kv) = .ok (.d (.bl true)) (LL st P R C g kv) := ar_call ll_at row place
abbrev od (x : D) : Option Rv := some (.d x)
abbrev lenv (s z : D) (R C : Nat) (x7 x8 x9 x10 x11 : Option Rv) : Env := [od s, some (.loc 0), od z, oi R, oi C, some (.loc 1), some (.loc (R + 3)), x7, x8, x9, x10, x11]
def tailS : DS := (sSeq (sAsg 8 (eN (callD f__law_set_due 5 []) (aC (varE 3) (aC (varE 4) (aC (varE 11) (aC (varE 10) (aC (varE 9) aN))))))) (sSeq (sIf (tB (e2 (eqV true) (eN (callD f__law_set 4 []) (aC (varE 5) (aC (varE 11) (aC (varE 10) (aC (varE 9) aN))))) (varE 8))) (sRet (cE (.bl false))) sNext) (sSeq (sIf (tB (e2 (eqV false) (varE 8) (eN (lstV false) aN))) (sSet setV (varE 6) (eN tupV (aC (varE 11) (aC (varE 10) aN))) (varE 9)) sNext) (sIf (tNot (tTru (eN (callD f__law_all 4 []) (aC (varE 5) (aC (varE 6) (aC (varE 3) (aC (varE 4) aN))))))) (sRet (cE (.bl false))) sNext))))
theorem tail_run (hk : Known R C g kv) (hR : R ≤ 16) (hC : C ≤ 16) (hl : kv.length < SZ) (s z : D) (x7 x8 : Option Rv) (r p : Int) (t : Txt) : ∃ x8' g' kv', tailS (lenv s z R C x7 x8 (od (.str t)) (oi p) (oi r)) (LL st P R C g kv) = .next (lenv s z R C x7 x8' (od (.str t)) (oi p) (oi r)) (LL st P R C g' kv') ∧ Known R C g' kv' ∧ kv'.length ≤ kv.length + 1 := by
  have e1 := fun L => due_call (R := R) (C := C) r p t L
  have e2 := ll_set (st := st) (P := P) (R := R) (C := C) (g := g) (kv := kv) r p t
  by_cases hc : isK t ∧ inF R C r p
  · have hk2 := hk.step r p t hc.2
    have e3 := ll_setk (st := st) (P := P) (R := R) (C := C) (g := upG g r.toNat p.toNat t) (r := r) (p := p) (t := t) hl
    have e4 := ll_all (st := st) (P := P) hk2 hR hC
    have hg : setG R C g r p t = upG g r.toNat p.toNat t := if_pos hc
    rw [hg] at e2
    have e5 := fun L => setD_nil (R := R) (C := C) r p t L
    rw [decide_eq_true hc] at e5
    refine ⟨od (setD R C r p t), upG g r.toNat p.toNat t, put kv (ky r p) (.str t), ?_, hk2, ?_⟩
    · simp [tailS, e1, e2, setD_eq, lstV, pures, SZ, mkL, e5, tupV, e3, e4, truth]
    · have := put_length (l := kv) (k := ky r p) (v := D.str t)
      exact this
  · have e4 := ll_all (st := st) (P := P) hk hR hC
    have hg : setG R C g r p t = g := if_neg hc
    rw [hg] at e2
    have e5 := fun L => setD_nil (R := R) (C := C) r p t L
    rw [decide_eq_false hc] at e5
    refine ⟨od (setD R C r p t), g, kv, ?_, hk, Nat.le_succ _⟩
    simp [tailS, e1, e2, setD_eq, lstV, pures, SZ, mkL, e5, e4, truth]
theorem b1_run (h : StOk st) (hk : Known R C g kv) (h1 : 1 ≤ R) (hR : R ≤ 16) (h2 : 1 ≤ C) (hC : C ≤ 16) (hl : kv.length < SZ) (s z : D) (x7 x8 x9 x10 x11 : Option Rv) : ∃ x8' x9' x10' x11' st' g' kv', K12.m_law_b1 (lenv s z R C x7 x8 x9 x10 x11) (LL st P R C g kv) = .next (lenv s z R C x7 x8' x9' x10' x11') (LL st' P R C g' kv') ∧ StOk st' ∧ Known R C g' kv' ∧ kv'.length ≤ kv.length + 1 := by
  obtain ⟨v1, s1, e1, l1, u1, k1⟩ := ll_draw (P := P) (R := R) (C := C) (g := g) (kv := kv) (many := R) h (by omega) (by omega)
  obtain ⟨v2, s2, e2, l2, u2, k2⟩ := ll_draw (P := P) (R := R) (C := C) (g := g) (kv := kv) (many := C) k1 (by omega) (by omega)
  obtain ⟨v3, s3, e3, l3, u3, k3⟩ := ll_draw (P := P) (R := R) (C := C) (g := g) (kv := kv) (many := 3) k2 (by decide) (by decide)
  obtain ⟨v4, s4, e4, l4, u4, k4⟩ := ll_draw (P := P) (R := R) (C := C) (g := g) (kv := kv) (many := 4) k3 (by decide) (by decide)
  have t1 : sAsg 11 (eN (callD f__law_draw 2 []) (aC (varE 1) (aC (varE 3) aN))) (lenv s z R C x7 x8 x9 x10 x11) (LL st P R C g kv) = .next (lenv s z R C x7 x8 x9 x10 (oi v1)) (LL s1 P R C g kv) := by simp [e1]
  have t2 : sAsg 10 (eN (callD f__law_draw 2 []) (aC (varE 1) (aC (varE 4) aN))) (lenv s z R C x7 x8 x9 x10 (oi v1)) (LL s1 P R C g kv) = .next (lenv s z R C x7 x8 x9 (oi v2) (oi v1)) (LL s2 P R C g kv) := by simp [e2]
  obtain ⟨t, t3⟩ : ∃ t, sAsg 9 (Dl.e2 ixV (eN (lstV false) (aC (cE (.str [98, 97, 114, 101])) (aC (cE (.str [103, 114, 101, 101, 110])) (aC (cE (.str [117, 110, 115, 101, 101, 110])) aN)))) (eN (callD f__law_draw 2 []) (aC (varE 1) (aC (cE (.int 3)) aN)))) (lenv s z R C x7 x8 x9 (oi v2) (oi v1)) (LL s2 P R C g kv) = .next (lenv s z R C x7 x8 (od (.str t)) (oi v2) (oi v1)) (LL s3 P R C g kv) := by
    have : v3 = 0 ∨ v3 = 1 ∨ v3 = 2 := by omega
    rcases this with y | y | y
    all_goals exact ⟨_, by simp [e3, y, lstV, pures, SZ, mkL, ixV, atI, ixN]; rfl⟩
  obtain ⟨t', r', p', s5, t4, k5⟩ : ∃ t' r' p' s5, (sIf (tB (Dl.e2 (eqV false) (eN (callD f__law_draw 2 []) (aC (varE 1) (aC (cE (.int 4)) aN))) (cE (.int 0)))) (sSeq (sAsg 9 (eN (callD f__law_kind 1 []) (aC (varE 1) aN))) (sSeq (sAsg 11 (Dl.e2 subV (eN (callD f__law_draw 2 []) (aC (varE 1) (aC (Dl.e2 (addV false) (varE 3) (cE (.int 2))) aN))) (cE (.int 1)))) (sAsg 10 (Dl.e2 subV (eN (callD f__law_draw 2 []) (aC (varE 1) (aC (Dl.e2 (addV false) (varE 4) (cE (.int 2))) aN))) (cE (.int 1)))))) sNext) (lenv s z R C x7 x8 (od (.str t)) (oi v2) (oi v1)) (LL s3 P R C g kv) = .next (lenv s z R C x7 x8 (od (.str t')) (oi p') (oi r')) (LL s5 P R C g kv) ∧ StOk s5 := by
    by_cases hv : v4 = 0
    · obtain ⟨t', s5, e5, k5⟩ := ll_kind (P := P) (R := R) (C := C) (g := g) (kv := kv) k4
      obtain ⟨v6, s6, e6, l6, u6, k6⟩ := ll_draw (P := P) (R := R) (C := C) (g := g) (kv := kv) (many := R + 2) k5 (by omega) (by omega)
      obtain ⟨v7, s7, e7, l7, u7, k7⟩ := ll_draw (P := P) (R := R) (C := C) (g := g) (kv := kv) (many := C + 2) k6 (by omega) (by omega)
      exact ⟨t', v6 - 1, v7 - 1, s7, by simp [e4, hv, e5, e6, e7], k7⟩
    · exact ⟨t, v1, v2, s4, by simp [e4, hv], k4⟩
  obtain ⟨x8', g', kv', e, hk', hl'⟩ := tail_run (st := s5) (P := P) hk hR hC hl s z x7 x8 r' p' t'
  exact ⟨x8', _, _, _, s5, g', kv', (seq_n t1).trans ((seq_n t2).trans ((seq_n t3).trans ((seq_n t4).trans e))), k5, hk', hl'⟩
end
theorem law_true (ns : List Int) (hl : ns.length ≤ 63) (hb : ∀ z ∈ ns, PySem.Builtin.Int.intBits z ≤ 1048576) : ∃ L, K12.f_law [.d (.slst (ns.map D.int))] [] = .ok (.d (.bl true)) L := by
  obtain ⟨s, e0⟩ : ∃ s, callD K12.f__law_begin 1 [] [.d (.slst (ns.map D.int))] [] = .ok (.loc 0) [stC ns 0 0 s 0] := begin_call ns []
  have h0 := StOk.start ns s
  obtain ⟨a, b, s1, e1, k1, ⟨a1, a2⟩, b1, b2⟩ := size_call h0 []
  obtain ⟨R, rfl⟩ : ∃ R : Nat, a = R := ⟨a.toNat, by omega⟩
  obtain ⟨C, rfl⟩ : ∃ C : Nat, b = C := ⟨b.toNat, by omega⟩
  obtain ⟨v2, s2, e2, l2, u2, k2⟩ := dr0 (r := []) (many := 6) k1 (by decide) (by decide)
  have hz : bad4 (1 + v2) R C 0 = [] := by
    unfold bad4
    rw [if_pos (by omega), if_pos (by omega), if_pos (by omega), if_pos (by omega)]
  have hd := make_run (1 + v2) R C [s2] (crens_all fun c hc => by
    rw [List.mem_singleton.mp hc]
    exact k2.ren _) hz
  have hf := fmake (R := R) (C := C) (by omega) (by omega) (1 + v2) [s2]
  have hf' : makeD false 9 K12.f_Field_init 2 [] [.d (dr (1 + v2) R C)] [s2] = .ok (.loc 1) (behind [s2] 9 (dr (1 + v2) R C) (mkR R C fun _ _ => tUn)) := hf
  have t1 : K12.m_law_s1 [od (.slst (ns.map D.int)), none, none, none, none, none, none, none, none, none, none, none] [] = .next [od (.slst (ns.map D.int)), some (.loc 0), none, none, none, none, none, none, none, none, none, none] [stC ns 0 0 s 0] := by simp [K12.m_law_s1, e0]
  have t2 : K12.m_law_s2 [od (.slst (ns.map D.int)), some (.loc 0), none, none, none, none, none, none, none, none, none, none] [stC ns 0 0 s 0] = .next [od (.slst (ns.map D.int)), some (.loc 0), od (.lst [.int R, .int C]), none, none, none, none, none, none, none, none, none] [s1] := by simp [K12.m_law_s2, e1]
  have t3 : K12.m_law_s3 [od (.slst (ns.map D.int)), some (.loc 0), od (.lst [.int R, .int C]), none, none, none, none, none, none, none, none, none] [s1] = .next [od (.slst (ns.map D.int)), some (.loc 0), od (.lst [.int R, .int C]), oi R, none, none, none, none, none, none, none, none] [s1] := by simp [K12.m_law_s3, ixV, atI, ixN]
  have t4 : K12.m_law_s4 [od (.slst (ns.map D.int)), some (.loc 0), od (.lst [.int R, .int C]), oi R, none, none, none, none, none, none, none, none] [s1] = .next [od (.slst (ns.map D.int)), some (.loc 0), od (.lst [.int R, .int C]), oi R, oi C, none, none, none, none, none, none, none] [s1] := by simp [K12.m_law_s4, ixV, atI, ixN]
  have t5 : K12.m_law_s5 [od (.slst (ns.map D.int)), some (.loc 0), od (.lst [.int R, .int C]), oi R, oi C, none, none, none, none, none, none, none] [s1] = .next [od (.slst (ns.map D.int)), some (.loc 0), od (.lst [.int R, .int C]), oi R, oi C, some (.loc 1), none, none, none, none, none, none] (behind [s2] 9 (dr (1 + v2) R C) (mkR R C fun _ _ => tUn)) := by
    have a1 : aC (Dl.e2 (addV false) (cE (.int 1)) (eN (callD f__law_draw 2 []) (aC (varE 1) (aC (cE (.int 6)) aN)))) (aC (varE 3) (aC (varE 4) aN)) [od (.slst (ns.map D.int)), some (.loc 0), od (.lst [.int R, .int C]), oi R, oi C, none, none, none, none, none, none, none] [s1] = .ok [.d (.int (1 + v2)), .d (.int R), .d (.int C)] [s2] := by simp [e2]
    exact asg_run ((eN_run (aC_run ((eN_run a1).trans hd) (m := aN) rfl)).trans hf')
  have t6 : K12.m_law_s6 [od (.slst (ns.map D.int)), some (.loc 0), od (.lst [.int R, .int C]), oi R, oi C, some (.loc 1), none, none, none, none, none, none] (behind [s2] 9 (dr (1 + v2) R C) (mkR R C fun _ _ => tUn)) = .next (lenv (.slst (ns.map D.int)) (.lst [.int R, .int C]) R C none none none none none) (LL s2 (1 + v2) R C (fun _ _ => tUn) []) := by
    have := ll_len (st := s2) (P := 1 + v2) (R := R) (C := C) (g := fun _ _ => tUn)
    show Flow.next [od (.slst (ns.map D.int)), some (.loc 0), od (.lst [.int R, .int C]), oi R, oi C, some (.loc 1), some (.loc (behind [s2] 9 (dr (1 + v2) R C) (mkR R C fun _ _ => tUn)).length), none, none, none, none, none] (behind [s2] 9 (dr (1 + v2) R C) (mkR R C fun _ _ => tUn) ++ [.dT []]) = _
    rw [this]
    rfl
  have hk0 : Known R C (fun _ _ => tUn) [] := fun r p _ _ => rfl
  obtain ⟨v3, s3, e3, l3, u3, k3⟩ := ll_draw (P := 1 + v2) (R := R) (C := C) (g := fun _ _ => tUn) (kv := []) (many := 10) k2 (by decide) (by decide)
  obtain ⟨ρ, L, e7, x7, x8, x9, x10, x11, s4, g, kv, e1', e2', k4, hk, hlen⟩ := forK_inv (xs := rangeL 0 v3) (p := .name 7) (body := K12.m_law_b1)
    (I := fun i ρ L => ∃ x7 x8 x9 x10 x11 st g kv, ρ = lenv (.slst (ns.map D.int)) (.lst [.int R, .int C]) R C x7 x8 x9 x10 x11 ∧ L = LL st (1 + v2) R C g kv ∧ StOk st ∧ Known R C g kv ∧ kv.length ≤ i)
    (ρ := lenv (.slst (ns.map D.int)) (.lst [.int R, .int C]) R C none none none none none) (L := LL s3 (1 + v2) R C (fun _ _ => tUn) []) ⟨none, none, none, none, none, s3, _, [], rfl, rfl, k3, hk0, Nat.le_refl _⟩ fun i ρ L hi hI => by
      obtain ⟨x7, x8, x9, x10, x11, st, g, kv, e1, e2, k, hk, hl⟩ := hI
      subst e1 e2
      rw [rngL_at]
      rw [rngL_len] at hi
      obtain ⟨x8', x9', x10', x11', st', g', kv', e, k', hk', hl'⟩ := b1_run (P := 1 + v2) k hk (by omega) (by omega) (by omega) (by omega) (by show kv.length < 16777216; omega) (.slst (ns.map D.int)) (.lst [.int R, .int C]) (oi (0 + i)) x8 x9 x10 x11
      exact ⟨_, rfl, _, _, .inl e, oi (0 + i), x8', x9', x10', x11', st', g', kv', rfl, rfl, k', hk', by omega⟩
  subst e1' e2'
  have hs : small v3 = true := K08s l3 (by omega)
  have t7 : K12.m_law_s7 (lenv (.slst (ns.map D.int)) (.lst [.int R, .int C]) R C none none none none none) (LL s2 (1 + v2) R C (fun _ _ => tUn) []) = .next (lenv (.slst (ns.map D.int)) (.lst [.int R, .int C]) R C x7 x8 x9 x10 x11) (LL s4 (1 + v2) R C g kv) :=
    (for_range1 (a := eN (callD f__law_draw 2 []) (aC (varE 1) (aC (cE (.int 10)) aN))) (by simp [e3]) hs).trans e7
  obtain ⟨v5, s5, e5, l5, u5, k5⟩ := ll_draw (P := 1 + v2) (R := R) (C := C) (g := g) (kv := kv) (many := 2000000001) k4 (by decide) (by decide)
  obtain ⟨v6, s6, e6, l6, u6, k6⟩ := ll_draw (P := 1 + v2) (R := R) (C := C) (g := g) (kv := kv) (many := 2000000001) k5 (by decide) (by decide)
  have t8 : K12.m_law_s8 (lenv (.slst (ns.map D.int)) (.lst [.int R, .int C]) R C x7 x8 x9 x10 x11) (LL s4 (1 + v2) R C g kv) = .next (lenv (.slst (ns.map D.int)) (.lst [.int R, .int C]) R C x7 x8 x9 x10 (oi (v5 - 1000000000))) (LL s5 (1 + v2) R C g kv) := by simp [K12.m_law_s8, pow9, mul29, e5]
  have t9 : K12.m_law_s9 (lenv (.slst (ns.map D.int)) (.lst [.int R, .int C]) R C x7 x8 x9 x10 (oi (v5 - 1000000000))) (LL s5 (1 + v2) R C g kv) = .next (lenv (.slst (ns.map D.int)) (.lst [.int R, .int C]) R C x7 x8 x9 (oi (v6 - 1000000000)) (oi (v5 - 1000000000))) (LL s6 (1 + v2) R C g kv) := by simp [K12.m_law_s9, pow9, mul29, e6]
  have e8 := ll_around (st := s6) (P := 1 + v2) (R := R) (C := C) (g := g) (kv := kv) (v5 - 1000000000) (v6 - 1000000000)
  have e9 := ll_all (st := s6) (P := 1 + v2) hk (by omega) (by omega)
  have t10 : K12.m_law_s10 (lenv (.slst (ns.map D.int)) (.lst [.int R, .int C]) R C x7 x8 x9 (oi (v6 - 1000000000)) (oi (v5 - 1000000000))) (LL s6 (1 + v2) R C g kv) = .ret (.d (.bl true)) (LL s6 (1 + v2) R C g kv) := by simp [K12.m_law_s10, e8, e9]
  exact ⟨_, law_ret ((seq_n t1).trans ((seq_n t2).trans ((seq_n t3).trans ((seq_n t4).trans ((seq_n t5).trans ((seq_n t6).trans ((seq_n t7).trans ((seq_n t8).trans ((seq_n t9).trans t10)))))))))⟩
end K12

set_option Elab.async false
set_option linter.all false
set_option maxRecDepth 100000
/-! Dg: frames in general: what a call does, by what its def does to the cells that it sees. -/
namespace Dl
section
variable {f g : Nat → Option Nat}
theorem rens_some : ∀ {xs : List Rv}, (∀ m ∈ xs.flatMap Rv.locs, ∃ k, f m = some k) → ∃ ys, rens f xs = some ys
  | [], _ => ⟨[], rfl⟩
  | .d x :: xs, h => by
    obtain ⟨ys, e⟩ := rens_some (xs := xs) h
    refine ⟨.d x :: ys, ?_⟩
    show ((some (Rv.d x)).bind fun y => (rens f xs).map (y :: ·)) = _
    rw [e]
    rfl
  | .loc n :: xs, h => by
    obtain ⟨ys, e⟩ := rens_some (xs := xs) fun m hm => h m (by simp [Rv.locs] at hm ⊢; exact .inr hm)
    obtain ⟨k, hk⟩ := h n (by simp [Rv.locs])
    refine ⟨.loc k :: ys, ?_⟩
    show ((f n).map Rv.loc).bind (fun y => (rens f xs).map (y :: ·)) = _
    rw [hk, e]
    rfl
theorem ren_some : ∀ {c : Cell}, (∀ m ∈ c.locs, ∃ k, f m = some k) → ∃ d, c.ren f = some d
  | .lst _, _ => ⟨_, rfl⟩
  | .dK _, _ => ⟨_, rfl⟩
  | .dT _, _ => ⟨_, rfl⟩
  | .dead, _ => ⟨_, rfl⟩
  | .obj k xs, h => by
    obtain ⟨ys, e⟩ := rens_some (xs := xs) h
    exact ⟨.obj k ys, by show (rens f xs).map _ = _; rw [e]; rfl⟩
  | .rcd k xs, h => by
    obtain ⟨ys, e⟩ := rens_some (xs := xs) h
    exact ⟨.rcd k ys, by show (rens f xs).map _ = _; rw [e]; rfl⟩
  | .seq xs, h => by
    obtain ⟨ys, e⟩ := rens_some (xs := xs) h
    exact ⟨.seq ys, by show (rens f xs).map _ = _; rw [e]; rfl⟩
  | .fz c, h => by
    obtain ⟨d, e⟩ := ren_some (c := c) h
    exact ⟨.fz d, by show (c.ren f).map _ = _; rw [e]; rfl⟩
theorem rens_cons {x : Rv} {xs ys : List Rv} (h : rens f (x :: xs) = some ys) : ∃ y zs, x.ren f = some y ∧ rens f xs = some zs ∧ ys = y :: zs := by
  have h1 : (x.ren f).bind (fun y => (rens f xs).map (y :: ·)) = some ys := h
  cases e1 : x.ren f with
  | none => rw [e1] at h1; cases h1
  | some y =>
    cases e2 : rens f xs with
    | none => rw [e1, e2] at h1; cases h1
    | some zs =>
      rw [e1, e2] at h1
      exact ⟨y, zs, rfl, rfl, (Option.some.inj h1).symm⟩
theorem crens_cons {x : Cell} {xs ys : List Cell} (h : crens f (x :: xs) = some ys) : ∃ y zs, x.ren f = some y ∧ crens f xs = some zs ∧ ys = y :: zs := by
  have h1 : (x.ren f).bind (fun y => (crens f xs).map (y :: ·)) = some ys := h
  cases e1 : x.ren f with
  | none => rw [e1] at h1; cases h1
  | some y =>
    cases e2 : crens f xs with
    | none => rw [e1, e2] at h1; cases h1
    | some zs =>
      rw [e1, e2] at h1
      exact ⟨y, zs, rfl, rfl, (Option.some.inj h1).symm⟩
theorem rv_inv (hg : ∀ m k, f m = some k → g k = some m) : ∀ {x y : Rv}, x.ren f = some y → y.ren g = some x
  | .d x, y, h => by
    have e : Rv.d x = y := Option.some.inj h
    rw [← e]
    rfl
  | .loc n, y, h => by
    have h1 : (f n).map Rv.loc = some y := h
    cases e : f n with
    | none => rw [e] at h1; cases h1
    | some k =>
      rw [e] at h1
      have e2 : Rv.loc k = y := Option.some.inj h1
      rw [← e2]
      show (g k).map Rv.loc = _
      rw [hg n k e]
      rfl
theorem rens_inv (hg : ∀ m k, f m = some k → g k = some m) : ∀ {xs ys : List Rv}, rens f xs = some ys → rens g ys = some xs
  | [], ys, h => by
    have e : [] = ys := Option.some.inj h
    rw [← e]
    rfl
  | x :: xs, ys, h => by
    obtain ⟨y, zs, h1, h2, rfl⟩ := rens_cons h
    show (y.ren g).bind (fun y => (rens g zs).map (y :: ·)) = _
    rw [rv_inv hg h1, rens_inv hg h2]
    rfl
theorem ren_inv (hg : ∀ m k, f m = some k → g k = some m) : ∀ {c d : Cell}, c.ren f = some d → d.ren g = some c
  | .lst _, d, h => by cases (Option.some.inj h : Cell.lst _ = d); rfl
  | .dK _, d, h => by cases (Option.some.inj h : Cell.dK _ = d); rfl
  | .dT _, d, h => by cases (Option.some.inj h : Cell.dT _ = d); rfl
  | .dead, d, h => by cases (Option.some.inj h : Cell.dead = d); rfl
  | .obj k xs, d, h => by
    have h1 : (rens f xs).map (Cell.obj k) = some d := h
    cases e : rens f xs with
    | none => rw [e] at h1; cases h1
    | some ys =>
      rw [e] at h1
      cases (Option.some.inj h1 : Cell.obj k ys = d)
      show (rens g ys).map _ = _
      rw [rens_inv hg e]
      rfl
  | .rcd k xs, d, h => by
    have h1 : (rens f xs).map (Cell.rcd k) = some d := h
    cases e : rens f xs with
    | none => rw [e] at h1; cases h1
    | some ys =>
      rw [e] at h1
      cases (Option.some.inj h1 : Cell.rcd k ys = d)
      show (rens g ys).map _ = _
      rw [rens_inv hg e]
      rfl
  | .seq xs, d, h => by
    have h1 : (rens f xs).map Cell.seq = some d := h
    cases e : rens f xs with
    | none => rw [e] at h1; cases h1
    | some ys =>
      rw [e] at h1
      cases (Option.some.inj h1 : Cell.seq ys = d)
      show (rens g ys).map _ = _
      rw [rens_inv hg e]
      rfl
  | .fz c, d, h => by
    have h1 : (c.ren f).map Cell.fz = some d := h
    cases e : c.ren f with
    | none => rw [e] at h1; cases h1
    | some ys =>
      rw [e] at h1
      cases (Option.some.inj h1 : Cell.fz ys = d)
      show (ys.ren g).map _ = _
      rw [ren_inv hg e]
      rfl
theorem crens_inv (hg : ∀ m k, f m = some k → g k = some m) : ∀ {xs ys : List Cell}, crens f xs = some ys → crens g ys = some xs
  | [], ys, h => by
    have e : [] = ys := Option.some.inj h
    rw [← e]
    rfl
  | x :: xs, ys, h => by
    obtain ⟨y, zs, h1, h2, rfl⟩ := crens_cons h
    show (y.ren g).bind (fun y => (crens g zs).map (y :: ·)) = _
    rw [ren_inv hg h1, crens_inv hg h2]
    rfl
theorem crens_ex : ∀ {xs : List Cell}, (∀ c ∈ xs, ∃ d, c.ren f = some d) → ∃ ys, crens f xs = some ys
  | [], _ => ⟨[], rfl⟩
  | x :: xs, h => by
    obtain ⟨d, e⟩ := h x List.mem_cons_self
    obtain ⟨ys, e2⟩ := crens_ex (xs := xs) fun c hc => h c (List.mem_cons_of_mem _ hc)
    exact ⟨d :: ys, by show (x.ren f).bind (fun y => (crens f xs).map (y :: ·)) = _; rw [e, e2]; rfl⟩
theorem crens_at : ∀ {xs ys : List Cell}, crens f xs = some ys → ys.length = xs.length ∧ ∀ (i : Nat) c, xs[i]? = some c → ∃ d, ys[i]? = some d ∧ c.ren f = some d
  | [], ys, h => by
    have e : [] = ys := Option.some.inj h
    rw [← e]
    exact ⟨rfl, fun i c hc => by simp at hc⟩
  | x :: xs, ys, h => by
    obtain ⟨y, zs, h1, h2, rfl⟩ := crens_cons h
    obtain ⟨l, g2⟩ := crens_at h2
    refine ⟨by simp [l], fun i c hc => ?_⟩
    match i with
    | 0 =>
      have e : x = c := Option.some.inj hc
      rw [← e]
      exact ⟨y, rfl, h1⟩
    | i + 1 => exact g2 i c hc
/-- what a renamed cell refers to -/
theorem rens_mem : ∀ {xs ys : List Rv}, rens f xs = some ys → ∀ k ∈ ys.flatMap Rv.locs, ∃ m, f m = some k
  | [], ys, h, k, hk => by
    have e : [] = ys := Option.some.inj h
    rw [← e] at hk
    cases hk
  | x :: xs, ys, h, k, hk => by
    obtain ⟨y, zs, h1, h2, rfl⟩ := rens_cons h
    rw [List.flatMap_cons, List.mem_append] at hk
    rcases hk with hk | hk
    · cases x with
      | d x =>
        have e : Rv.d x = y := Option.some.inj h1
        rw [← e] at hk
        cases hk
      | loc n =>
        have h3 : (f n).map Rv.loc = some y := h1
        cases e : f n with
        | none => rw [e] at h3; cases h3
        | some j =>
          rw [e] at h3
          have e2 : Rv.loc j = y := Option.some.inj h3
          rw [← e2] at hk
          have : k = j := by simpa [Rv.locs] using hk
          exact ⟨n, by rw [this]; exact e⟩
    · exact rens_mem h2 k hk
theorem ren_mem : ∀ {c d : Cell}, c.ren f = some d → ∀ k ∈ d.locs, ∃ m, f m = some k
  | .lst _, d, h, k, hk => by cases (Option.some.inj h : Cell.lst _ = d); cases hk
  | .dK _, d, h, k, hk => by cases (Option.some.inj h : Cell.dK _ = d); cases hk
  | .dT _, d, h, k, hk => by cases (Option.some.inj h : Cell.dT _ = d); cases hk
  | .dead, d, h, k, hk => by cases (Option.some.inj h : Cell.dead = d); cases hk
  | .obj j xs, d, h, k, hk => by
    have h1 : (rens f xs).map (Cell.obj j) = some d := h
    cases e : rens f xs with
    | none => rw [e] at h1; cases h1
    | some ys =>
      rw [e] at h1
      cases (Option.some.inj h1 : Cell.obj j ys = d)
      exact rens_mem e k hk
  | .rcd j xs, d, h, k, hk => by
    have h1 : (rens f xs).map (Cell.rcd j) = some d := h
    cases e : rens f xs with
    | none => rw [e] at h1; cases h1
    | some ys =>
      rw [e] at h1
      cases (Option.some.inj h1 : Cell.rcd j ys = d)
      exact rens_mem e k hk
  | .seq xs, d, h, k, hk => by
    have h1 : (rens f xs).map Cell.seq = some d := h
    cases e : rens f xs with
    | none => rw [e] at h1; cases h1
    | some ys =>
      rw [e] at h1
      cases (Option.some.inj h1 : Cell.seq ys = d)
      exact rens_mem e k hk
  | .fz c, d, h, k, hk => by
    have h1 : (c.ren f).map Cell.fz = some d := h
    cases e : c.ren f with
    | none => rw [e] at h1; cases h1
    | some ys =>
      rw [e] at h1
      cases (Option.some.inj h1 : Cell.fz ys = d)
      exact ren_mem e k hk
end
theorem place_lt {fp : List Nat} {m k : Nat} (h : place fp m = some k) : fp[k]? = some m := by
  unfold place at h
  obtain ⟨hk, h1, _⟩ := List.findIdx?_eq_some_iff_getElem.mp h
  rw [List.getElem?_eq_getElem hk, eq_of_beq h1]
theorem place_mem {fp : List Nat} {m : Nat} (nd : fp.Nodup) (h : m ∈ fp) : ∃ k, place fp m = some k := by
  obtain ⟨i, hi⟩ := List.getElem?_of_mem h
  exact ⟨i, place_at nd hi⟩
theorem picks_ex {L : Led} : ∀ {fp : List Nat}, (∀ n ∈ fp, ∃ c, L[n]? = some c) → ∃ cs, picks L fp = some cs ∧ cs.length = fp.length ∧ ∀ (i n : Nat), fp[i]? = some n → cs[i]? = L[n]?
  | [], _ => ⟨[], rfl, rfl, fun i n h => by simp at h⟩
  | n :: r, h => by
    obtain ⟨c, hc⟩ := h n List.mem_cons_self
    obtain ⟨cs, e, l, g⟩ := picks_ex (fp := r) fun m hm => h m (List.mem_cons_of_mem _ hm)
    refine ⟨c :: cs, ?_, by simp [l], fun i m hm => ?_⟩
    · show (L[n]?).bind (fun c => (picks L r).map (c :: ·)) = _
      rw [hc, e]
      rfl
    · match i with
      | 0 =>
        have e : n = m := Option.some.inj hm
        rw [← e]
        exact hc.symm
      | i + 1 => exact g i m hm
/-- the cells that a def sees, by its own numbers -/
structure Fr (L : Led) (fp : List Nat) (cs : Led) : Prop where
  nd : fp.Nodup
  pk : (picks L fp).bind (crens (place fp)) = some cs
  len : cs.length = fp.length
  at_ : ∀ (i n : Nat) c, fp[i]? = some n → L[n]? = some c → ∃ d, cs[i]? = some d ∧ c.ren (place fp) = some d
  cl : Closed cs
  bk : ∀ m, ∃ ps, crens (back fp m) cs = some ps ∧ picks L fp = some ps
def ClosedAt (L : Led) (fp : List Nat) : Prop := ∀ n ∈ fp, ∃ c, L[n]? = some c ∧ ∀ m ∈ c.locs, m ∈ fp
theorem place_back {fp : List Nat} {m : Nat} : ∀ n k, place fp n = some k → back fp m k = some n := fun n k h => by
  have h1 := place_lt h
  unfold back
  rw [if_pos (List.getElem?_eq_some_iff.mp h1).1]
  exact h1
theorem frame {L : Led} {fp : List Nat} (nd : fp.Nodup) (h : ClosedAt L fp) : ∃ cs, Fr L fp cs := by
  obtain ⟨ps, e1, l1, g1⟩ := picks_ex (L := L) (fp := fp) fun n hn => (h n hn).imp fun c hc => hc.1
  have hren : ∀ c ∈ ps, ∃ d, c.ren (place fp) = some d := fun c hc => by
    obtain ⟨i, hi⟩ := List.getElem?_of_mem hc
    have hl : i < fp.length := by rw [← l1]; exact (List.getElem?_eq_some_iff.mp hi).1
    have e2 := g1 i fp[i] (List.getElem?_eq_getElem hl)
    obtain ⟨c', hc', hm⟩ := h fp[i] (List.getElem_mem hl)
    rw [hi, hc'] at e2
    cases e2
    exact ren_some fun m hm' => place_mem nd (hm m hm')
  obtain ⟨cs, e2⟩ := crens_ex hren
  obtain ⟨l2, g2⟩ := crens_at e2
  refine ⟨cs, nd, by rw [e1]; exact e2, by rw [l2, l1], fun i n c hi hc => ?_, fun d hd m hm => ?_, fun m => ⟨ps, crens_inv place_back e2, e1⟩⟩
  · exact g2 i c (by rw [g1 i n hi]; exact hc)
  · obtain ⟨i, hi⟩ := List.getElem?_of_mem hd
    have hl : i < ps.length := by rw [← l2]; exact (List.getElem?_eq_some_iff.mp hi).1
    obtain ⟨d', h1, h2⟩ := g2 i ps[i] (List.getElem?_eq_getElem hl)
    rw [hi] at h1
    cases h1
    obtain ⟨n, hn⟩ := ren_mem h2 m hm
    rw [l2, l1]
    exact (List.getElem?_eq_some_iff.mp (place_lt hn)).1
section
variable {L cs : Led} {fp : List Nat} {f : Fn} {args as : List Rv} {v : D}
theorem Fr.call (F : Fr L fp cs) (hfp : reach L 3 (dedup [] (args.flatMap Rv.locs)) = fp) (ha : rens (place fp) args = some as) (hf : f as cs = .ok (.d v) cs) : callF f args L = .ok (.d v) L := by
  obtain ⟨ps, e1, e2⟩ := F.bk L.length
  rw [callF_fp hfp ha F.pk hf rfl e1 (Nat.le_of_eq F.len.symm)]
  have l := (crens_at e1).1
  rw [F.len] at l
  rw [← l, List.take_length, List.drop_length, List.append_nil, writes_self e2]
theorem Fr.exc {k : Nat} {xs : List D} (F : Fr L fp cs) (hfp : reach L 3 (dedup [] (args.flatMap Rv.locs)) = fp) (ha : rens (place fp) args = some as) (hf : f as cs = .exc k xs cs) : callF f args L = .exc k xs L := by
  obtain ⟨ps, e1, e2⟩ := F.bk L.length
  rw [callF_fpX hfp ha F.pk hf e1 (Nat.le_of_eq F.len.symm)]
  have l := (crens_at e1).1
  rw [F.len] at l
  rw [← l, List.take_length, List.drop_length, List.append_nil, writes_self e2]
theorem crens_set {g : Nat → Option Nat} {d c : Cell} (hd : d.ren g = some c) : ∀ {xs ys : List Cell} {i : Nat}, crens g xs = some ys → crens g (xs.set i d) = some (ys.set i c)
  | [], ys, i, h => by
    have e : [] = ys := Option.some.inj h
    rw [← e]
    rfl
  | x :: xs, ys, 0, h => by
    obtain ⟨y, zs, h1, h2, rfl⟩ := crens_cons h
    show (d.ren g).bind (fun y => (crens g xs).map (y :: ·)) = _
    rw [hd, h2]
    rfl
  | x :: xs, ys, i + 1, h => by
    obtain ⟨y, zs, h1, h2, rfl⟩ := crens_cons h
    show (x.ren g).bind (fun y => (crens g (xs.set i d)).map (y :: ·)) = _
    rw [h1, crens_set hd h2]
    rfl
theorem writes_set {c : Cell} : ∀ {fp : List Nat} {L : Led} {ps : List Cell} {i n : Nat}, fp.Nodup → picks L fp = some ps → fp[i]? = some n → writes L fp (ps.set i c) = L.set n c
  | [], _, _, _, _, _, _, h => by simp at h
  | m :: r, L, ps, i, n, nd, hp, hi => by
    have h1 : (L[m]?).bind (fun c => (picks L r).map (c :: ·)) = some ps := hp
    cases e1 : L[m]? with
    | none => rw [e1] at h1; cases h1
    | some c' =>
      cases e2 : picks L r with
      | none => rw [e1, e2] at h1; cases h1
      | some qs =>
        rw [e1, e2] at h1
        have h2 : c' :: qs = ps := Option.some.inj h1
        subst h2
        obtain ⟨nd1, nd2⟩ := List.nodup_cons.mp nd
        match i with
        | 0 =>
          have e3 : m = n := Option.some.inj hi
          subst e3
          show writes (L.set m c) r qs = L.set m c
          refine writes_self ?_
          have key : ∀ (r : List Nat) (qs : List Cell), m ∉ r → picks L r = some qs → picks (L.set m c) r = some qs := fun r => by
            induction r with
            | nil => intro qs _ h; exact h
            | cons a r ih =>
              intro qs hm h
              have h3 : (L[a]?).bind (fun c => (picks L r).map (c :: ·)) = some qs := h
              show ((L.set m c)[a]?).bind (fun y => (picks (L.set m c) r).map (y :: ·)) = some qs
              rw [List.getElem?_set_ne (fun z => hm (by rw [z]; exact List.mem_cons_self))]
              cases e4 : L[a]? with
              | none => rw [e4] at h3; cases h3
              | some ca =>
                cases e5 : picks L r with
                | none => rw [e4, e5] at h3; cases h3
                | some q2 =>
                  rw [e4, e5] at h3
                  rw [ih q2 (fun z => hm (List.mem_cons_of_mem _ z)) e5]
                  exact h3
          exact key r qs nd1 e2
        | i + 1 =>
          show writes (L.set m c') r (qs.set i c) = L.set n c
          rw [set_self e1]
          exact writes_set nd2 e2 hi
theorem Fr.set {i n : Nat} {d c : Cell} (F : Fr L fp cs) (hfp : reach L 3 (dedup [] (args.flatMap Rv.locs)) = fp) (ha : rens (place fp) args = some as) (hf : f as cs = .ok (.d v) (cs.set i d)) (hi : fp[i]? = some n) (hd : d.ren (back fp L.length) = some c) : callF f args L = .ok (.d v) (L.set n c) := by
  obtain ⟨ps, e1, e2⟩ := F.bk L.length
  have e3 := crens_set (i := i) hd e1
  have l := (crens_at e1).1
  rw [F.len] at l
  rw [callF_fp hfp ha F.pk hf rfl e3 (by rw [List.length_set, F.len]; exact Nat.le_refl _)]
  have l2 : (ps.set i c).length = fp.length := by rw [List.length_set, l]
  rw [← l2, List.take_length, List.drop_length, List.append_nil, writes_set F.nd e2 hi]
end
section
variable {L : Led} {n c : Nat} {xs : List Rv} {t : List (Nat × Nat)} {v : Rv} {i : Nat}
theorem attr_loc (h : L[n]? = some (.obj c xs)) (hi : ix2 t c = some i) (hv : xs[i]? = some v) : attrV t (.loc n) L = .ok v L := by
  unfold attrV
  simp only [h, hi, Option.bind_some, hv]
theorem setattr_new (h : L[n]? = some (.obj c xs)) (hi : ix2 t c = some xs.length) : setAttrV t (.loc n) v L = .ok () (L.set n (.obj c (xs ++ [v]))) := by
  unfold setAttrV
  simp only [h, hi]
  rw [if_neg (Nat.lt_irrefl _), if_pos trivial]
theorem setattr_old (h : L[n]? = some (.obj c xs)) (hi : ix2 t c = some i) (hl : i < xs.length) : setAttrV t (.loc n) v L = .ok () (L.set n (.obj c (xs.set i v))) := by
  unfold setAttrV
  simp only [h, hi]
  rw [if_pos hl]
theorem Closed.put {c : Cell} (h : Closed L) (hc : ∀ m ∈ c.locs, m < L.length) : Closed (L.set n c) := fun d hd m hm => by
  rw [List.length_set]
  obtain ⟨i, hi⟩ := List.getElem?_of_mem hd
  by_cases e : n = i
  · subst e
    have hl : n < L.length := by rw [← List.length_set (as := L) (i := n) (a := c)]; exact (List.getElem?_eq_some_iff.mp hi).1
    rw [List.getElem?_set_self hl] at hi
    cases hi
    exact hc m hm
  · rw [List.getElem?_set_ne e] at hi
    exact h d (List.mem_of_getElem? hi) m hm
theorem Closed.leave {v : D} (h : Closed L) (k : Nat) (hk : k = L.length) : Dl.leave k (.d v) L = .ok (.d v) L := by
  subst hk
  have := leave_data (L := L) (ex := []) (v := v) h
  rw [List.append_nil] at this
  exact this
theorem Closed.leaveX {j : Nat} {ys : List D} (h : Closed L) (k : Nat) (hk : k = L.length) : Dl.leaveX k j ys L = .exc j ys L := by
  subst hk
  have := leaveX_data (L := L) (ex := []) (k := j) (xs := ys) h
  rw [List.append_nil] at this
  exact this
end
/-- a call with the instance n first, the others data -/
theorem Fr.args {fp : List Nat} {n : Nat} {xs : List D} (nd : fp.Nodup) (h : fp[0]? = some n) : rens (place fp) (.loc n :: xs.map Rv.d) = some (.loc 0 :: xs.map Rv.d) := by
  show ((place fp n).map Rv.loc).bind (fun y => (rens (place fp) (xs.map Rv.d)).map (y :: ·)) = _
  rw [place_at nd h, rens_d]
  rfl
theorem callD_F {f : Fn} {k : Nat} {x : Rv} {xs : List D} {L : Led} (hn : xs.length + 1 = k) : callD f k [] (x :: xs.map Rv.d) L = callF f (x :: xs.map Rv.d) L := by
  unfold callD
  rw [if_pos (by simpa using hn), List.map_nil, List.append_nil]
theorem flat1 {n : Nat} {xs : List D} : (Rv.loc n :: xs.map Rv.d).flatMap Rv.locs = [n] := by
  rw [List.flatMap_cons, locs_d]
  rfl
end Dl

set_option Elab.async false
set_option linter.all false
set_option maxRecDepth 100000
/-! M24: what k24 computes. -/
namespace K24
open Dl Dr K06
open K12 (inF kt oi od KL ky tUn K08s isK in_kinds)
abbrev dr (P R C : Int) : D := .obj 8 [.int P, .int R, .int C, .int 0]
abbrev cn24 (P : D) (R C : Nat) (g : Nat → Nat → Txt) : Led := canon 11 P (mkR R C g)
theorem within_call (s : Txt) (n lo hi : Int) (L : Led) (h : s.length ≤ 100) : callD K24.f_within 4 [] [.d (.str s), .d (.int n), .d (.int lo), .d (.int hi)] L = if lo ≤ n ∧ n ≤ hi then .ok (.d .non) L else .exc 1 [.str s] L := K06.within_call s n lo hi L h
theorem drill_make (a b c : Int) (L : Led) (hL : crens (fun n => if n < L.length then some n else none) L = some L) (h : bad4 a b c 0 = []) : makeD true 8 K24.f_Drill_init 5 [.int 0] [.d (.int a), .d (.int b), .d (.int c)] L = .ok (.d (dr a b c)) L := by
  have e := K06.make_run a b c 0 L hL
  rw [if_pos h] at e
  exact e
theorem cn_a0' {P : D} {R C : Nat} {g : Nat → Nat → Txt} : attrV [(11, 0)] (.loc 0) (cn24 P R C g) = .ok (.d P) (cn24 P R C g) := rfl
theorem cn_a1' {P : D} {R C : Nat} {g : Nat → Nat → Txt} : attrV [(11, 1)] (.loc 0) (cn24 P R C g) = .ok (.loc 1) (cn24 P R C g) := rfl
theorem require_run (P R C r p : Int) : K24.f_Drill_require [.d (dr P R C), .d (.int r), .d (.int p)] [] = if inF R C r p then .ok (.d .non) [] else .exc 3 [.int p, .int r] [] := by
  by_cases h1 : 0 ≤ r
  · by_cases h2 : r < R
    · by_cases h3 : 0 ≤ p
      · by_cases h4 : p < C
        · simp [K24.f_Drill_require, K24.m_Drill_require, defF, attrV, ix2, h1, h2, h3, h4]
        · simp [K24.f_Drill_require, K24.m_Drill_require, defF, attrV, ix2, h1, h2, h3, h4, sRaiseI, pures, K24.m0_OutOfField]
      · simp [K24.f_Drill_require, K24.m_Drill_require, defF, attrV, ix2, h1, h2, h3, sRaiseI, pures, K24.m0_OutOfField]
    · simp [K24.f_Drill_require, K24.m_Drill_require, defF, attrV, ix2, h1, h2, sRaiseI, pures, K24.m0_OutOfField]
  · simp [K24.f_Drill_require, K24.m_Drill_require, defF, attrV, ix2, h1, sRaiseI, pures, K24.m0_OutOfField]
theorem require_call (P R C r p : Int) (L : Led) : callD K24.f_Drill_require 3 [] [.d (dr P R C), .d (.int r), .d (.int p)] L = if inF R C r p then .ok (.d .non) L else .exc 3 [.int p, .int r] L := by
  have e := require_run P R C r p
  by_cases h : inF R C r p
  · rw [if_pos h] at e ⊢
    exact callD_ok (xs := [dr P R C, .int r, .int p]) rfl e
  · rw [if_neg h] at e ⊢
    exact callD_exc (xs := [dr P R C, .int r, .int p]) rfl e
theorem c_dr {P R C : Int} {L : Led} : clsOf L (.d (dr P R C)) = some 8 := rfl
/-! ### the field -/
section
variable {P : Int} {R C : Nat} {g : Nat → Nat → Txt}
theorem get_run (r p : Int) : K24.f_Field___getitem__ [.loc 0, .d (.tup [.int r, .int p])] (cn24 (dr P R C) R C g) = if inF R C r p then .ok (.d (.str (g r.toNat p.toNat))) (cn24 (dr P R C) R C g) else .exc 3 [.int p, .int r] (cn24 (dr P R C) R C g) := by
  have hr := require_call P R C r p (cn24 (dr P R C) R C g)
  by_cases h : inF R C r p
  · rw [if_pos h] at hr ⊢
    have h1 := cnk_ix1 (c := 11) (P := dr P R C) (C := C) (g := g) h.1.1 h.1.2
    have h2 := cnk_ix2 (c := 11) (P := dr P R C) (g := g) (i := r.toNat) (by omega : r.toNat < R) h.2.1 h.2.2
    simp [K24.f_Field___getitem__, K24.m_Field___getitem__, defF, bindP_2, cn_a0', cn_a1', methD, c_dr, hr, h1, h2, cnk_leave]
  · rw [if_neg h] at hr ⊢
    simp [K24.f_Field___getitem__, K24.m_Field___getitem__, defF, bindP_2, cn_a0', cn_a1', methD, c_dr, hr, cnk_leaveX]
theorem set_run (r p : Int) (t : Txt) : K24.f_Field___setitem__ [.loc 0, .d (.tup [.int r, .int p]), .d (.str t)] (cn24 (dr P R C) R C g) = if isK t then (if inF R C r p then .ok (.d .non) (cn24 (dr P R C) R C (upG g r.toNat p.toNat t)) else .exc 3 [.int p, .int r] (cn24 (dr P R C) R C g)) else .exc 2 [] (cn24 (dr P R C) R C g) := by
  have hr := require_call P R C r p (cn24 (dr P R C) R C g)
  by_cases hk : isK t
  · rw [if_pos hk]
    by_cases h : inF R C r p
    · rw [if_pos h] at hr ⊢
      have h1 := cnk_ix1 (c := 11) (P := dr P R C) (C := C) (g := g) h.1.1 h.1.2
      have h2 := cnk_set (c := 11) (P := dr P R C) (g := g) (i := r.toNat) (t := t) (by omega : r.toNat < R) h.2.1 h.2.2
      simp [K24.f_Field___setitem__, K24.m_Field___setitem__, defF, bindP_2, in_kinds, decide_eq_true hk, cn_a0', cn_a1', methD, c_dr, hr, h1, h2, cnk_leave]
    · rw [if_neg h] at hr ⊢
      simp [K24.f_Field___setitem__, K24.m_Field___setitem__, defF, bindP_2, in_kinds, decide_eq_true hk, cn_a0', cn_a1', methD, c_dr, hr, cnk_leaveX]
  · rw [if_neg hk]
    simp [K24.f_Field___setitem__, K24.m_Field___setitem__, defF, bindP_2, in_kinds, decide_eq_false hk, sRaise0, cnk_leaveX]

variable {L : Led} {n s : Nat} {rs : List Nat}
theorem get_call (h : FAt L n s rs 11 (dr P R C) (mkR R C g)) (r p : Int) : callD K24.f_Field___getitem__ 2 [] [.loc n, .d (.tup [.int r, .int p])] L = if inF R C r p then .ok (.d (.str (g r.toNat p.toNat))) L else .exc 3 [.int p, .int r] L := by
  have e := get_run (P := P) (R := R) (C := C) (g := g) r p
  by_cases hi : inF R C r p
  · rw [if_pos hi] at e ⊢
    have := h.call (xs := [.tup [.int r, .int p]]) (k := 2) rfl e rfl
    rw [putF_self h] at this
    exact this
  · rw [if_neg hi] at e ⊢
    have := h.callX (xs := [.tup [.int r, .int p]]) (k := 2) rfl e rfl
    rw [putF_self h] at this
    exact this
theorem set_call (h : FAt L n s rs 11 (dr P R C) (mkR R C g)) (r p : Int) (t : Txt) : callD K24.f_Field___setitem__ 3 [] [.loc n, .d (.tup [.int r, .int p]), .d (.str t)] L = if isK t then (if inF R C r p then .ok (.d .non) (putF L rs (mkR R C (upG g r.toNat p.toNat t))) else .exc 3 [.int p, .int r] L) else .exc 2 [] L := by
  have e := set_run (P := P) (R := R) (C := C) (g := g) r p t
  by_cases hk : isK t
  · rw [if_pos hk] at e ⊢
    by_cases hi : inF R C r p
    · rw [if_pos hi] at e ⊢
      exact h.call (xs := [.tup [.int r, .int p], .str t]) (k := 3) rfl e (by rw [mkR_len, mkR_len])
    · rw [if_neg hi] at e ⊢
      have := h.callX (xs := [.tup [.int r, .int p], .str t]) (k := 3) rfl e rfl
      rw [putF_self h] at this
      exact this
  · rw [if_neg hk] at e ⊢
    have := h.callX (xs := [.tup [.int r, .int p], .str t]) (k := 3) rfl e rfl
    rw [putF_self h] at this
    exact this
theorem set_cn (r p : Int) (t : Txt) : callD K24.f_Field___setitem__ 3 [] [.loc 0, .d (.tup [.int r, .int p]), .d (.str t)] (cn24 (dr P R C) R C g) = if isK t then (if inF R C r p then .ok (.d .non) (cn24 (dr P R C) R C (upG g r.toNat p.toNat t)) else .exc 3 [.int p, .int r] (cn24 (dr P R C) R C g)) else .exc 2 [] (cn24 (dr P R C) R C g) := by
  have h := set_call (canon_at (c := 11) (d := dr P R C) (rows := mkR R C g)) r p t
  rw [putF_canon (by rw [mkR_len, mkR_len])] at h
  exact h
theorem get_cn (r p : Int) : callD K24.f_Field___getitem__ 2 [] [.loc 0, .d (.tup [.int r, .int p])] (cn24 (dr P R C) R C g) = if inF R C r p then .ok (.d (.str (g r.toNat p.toNat))) (cn24 (dr P R C) R C g) else .exc 3 [.int p, .int r] (cn24 (dr P R C) R C g) := get_call canon_at r p
theorem cls_cn {d : D} : clsOf (cn24 d R C g) (.loc 0) = some 11 := rfl
end
/-! ### a new field -/
theorem row_new {C : Nat} (hC : C ≤ 16) (P R : Int) (x2 : Option Rv) (L : Led) : e2 (mulV true) (eN (lstV false) (aC (cE (.str tUn)) aN)) (e1 (attrV [(8, 2)]) (varE 1)) [some (.loc 0), some (.d (dr P R C)), x2] L = .ok (.loc L.length) (L ++ [.lst ((List.range C).map fun _ => .str tUn)]) := by
  have h1 : eN (lstV false) (aC (cE (.str tUn)) aN) [some (.loc 0), some (.d (dr P R C)), x2] L = .ok (.d (.lst [.str tUn])) L := rfl
  have h2 : e1 (attrV [(8, 2)]) (varE 1) [some (.loc 0), some (.d (dr P R C)), x2] L = .ok (.d (.int C)) L := rfl
  have e5 : List.replicate C (D.str tUn) = (List.range C).map fun _ => .str tUn := List.ext_getElem (by simp) fun j h1 h2 => by simp
  rw [e2_run h1 h2, mulV_rep (by omega), e5]
theorem comp_new {C : Nat} (hC : C ≤ 16) (P R : Int) (n : Nat) (h3 : n ≤ 16) : ∀ (k i : Nat) (acc : List Rv) (L : Led), i + k = n → acc.length = i →
    compR (.vals (rangeL 0 n)) (.name 2) tYes (e2 (mulV true) (eN (lstV false) (aC (cE (.str tUn)) aN)) (e1 (attrV [(8, 2)]) (varE 1))) [some (.loc 0), some (.d (dr P R C)), none] k i acc L = .ok (acc ++ (List.range k).map fun j => .loc (L.length + j)) (L ++ List.replicate k (.lst ((List.range C).map fun _ => .str tUn))) := by
  intro k
  induction k with
  | zero =>
    intro i acc L h h2
    have e : compR (.vals (rangeL 0 n)) (.name 2) tYes (e2 (mulV true) (eN (lstV false) (aC (cE (.str tUn)) aN)) (e1 (attrV [(8, 2)]) (varE 1))) [some (.loc 0), some (.d (dr P R C)), none] 0 i acc L = .ok acc L := rfl
    rw [e]
    simp
  | succ k ih =>
    intro i acc L h h2
    have hi : i < (rangeL 0 (n : Int)).length := by rw [rngL_len]; omega
    have e1 : (Src.vals (rangeL 0 n)).get L i = some (.int (0 + i)) := by rw [Dl.vals_at hi, rngL_at]
    have hz : acc.length < SZ := by
      show acc.length < 16777216
      omega
    have hst := compR_step (src := .vals (rangeL 0 n)) (p := .name 2) (c := tYes) (ρ := [some (.loc 0), some (.d (dr P R C)), none]) (k := k) (acc := acc) e1 bindP_n rfl (row_new hC P R (some (.d (.int (0 + i)))) L) hz
    rw [hst, ih (i + 1) _ _ (by omega) (by simp [h2])]
    have e4 : (List.range k).map (fun j => Rv.loc ((L ++ [Cell.lst ((List.range C).map fun _ => D.str tUn)]).length + j)) = (List.range k).map fun j => .loc (L.length + (j + 1)) := by
      apply List.map_congr_left
      intro j _
      rw [List.length_append]
      show Rv.loc (L.length + 1 + j) = _
      rw [Nat.add_assoc, Nat.add_comm 1 j]
    rw [e4, List.range_succ_eq_map, List.map_cons, List.map_map, List.append_assoc, List.append_assoc]
    rfl
theorem finit_run {R C : Nat} (hR : R ≤ 16) (hC : C ≤ 16) (P : Int) : K24.f_Field_init [.loc 0, .d (dr P R C)] [.obj 11 []] = .ok (.d .non) (cn24 (dr P R C) R C fun _ _ => tUn) := by
  have hs : small (R : Int) = true := K08s (by omega) (by omega)
  have hlen : (rangeL 0 (R : Int)).length = R := by rw [rngL_len]; omega
  have hcomp := comp_new hC P R R hR R 0 [] [.obj 11 [.d (dr P R C)]] (by omega) rfl
  have hE : eCompS (iRange1 (e1 (attrV [(8, 1)]) (varE 1))) (.name 2) [2] tYes (e2 (mulV true) (eN (lstV false) (aC (cE (.str tUn)) aN)) (e1 (attrV [(8, 2)]) (varE 1))) [some (.loc 0), some (.d (dr P R C)), none] [.obj 11 [.d (dr P R C)]] = .ok (.loc (R + 1)) ([.obj 11 [.d (dr P R C)]] ++ List.replicate R (.lst ((List.range C).map fun _ => .str tUn)) ++ [.seq ((List.range R).map fun j => .loc (j + 1))]) := by
    have hi : iRange1 (e1 (attrV [(8, 1)]) (varE 1)) [some (.loc 0), some (.d (dr P R C)), none] [.obj 11 [.d (dr P R C)]] = .ok (.vals (rangeL 0 R)) [.obj 11 [.d (dr P R C)]] := iRange1_ok (a := e1 (attrV [(8, 1)]) (varE 1)) rfl hs
    unfold eCompS
    rw [hi]
    show (compR (.vals (rangeL 0 R)) (.name 2) tYes _ [some (.loc 0), some (.d (dr P R C)), none] (rangeL 0 (R : Int)).length 0 [] _).bind _ = _
    rw [hlen, hcomp]
    show Res.ok (Rv.loc _) _ = _
    have e1 : ([Cell.obj 11 [.d (dr P R C)]] ++ List.replicate R (Cell.lst ((List.range C).map fun _ => .str tUn))).length = R + 1 := by simp
    have e2 : ((List.range R).map fun j => Rv.loc ([Cell.obj 11 [.d (dr P R C)]].length + j)) = (List.range R).map fun j => .loc (j + 1) := by
      apply List.map_congr_left
      intro j _
      show Rv.loc (1 + j) = _
      rw [Nat.add_comm]
    rw [e1, List.nil_append, e2]
  have hlast : setAttrV [(11, 1)] (.loc 0) (.loc (R + 1)) ([.obj 11 [.d (dr P R C)]] ++ List.replicate R (.lst ((List.range C).map fun _ => .str tUn)) ++ [.seq ((List.range R).map fun j => .loc (j + 1))]) = .ok () ([.obj 11 [.d (dr P R C), .loc (R + 1)]] ++ List.replicate R (.lst ((List.range C).map fun _ => .str tUn)) ++ [.seq ((List.range R).map fun j => .loc (j + 1))]) := rfl
  have t1 : sAttr [(11, 0)] (varE 0) (varE 1) [some (.loc 0), some (.d (dr P R C)), none] [.obj 11 []] = .next [some (.loc 0), some (.d (dr P R C)), none] [.obj 11 [.d (dr P R C)]] := rfl
  have t2 : sAttr [(11, 1)] (varE 0) (eCompS (iRange1 (e1 (attrV [(8, 1)]) (varE 1))) (.name 2) [2] tYes (e2 (mulV true) (eN (lstV false) (aC (cE (.str tUn)) aN)) (e1 (attrV [(8, 2)]) (varE 1)))) [some (.loc 0), some (.d (dr P R C)), none] [.obj 11 [.d (dr P R C)]] = .next [some (.loc 0), some (.d (dr P R C)), none] ([.obj 11 [.d (dr P R C), .loc (R + 1)]] ++ List.replicate R (.lst ((List.range C).map fun _ => .str tUn)) ++ [.seq ((List.range R).map fun j => .loc (j + 1))]) := attr_run hE rfl hlast
  have hm : K24.m_Field_init [some (.loc 0), some (.d (dr P R C)), none] [.obj 11 []] = .next [some (.loc 0), some (.d (dr P R C)), none] ([.obj 11 [.d (dr P R C), .loc (R + 1)]] ++ List.replicate R (.lst ((List.range C).map fun _ => .str tUn)) ++ [.seq ((List.range R).map fun j => .loc (j + 1))]) := (seq_n t1).trans t2
  have hF : FAt ([.obj 11 [.d (dr P R C), .loc (R + 1)]] ++ List.replicate R (.lst ((List.range C).map fun _ => .str tUn)) ++ [.seq ((List.range R).map fun j => .loc (j + 1))]) 0 (R + 1) ((List.range R).map (· + 1)) 11 (dr P R C) (mkR R C fun _ _ => tUn) := by
    refine ⟨rfl, ?_, by simp [mkR], fun i x hx => ?_, ?_⟩
    · rw [List.getElem?_append_right (by simp), List.map_map]
      simp
    · rw [List.getElem?_map] at hx
      cases e : (List.range R)[i]? with
      | none => rw [e] at hx; cases hx
      | some k =>
        rw [e] at hx
        obtain ⟨h1, h2⟩ := List.getElem?_eq_some_iff.mp e
        rw [List.getElem_range] at h2
        rw [List.length_range] at h1
        have e2 : k + 1 = x := Option.some.inj hx
        have e3 : x = i + 1 := by omega
        rw [e3, mkR_get h1, List.getElem?_append_left (by simp; omega), List.getElem?_append_right (by simp)]
        show (List.replicate R _)[i + 1 - 1]? = _
        rw [Nat.add_sub_cancel, List.getElem?_replicate, if_pos h1]
        rfl
    · rw [List.nodup_cons, List.nodup_cons]
      refine ⟨fun z => ?_, fun z => ?_, ?_⟩
      · rcases List.mem_cons.mp z with z | z
        · omega
        · obtain ⟨j, _, e⟩ := List.mem_map.mp z
          omega
      · obtain ⟨j, hj, e⟩ := List.mem_map.mp z
        have := List.mem_range.mp hj
        omega
      · exact List.Pairwise.map _ (fun a b h z => h (by omega)) List.nodup_range
  exact (defF_next (n := 3) (ps := 2) (m := K24.m_Field_init) (args := [.loc 0, .d (dr P R C)]) rfl hm).trans hF.leave_new
theorem fmake {R C : Nat} (hR : R ≤ 16) (hC : C ≤ 16) (P : Int) (L : Led) : makeD false 11 K24.f_Field_init 2 [] [.d (dr P R C)] L = .ok (.loc L.length) (behind L 11 (dr P R C) (mkR R C fun _ _ => tUn)) := by
  unfold makeD
  rw [if_pos (by rfl), List.map_nil, List.append_nil]
  exact make_new (args := [dr P R C]) (finit_run hR hC P)
/-! ### an inquiry -/
abbrev ru (a b c : Int) : D := .obj 12 [.int a, .int b, .int c]
structure IAt (L : Led) (n f s : Nat) (rs : List Nat) (u : D) (lim : Int) (d : D) (rows : Rows) : Prop where
  o : L[n]? = some (.obj 10 [.loc f, .d u, .d (.int lim)])
  F : FAt L f s rs 11 d rows
  ne : n ∉ f :: s :: rs
section
variable {L cs : Led} {n f s : Nat} {rs : List Nat} {u d : D} {lim : Int} {rows : Rows}
theorem IAt.nd (h : IAt L n f s rs u lim d rows) : (n :: f :: s :: rs).Nodup := List.nodup_cons.mpr ⟨h.ne, h.F.nd⟩
theorem fat_closed (h : FAt L f s rs 11 d rows) : ClosedAt L (f :: s :: rs) := fun m hm => by
  rcases List.mem_cons.mp hm with rfl | hm
  · exact ⟨_, h.o, fun k hk => by
      have : k = s := by simpa [Cell.locs, Rv.locs] using hk
      rw [this]; simp⟩
  · rcases List.mem_cons.mp hm with rfl | hm
    · exact ⟨_, h.q, fun k hk => by
        have : k ∈ rs := by rw [← locs_map rs]; exact hk
        simp [this]⟩
    · obtain ⟨i, hi⟩ := List.getElem?_of_mem hm
      have hl : i < rows.length := by rw [← h.len]; exact (List.getElem?_eq_some_iff.mp hi).1
      have e := h.r i m hi
      rw [List.getElem?_eq_getElem hl] at e
      exact ⟨_, e, fun k hk => by cases hk⟩
theorem IAt.closed (h : IAt L n f s rs u lim d rows) : ClosedAt L (n :: f :: s :: rs) := fun m hm => by
  rcases List.mem_cons.mp hm with rfl | hm
  · exact ⟨_, h.o, fun k hk => by
      have : k = f := by simpa [Cell.locs, Rv.locs] using hk
      rw [this]; simp⟩
  · obtain ⟨c, h1, h2⟩ := fat_closed h.F m hm
    exact ⟨c, h1, fun k hk => List.mem_cons_of_mem _ (h2 k hk)⟩
theorem IAt.reach (h : IAt L n f s rs u lim d rows) : Dl.reach L 3 [n] = n :: f :: s :: rs := by
  have e0 : locsAt L n = [f] := by unfold locsAt; rw [h.o]; rfl
  have e1 : locsAt L f = [s] := by unfold locsAt; rw [h.F.o]; rfl
  have e2 : locsAt L s = rs := by unfold locsAt; rw [h.F.q]; exact locs_map rs
  have nd := h.nd
  have nd1 : ([n] ++ [f]).Nodup := (List.nodup_append.mp (show ([n, f] ++ (s :: rs)).Nodup from nd)).1
  have nd2 : ([n, f] ++ [s]).Nodup := (List.nodup_append.mp (show ([n, f, s] ++ rs).Nodup from nd)).1
  rw [reach_step]
  show Dl.reach L 2 (dedup [n] (locsAt L n ++ [])) = _
  rw [e0, List.append_nil, dedup_app nd1, reach_step]
  show Dl.reach L 1 (dedup [n, f] (locsAt L n ++ (locsAt L f ++ []))) = _
  rw [e0, e1, List.append_nil]
  show Dl.reach L 1 (dedup [n, f] (f :: [s])) = _
  rw [dedup_skip (by simp), dedup_app nd2, reach_step]
  show Dl.reach L 0 (dedup [n, f, s] (locsAt L n ++ (locsAt L f ++ (locsAt L s ++ [])))) = _
  rw [e0, e1, e2, List.append_nil]
  show dedup [n, f, s] (f :: s :: rs) = _
  rw [dedup_skip (by simp), dedup_skip (by simp), dedup_app (by exact nd)]
  rfl
theorem IAt.cls (h : IAt L n f s rs u lim d rows) : clsOf L (.loc n) = some 10 := by
  show (match L[n]? with | some (.obj c _) => some c | _ => none) = some 10
  rw [h.o]
/-- as a def sees it -/
theorem IAt.frame (h : IAt L n f s rs u lim d rows) (F : Fr L (n :: f :: s :: rs) cs) : IAt cs 0 1 2 ((List.range rows.length).map (· + 3)) u lim d rows := by
  have nd := h.nd
  have pf : place (n :: f :: s :: rs) f = some 1 := place_at nd rfl
  have ps : place (n :: f :: s :: rs) s = some 2 := place_at nd rfl
  refine ⟨?_, ⟨?_, ?_, by simp, fun i x hx => ?_, ?_⟩, ?_⟩
  · obtain ⟨c, h1, h2⟩ := F.at_ 0 n _ rfl h.o
    have h3 : (rens (place (n :: f :: s :: rs)) [.loc f, .d u, .d (.int lim)]).map (Cell.obj 10) = some c := h2
    have h4 : rens (place (n :: f :: s :: rs)) [.loc f, .d u, .d (.int lim)] = some [.loc 1, .d u, .d (.int lim)] := by simp [rens, Rv.ren, pf]
    rw [h4] at h3
    rw [h1, ← h3]
    rfl
  · obtain ⟨c, h1, h2⟩ := F.at_ 1 f _ rfl h.F.o
    have h3 : (rens (place (n :: f :: s :: rs)) [.d d, .loc s]).map (Cell.obj 11) = some c := h2
    have h4 : rens (place (n :: f :: s :: rs)) [.d d, .loc s] = some [.d d, .loc 2] := by simp [rens, Rv.ren, ps]
    rw [h4] at h3
    rw [h1, ← h3]
    rfl
  · obtain ⟨c, h1, h2⟩ := F.at_ 2 s _ rfl h.F.q
    have h3 : (rens (place (n :: f :: s :: rs)) (rs.map .loc)).map Cell.seq = some c := h2
    have h4 : rens (place (n :: f :: s :: rs)) (rs.map .loc) = some (((List.range rows.length).map (· + 3)).map .loc) := rens_of (by simp [h.F.len]) fun i x hx => by
      rw [List.getElem?_map] at hx
      cases e1 : rs[i]? with
      | none => rw [e1] at hx; cases hx
      | some y =>
        rw [e1] at hx
        have e2 : Rv.loc y = x := Option.some.inj hx
        rw [← e2]
        have hi : i < rows.length := by rw [← h.F.len]; exact (List.getElem?_eq_some_iff.mp e1).1
        show (place (n :: f :: s :: rs) y).map Rv.loc = _
        rw [place_at (i := i + 3) nd e1, List.getElem?_map, List.getElem?_map, List.getElem?_range hi]
        rfl
    rw [h4] at h3
    rw [h1, ← h3]
    rfl
  · rw [List.getElem?_map] at hx
    cases e : (List.range rows.length)[i]? with
    | none => rw [e] at hx; cases hx
    | some k =>
      rw [e] at hx
      obtain ⟨h1, h2⟩ := List.getElem?_eq_some_iff.mp e
      rw [List.getElem_range] at h2
      rw [List.length_range] at h1
      have e2 : k + 3 = x := Option.some.inj hx
      have e3 : x = i + 3 := by omega
      rw [e3]
      have hl : i < rs.length := by rw [h.F.len]; exact h1
      have e4 := h.F.r i rs[i] (List.getElem?_eq_getElem hl)
      rw [List.getElem?_eq_getElem h1] at e4
      obtain ⟨c, h3, h4⟩ := F.at_ (i + 3) rs[i] _ (by show rs[i]? = _; exact List.getElem?_eq_getElem hl) e4
      have h5 : Cell.lst rows[i] = c := Option.some.inj h4
      rw [h3, ← h5, List.getElem?_eq_getElem h1]
      rfl
  · rw [List.nodup_cons, List.nodup_cons]
    refine ⟨by simp, by simp, ?_⟩
    exact List.Pairwise.map _ (fun a b h z => h (by omega)) List.nodup_range
  · simp
/-! #### its limit -/
theorem limit_call (h : IAt L n f s rs u lim d rows) : callD K24.f_Inquiry_limit 1 [] [.loc n] L = .ok (.d (.int lim)) L := by
  obtain ⟨cs, F⟩ := frame h.nd h.closed
  have hc := h.frame F
  have e := callD_F (f := K24.f_Inquiry_limit) (k := 1) (x := .loc n) (xs := []) (L := L) rfl
  refine e.trans (F.call (as := [.loc 0]) h.reach (Fr.args (xs := []) h.nd rfl) ?_)
  have a1 : attrV [(10, 2)] (.loc 0) cs = .ok (.d (.int lim)) cs := attr_loc hc.o rfl rfl
  have m1 : K24.m_Inquiry_limit [some (.loc 0)] cs = .ret (.d (.int lim)) cs := by simp [K24.m_Inquiry_limit, a1]
  exact (defF_ret (n := 1) (ps := 1) (m := K24.m_Inquiry_limit) (args := [.loc 0]) rfl m1).trans (F.cl.leave _ rfl)
theorem prop_run (h : IAt L n f s rs u lim d rows) {ρ : Env} {e : DE} (he : e ρ L = .ok (.loc n) L) : propD 10 K24.f_Inquiry_limit e ρ L = .ok (.d (.int lim)) L := by
  unfold propD
  rw [he, Res.bind_ok, if_pos h.cls, limit_call h]
abbrev tLim : Txt := [108, 105, 109, 105, 116]
theorem back0 {fp : List Nat} {n f m : Nat} {u : D} {v : Int} (h1 : fp[1]? = some f) : (Cell.obj 10 [.loc 1, .d u, .d (.int v)]).ren (back fp m) = some (.obj 10 [.loc f, .d u, .d (.int v)]) := by
  have hl := (List.getElem?_eq_some_iff.mp h1).1
  have e : back fp m 1 = some f := by
    unfold back
    rw [if_pos hl]
    exact h1
  show (rens (back fp m) [.loc 1, .d u, .d (.int v)]).map _ = _
  simp [rens, Rv.ren, e]
theorem setter_call (h : IAt L n f s rs u lim d rows) (v : Int) : callD K24.f_Inquiry_limit_set 2 [] [.loc n, .d (.int v)] L = if 0 ≤ v ∧ v ≤ 8 then .ok (.d .non) (L.set n (.obj 10 [.loc f, .d u, .d (.int v)])) else .exc 1 [.str tLim] L := by
  obtain ⟨cs, F⟩ := frame h.nd h.closed
  have hc := h.frame F
  have w := within_call tLim v 0 8 cs (by decide)
  by_cases hv : 0 ≤ v ∧ v ≤ 8
  · rw [if_pos hv] at w ⊢
    refine (callD_F (xs := [.int v]) rfl).trans (F.set (i := 0) (d := .obj 10 [.loc 1, .d u, .d (.int v)]) (as := [.loc 0, .d (.int v)]) h.reach (Fr.args (xs := [.int v]) h.nd rfl) ?_ rfl (back0 (n := n) rfl))
    have a1 : setAttrV [(10, 2)] (.loc 0) (.d (.int v)) cs = .ok () (cs.set 0 (.obj 10 [.loc 1, .d u, .d (.int v)])) := setattr_old (i := 2) hc.o rfl (by show 2 < 3; decide)
    have m1 : K24.m_Inquiry_limit_set [some (.loc 0), oi v] cs = .next [some (.loc 0), oi v] (cs.set 0 (.obj 10 [.loc 1, .d u, .d (.int v)])) := by simp [K24.m_Inquiry_limit_set, w, a1]
    have hcl : Closed (cs.set 0 (.obj 10 [.loc 1, .d u, .d (.int v)])) := F.cl.put fun m hm => by
      have : m = 1 := by simpa [Cell.locs, Rv.locs] using hm
      rw [this, F.len]
      simp
    exact (defF_next (n := 2) (ps := 2) (m := K24.m_Inquiry_limit_set) (args := [.loc 0, .d (.int v)]) rfl m1).trans (hcl.leave _ (by rw [List.length_set]))
  · rw [if_neg hv] at w ⊢
    refine (callD_F (xs := [.int v]) rfl).trans (F.exc (as := [.loc 0, .d (.int v)]) h.reach (Fr.args (xs := [.int v]) h.nd rfl) ?_)
    have m1 : K24.m_Inquiry_limit_set [some (.loc 0), oi v] cs = .exc 1 [.str tLim] [some (.loc 0), oi v] cs := by simp [K24.m_Inquiry_limit_set, w]
    exact (defF_exc (n := 2) (ps := 2) (m := K24.m_Inquiry_limit_set) (args := [.loc 0, .d (.int v)]) rfl m1).trans (F.cl.leaveX _ rfl)
theorem allow_call (h : IAt L n f s rs u lim d rows) (v : Int) : callD K24.f_Inquiry_allow 2 [] [.loc n, .d (.int v)] L = if 0 ≤ v ∧ v ≤ 8 then .ok (.d .non) (L.set n (.obj 10 [.loc f, .d u, .d (.int v)])) else .exc 1 [.str tLim] L := by
  obtain ⟨cs, F⟩ := frame h.nd h.closed
  have hc := h.frame F
  have w := setter_call hc v
  have cl := hc.cls
  by_cases hv : 0 ≤ v ∧ v ≤ 8
  · rw [if_pos hv] at w ⊢
    refine (callD_F (xs := [.int v]) rfl).trans (F.set (i := 0) (d := .obj 10 [.loc 1, .d u, .d (.int v)]) (as := [.loc 0, .d (.int v)]) h.reach (Fr.args (xs := [.int v]) h.nd rfl) ?_ rfl (back0 (n := n) rfl))
    have m1 : K24.m_Inquiry_allow [some (.loc 0), oi v] cs = .next [some (.loc 0), oi v] (cs.set 0 (.obj 10 [.loc 1, .d u, .d (.int v)])) := by simp [K24.m_Inquiry_allow, sPropO, cl, w]
    have hcl : Closed (cs.set 0 (.obj 10 [.loc 1, .d u, .d (.int v)])) := F.cl.put fun m hm => by
      have : m = 1 := by simpa [Cell.locs, Rv.locs] using hm
      rw [this, F.len]
      simp
    exact (defF_next (n := 2) (ps := 2) (m := K24.m_Inquiry_allow) (args := [.loc 0, .d (.int v)]) rfl m1).trans (hcl.leave _ (by rw [List.length_set]))
  · rw [if_neg hv] at w ⊢
    refine (callD_F (xs := [.int v]) rfl).trans (F.exc (as := [.loc 0, .d (.int v)]) h.reach (Fr.args (xs := [.int v]) h.nd rfl) ?_)
    have m1 : K24.m_Inquiry_allow [some (.loc 0), oi v] cs = .exc 1 [.str tLim] [some (.loc 0), oi v] cs := by simp [K24.m_Inquiry_allow, sPropO, cl, w]
    exact (defF_exc (n := 2) (ps := 2) (m := K24.m_Inquiry_allow) (args := [.loc 0, .d (.int v)]) rfl m1).trans (F.cl.leaveX _ rfl)
abbrev tX : Txt := [114, 101, 102, 117, 115, 101, 100]
def allowD (v : Int) : D := if 0 ≤ v ∧ v ≤ 8 then .lst [.non] else .lst [.str tX, .str tLim]
theorem lallow_call (h : IAt L n f s rs u lim d rows) (v : Int) : callD K24.f__law_allowed 2 [] [.loc n, .d (.int v)] L = .ok (.d (allowD v)) (if 0 ≤ v ∧ v ≤ 8 then L.set n (.obj 10 [.loc f, .d u, .d (.int v)]) else L) := by
  obtain ⟨cs, F⟩ := frame h.nd h.closed
  have hc := h.frame F
  have w := allow_call hc v
  have cl := hc.cls
  unfold allowD
  by_cases hv : 0 ≤ v ∧ v ≤ 8
  · rw [if_pos hv] at w ⊢
    rw [if_pos hv]
    refine (callD_F (xs := [.int v]) rfl).trans (F.set (i := 0) (d := .obj 10 [.loc 1, .d u, .d (.int v)]) (as := [.loc 0, .d (.int v)]) h.reach (Fr.args (xs := [.int v]) h.nd rfl) ?_ rfl (back0 (n := n) rfl))
    have m1 : K24.m__law_allowed [some (.loc 0), oi v, none, none] cs = .ret (.d (.lst [.non])) (cs.set 0 (.obj 10 [.loc 1, .d u, .d (.int v)])) := by simp [K24.m__law_allowed, sTry, methD, cl, w, lstV, pures, SZ, mkL]
    have hcl : Closed (cs.set 0 (.obj 10 [.loc 1, .d u, .d (.int v)])) := F.cl.put fun m hm => by
      have : m = 1 := by simpa [Cell.locs, Rv.locs] using hm
      rw [this, F.len]
      simp
    exact (defF_ret (n := 4) (ps := 2) (m := K24.m__law_allowed) (args := [.loc 0, .d (.int v)]) rfl m1).trans (hcl.leave _ (by rw [List.length_set]))
  · rw [if_neg hv] at w ⊢
    rw [if_neg hv]
    refine (callD_F (xs := [.int v]) rfl).trans (F.call (as := [.loc 0, .d (.int v)]) h.reach (Fr.args (xs := [.int v]) h.nd rfl) ?_)
    have m1 : K24.m__law_allowed [some (.loc 0), oi v, none, none] cs = .ret (.d (.lst [.str tX, .str tLim])) cs := by simp [K24.m__law_allowed, sTry, methD, cl, w, handle, K24.sub, slotOk, forget, eIsE, isEs, isE, tupV, pures, SZ, Flow.out, excE, lstV, mkL]
    exact (defF_ret (n := 4) (ps := 2) (m := K24.m__law_allowed) (args := [.loc 0, .d (.int v)]) rfl m1).trans (F.cl.leave _ rfl)
/-! ### a new inquiry -/
theorem fat_app (h : FAt L f s rs 11 d rows) (r : Led) : FAt (L ++ r) f s rs 11 d rows := by
  have g : ∀ {j : Nat} {c : Cell}, L[j]? = some c → (L ++ r)[j]? = some c := fun {j c} e => by
    rw [List.getElem?_append_left (List.getElem?_eq_some_iff.mp e).1]
    exact e
  refine ⟨g h.o, g h.q, h.len, fun i x hx => ?_, h.nd⟩
  have hl : i < rows.length := by rw [← h.len]; exact (List.getElem?_eq_some_iff.mp hx).1
  have e := h.r i x hx
  rw [List.getElem?_eq_getElem hl] at e ⊢
  exact g e
theorem fat_lt (h : FAt L f s rs 11 d rows) : ∀ m ∈ f :: s :: rs, m < L.length := fun m hm => by
  obtain ⟨c, h1, _⟩ := fat_closed h m hm
  exact (List.getElem?_eq_some_iff.mp h1).1
theorem inq_make (h : FAt L f s rs 11 d rows) (v : Int) : callF K24.f_Inquiry_init [.loc L.length, .loc f, .d u, .d (.int v)] (L ++ [.obj 10 []]) = if 0 ≤ v ∧ v ≤ 8 then .ok (.d .non) (L ++ [.obj 10 [.loc f, .d u, .d (.int v)]]) else .exc 1 [.str tLim] (L ++ [.obj 10 []]) := by
  have h' := fat_app h [.obj 10 []]
  have hn : (L ++ [Cell.obj 10 []])[L.length]? = some (.obj 10 []) := by simp
  have hne : L.length ∉ f :: s :: rs := fun z => Nat.lt_irrefl _ (fat_lt h _ z)
  have nd : (L.length :: f :: s :: rs).Nodup := List.nodup_cons.mpr ⟨hne, h.nd⟩
  have hcl : ClosedAt (L ++ [Cell.obj 10 []]) (L.length :: f :: s :: rs) := fun m hm => by
    rcases List.mem_cons.mp hm with rfl | hm
    · exact ⟨_, hn, fun k hk => by cases hk⟩
    · obtain ⟨c, h1, h2⟩ := fat_closed h' m hm
      exact ⟨c, h1, fun k hk => List.mem_cons_of_mem _ (h2 k hk)⟩
  have hr : Dl.reach (L ++ [Cell.obj 10 []]) 3 (dedup [] ([Rv.loc L.length, .loc f, .d u, .d (.int v)].flatMap Rv.locs)) = L.length :: f :: s :: rs := by
    have e0 : locsAt (L ++ [Cell.obj 10 []]) L.length = [] := by unfold locsAt; rw [hn]; rfl
    have e1 : locsAt (L ++ [Cell.obj 10 []]) f = [s] := by unfold locsAt; rw [h'.o]; rfl
    have e2 : locsAt (L ++ [Cell.obj 10 []]) s = rs := by unfold locsAt; rw [h'.q]; exact locs_map rs
    have nd0 : ([] ++ [L.length, f]).Nodup := (List.nodup_append.mp (show ([L.length, f] ++ (s :: rs)).Nodup from nd)).1
    have nd1 : ([L.length, f] ++ [s]).Nodup := (List.nodup_append.mp (show ([L.length, f, s] ++ rs).Nodup from nd)).1
    show Dl.reach _ 3 (dedup [] [L.length, f]) = _
    rw [dedup_app nd0, List.nil_append, reach_step]
    show Dl.reach _ 2 (dedup [L.length, f] (locsAt _ L.length ++ (locsAt _ f ++ []))) = _
    rw [e0, e1, List.append_nil, List.nil_append, dedup_app nd1, reach_step]
    show Dl.reach _ 1 (dedup [L.length, f, s] (locsAt _ L.length ++ (locsAt _ f ++ (locsAt _ s ++ [])))) = _
    rw [e0, e1, e2, List.append_nil, List.nil_append]
    show Dl.reach _ 1 (dedup [L.length, f, s] (s :: rs)) = _
    rw [dedup_skip (by simp), dedup_app (by exact nd)]
    exact reach_same (fun m hm c hc k hk => by
      obtain ⟨c', h1, h2⟩ := hcl m hm
      rw [hc] at h1
      cases h1
      exact h2 k hk) 1
  obtain ⟨cs, F⟩ := frame nd hcl
  have ha : rens (place (L.length :: f :: s :: rs)) [.loc L.length, .loc f, .d u, .d (.int v)] = some [.loc 0, .loc 1, .d u, .d (.int v)] := by
    have p0 : place (L.length :: f :: s :: rs) L.length = some 0 := place_at nd rfl
    have p1 : place (L.length :: f :: s :: rs) f = some 1 := place_at nd rfl
    simp [rens, Rv.ren, p0, p1]
  have h0 : cs[0]? = some (.obj 10 []) := by
    obtain ⟨c, h1, h2⟩ := F.at_ 0 L.length _ rfl hn
    cases (Option.some.inj h2 : Cell.obj 10 [] = c)
    exact h1
  have hl0 : 0 < cs.length := by rw [F.len]; simp
  have w := within_call tLim v 0 8 cs (by decide)
  by_cases hv : 0 ≤ v ∧ v ≤ 8
  · rw [if_pos hv] at w ⊢
    have a1 : setAttrV [(10, 0)] (.loc 0) (.loc 1) cs = .ok () (cs.set 0 (.obj 10 [.loc 1])) := setattr_new h0 rfl
    have a2 : setAttrV [(10, 1)] (.loc 0) (.d u) (cs.set 0 (.obj 10 [.loc 1])) = .ok () (cs.set 0 (.obj 10 [.loc 1, .d u])) := by
      rw [setattr_new (xs := [.loc 1]) (List.getElem?_set_self hl0) rfl, List.set_set]
      rfl
    have a3 : setAttrV [(10, 2)] (.loc 0) (.d (.int v)) (cs.set 0 (.obj 10 [.loc 1, .d u])) = .ok () (cs.set 0 (.obj 10 [.loc 1, .d u, .d (.int v)])) := by
      rw [setattr_new (xs := [.loc 1, .d u]) (List.getElem?_set_self hl0) rfl, List.set_set]
      rfl
    have m1 : K24.m_Inquiry_init [some (.loc 0), some (.loc 1), od u, oi v] cs = .next [some (.loc 0), some (.loc 1), od u, oi v] (cs.set 0 (.obj 10 [.loc 1, .d u, .d (.int v)])) := by simp [K24.m_Inquiry_init, w, a1, a2, a3]
    have hc2 : Closed (cs.set 0 (.obj 10 [.loc 1, .d u, .d (.int v)])) := F.cl.put fun m hm => by
      have : m = 1 := by simpa [Cell.locs, Rv.locs] using hm
      rw [this, F.len]
      simp
    have hf := (defF_next (n := 4) (ps := 4) (m := K24.m_Inquiry_init) (args := [.loc 0, .loc 1, .d u, .d (.int v)]) rfl m1).trans (hc2.leave _ (by rw [List.length_set]))
    have e := F.set (i := 0) (n := L.length) hr ha hf rfl (back0 (n := L.length) rfl)
    have e2 : (L ++ [Cell.obj 10 []]).set L.length (.obj 10 [.loc f, .d u, .d (.int v)]) = L ++ [.obj 10 [.loc f, .d u, .d (.int v)]] := by simp
    rw [e2] at e
    exact e
  · rw [if_neg hv] at w ⊢
    have m1 : K24.m_Inquiry_init [some (.loc 0), some (.loc 1), od u, oi v] cs = .exc 1 [.str tLim] [some (.loc 0), some (.loc 1), od u, oi v] cs := by simp [K24.m_Inquiry_init, w]
    have hf := (defF_exc (n := 4) (ps := 4) (m := K24.m_Inquiry_init) (args := [.loc 0, .loc 1, .d u, .d (.int v)]) rfl m1).trans (F.cl.leaveX _ rfl)
    exact F.exc hr ha hf
theorem inq_new (h : FAt L f s rs 11 d rows) (v : Int) : makeF false 10 K24.f_Inquiry_init [.loc f, .d u, .d (.int v)] L = if 0 ≤ v ∧ v ≤ 8 then .ok (.loc L.length) (L ++ [.obj 10 [.loc f, .d u, .d (.int v)]]) else .exc 1 [.str tLim] (L ++ [.obj 10 []]) := by
  have e := inq_make (u := u) h v
  unfold makeF
  by_cases hv : 0 ≤ v ∧ v ≤ 8
  · rw [if_pos hv] at e ⊢
    rw [e]
    rfl
  · rw [if_neg hv] at e ⊢
    rw [e]
    rfl
theorem inq_at (h : FAt L f s rs 11 d rows) (r : Led) (v : Int) : IAt (L ++ .obj 10 [.loc f, .d u, .d (.int v)] :: r) L.length f s rs u v d rows :=
  ⟨by simp, fat_app h _, fun z => Nat.lt_irrefl _ (fat_lt h _ z)⟩
def madeD (v : Int) : D := if 0 ≤ v ∧ v ≤ 8 then .lst [.int v] else .lst [.str tX, .str tLim]
theorem made_call (h : FAt L f s rs 11 d rows) (v : Int) : callD K24.f__law_made 3 [] [.loc f, .d u, .d (.int v)] L = .ok (.d (madeD v)) L := by
  have hc := canon_at (c := 11) (d := d) (rows := rows)
  have e := inq_new (u := u) hc v
  unfold madeD
  by_cases hv : 0 ≤ v ∧ v ≤ 8
  · rw [if_pos hv] at e ⊢
    have hi := inq_at (u := u) hc [] v
    have pr := prop_run hi (ρ := [some (.loc 0), od u, oi v, some (.loc (canon 11 d rows).length), none]) (e := varE 3) rfl
    have m1 : K24.m__law_made [some (.loc 0), od u, oi v, none, none] (canon 11 d rows) = .ret (.d (.lst [.int v])) (canon 11 d rows ++ [.obj 10 [.loc 0, .d u, .d (.int v)]]) := by
      simp [K24.m__law_made, sTry, makeK, mkk_Inquiry_2_limit_g, e, pr, lstV, pures, SZ, mkL]
    have := h.call (f := K24.f__law_made) (xs := [u, .int v]) (k := 3) (v := .lst [.int v]) (rows' := rows) rfl ((defF_ret (n := 5) (ps := 3) (m := K24.m__law_made) (args := [.loc 0, .d u, .d (.int v)]) rfl m1).trans (leave_data canon_closed)) rfl
    rw [putF_self h] at this
    exact this
  · rw [if_neg hv] at e ⊢
    have m1 : K24.m__law_made [some (.loc 0), od u, oi v, none, none] (canon 11 d rows) = .ret (.d (.lst [.str tX, .str tLim])) (canon 11 d rows ++ [.obj 10 []]) := by
      simp [K24.m__law_made, sTry, makeK, mkk_Inquiry_2_limit_g, e, handle, K24.sub, slotOk, forget, eIsE, isEs, isE, tupV, pures, SZ, Flow.out, excE, lstV, mkL]
    have := h.call (f := K24.f__law_made) (xs := [u, .int v]) (k := 3) (v := .lst [.str tX, .str tLim]) (rows' := rows) rfl ((defF_ret (n := 5) (ps := 3) (m := K24.m__law_made) (args := [.loc 0, .d u, .d (.int v)]) rfl m1).trans (leave_data canon_closed)) rfl
    rw [putF_self h] at this
    exact this
end
/-! ### the rules -/
theorem rinit_run {a b c : Int} (h1 : 1 ≤ a ∧ a ≤ 16) (h2 : a ≤ b ∧ b ≤ 16) (h3 : 1 ≤ c ∧ c ≤ 16) : K24.f_Rules_init [.loc 0, .d (.int a), .d (.int b), .d (.int c)] [.obj 12 []] = .ok (.d .non) [.obj 12 [.d (.int a), .d (.int b), .d (.int c)]] := by
  simp [K24.f_Rules_init, K24.m_Rules_init, defF, within_call, h1, h2, h3, setAttrV, ix2, leave, dedup, reach, Rv.locs, Rv.ren, picks, crens, Cell.locs, Cell.ren, rens, place]
theorem rules_make {a b c : Int} (h1 : 1 ≤ a ∧ a ≤ 16) (h2 : a ≤ b ∧ b ≤ 16) (h3 : 1 ≤ c ∧ c ≤ 16) (L : Led) (hL : crens (fun n => if n < L.length then some n else none) L = some L) : makeF true 12 K24.f_Rules_init [.d (.int a), .d (.int b), .d (.int c)] L = .ok (.d (ru a b c)) L := by
  have e1 : (L ++ [Cell.obj 12 []])[L.length]? = some (.obj 12 []) := by simp
  have e2 : ∀ x, (L ++ [Cell.obj 12 []]).set L.length x = L ++ [x] := fun x => by simp
  have hn : callF K24.f_Rules_init [.loc L.length, .d (.int a), .d (.int b), .d (.int c)] (L ++ [.obj 12 []]) = .ok (.d .non) (L ++ [.obj 12 [.d (.int a), .d (.int b), .d (.int c)]]) := by
    simp [callF, Rv.locs, dedup, reach, rens, Rv.ren, picks, crens, Cell.ren, Cell.locs, place, rinit_run h1 h2 h3, writes, e1, List.findIdx?_cons, e2]
  simp [makeF, hn, pures, hL]
theorem dr0 {st : Cell} {r : Led} {many : Int} (h : StOk st) (h4 : 0 < many) (h5 : many < 2 ^ 62) : ∃ v st', callD K24.f__law_draw 2 [] [.loc 0, .d (.int many)] (st :: r) = .ok (.d (.int v)) (st' :: r) ∧ 0 ≤ v ∧ v < many ∧ StOk st' := draw0 h h4 h5
structure Num3 (a b c : Int) : Prop where
  a_ : 1 ≤ a ∧ a ≤ 16
  b_ : a ≤ b ∧ b ≤ 16
  c_ : 1 ≤ c ∧ c ≤ 16
theorem numbers_run {st : Cell} (h : StOk st) : ∃ a b c st', K24.f__law_numbers [.loc 0] [st] = .ok (.d (.lst [.int a, .int b, .int c])) [st'] ∧ StOk st' ∧ Num3 a b c := by
  obtain ⟨v1, s1, e1, l1, u1, k1⟩ := dr0 (r := []) (many := 3) h (by decide) (by decide)
  obtain ⟨v2, s2, e2, l2, u2, k2⟩ := dr0 (r := []) (many := 4) k1 (by decide) (by decide)
  obtain ⟨v3, s3, e3, l3, u3, k3⟩ := dr0 (r := []) (many := 3) k2 (by decide) (by decide)
  obtain ⟨v4, s4, e4, l4, u4, k4⟩ := dr0 (r := []) (many := 8) k3 (by decide) (by decide)
  by_cases hv : v4 = 7
  · obtain ⟨v5, s5, e5, l5, u5, k5⟩ := dr0 (r := []) (many := 16) k4 (by decide) (by decide)
    obtain ⟨v6, s6, e6, l6, u6, k6⟩ := dr0 (r := []) (many := 17 - (1 + v5)) k5 (by omega) (by omega)
    obtain ⟨v7, s7, e7, l7, u7, k7⟩ := dr0 (r := []) (many := 16) k6 (by decide) (by decide)
    refine ⟨1 + v5, 1 + v5 + v6, 1 + v7, s7, ?_, k7, ⟨by omega, by omega, by omega⟩⟩
    simp [K24.f__law_numbers, K24.m__law_numbers, defF, e1, e2, e3, e4, hv, e5, e6, e7, lstV, pures, SZ, mkL, leave_one (K12.StOk.flat k7)]
  · refine ⟨1 + v1, 1 + v1 + v2, 1 + v3, s4, ?_, k4, ⟨by omega, by omega, by omega⟩⟩
    simp [K24.f__law_numbers, K24.m__law_numbers, defF, e1, e2, e3, e4, hv, lstV, pures, SZ, mkL, leave_one (K12.StOk.flat k4)]
/-! ### the law -/
def LB (st : Cell) (d : D) (rows : Rows) (ex : Led) : Led := behind [st] 11 d rows ++ ex
def TB (d : D) (rows : Rows) (ex : Led) : Led := .obj 11 [.d d, .loc 2] :: .seq ((List.range rows.length).map fun i => .loc (i + 3)) :: rows.map .lst ++ ex
theorem LB_eq {st : Cell} {d : D} {rows : Rows} {ex : Led} : LB st d rows ex = st :: TB d rows ex := rfl
section
variable {st : Cell} {d : D} {rows : Rows} {ex : Led}
theorem lb_draw {many : Int} (h : StOk st) (h4 : 0 < many) (h5 : many < 2 ^ 62) : ∃ v st', callD K24.f__law_draw 2 [] [.loc 0, .d (.int many)] (LB st d rows ex) = .ok (.d (.int v)) (LB st' d rows ex) ∧ 0 ≤ v ∧ v < many ∧ StOk st' := by
  obtain ⟨v, st', e, h1⟩ := dr0 (r := TB d rows ex) h h4 h5
  exact ⟨v, st', by rw [LB_eq, LB_eq]; exact e, h1⟩
theorem lb_numbers (h : StOk st) : ∃ a b c st', callD K24.f__law_numbers 1 [] [.loc 0] (LB st d rows ex) = .ok (.d (.lst [.int a, .int b, .int c])) (LB st' d rows ex) ∧ StOk st' ∧ Num3 a b c := by
  obtain ⟨a, b, c, st', e, k, n⟩ := numbers_run h
  refine ⟨a, b, c, st', ?_, k, n⟩
  rw [LB_eq, LB_eq]
  exact callD_one (xs := []) (n := 1) rfl rfl (K12.StOk.flat h) (K12.StOk.flat k) e
theorem lb_at : FAt (LB st d rows ex) 1 2 ((List.range rows.length).map (· + 3)) 11 d rows := behind_at (L := [st]) (r := ex)
theorem lb_len : (LB st d rows ex).length = rows.length + 3 + ex.length := by
  show (behind [st] 11 d rows ++ ex).length = _
  rw [List.length_append, behind_len]
  show 1 + (rows.length + 2) + ex.length = _
  omega
theorem lb_put {rows' : Rows} (hl : rows'.length = rows.length) : putF (LB st d rows ex) ((List.range rows.length).map (· + 3)) rows' = LB st d rows' ex := behind_put (L := [st]) (r := ex) hl
theorem lb_ex {i : Nat} : (LB st d rows ex)[rows.length + 3 + i]? = ex[i]? := by
  have : (behind [st] 11 d rows).length = rows.length + 3 := by
    rw [behind_len]
    show 1 + (rows.length + 2) = _
    omega
  show (behind [st] 11 d rows ++ ex)[_]? = _
  rw [List.getElem?_append_right (by omega), this, Nat.add_sub_cancel_left]
theorem lb_set {i : Nat} {c : Cell} : (LB st d rows ex).set (rows.length + 3 + i) c = LB st d rows (ex.set i c) := by
  have : (behind [st] 11 d rows).length = rows.length + 3 := by
    rw [behind_len]
    show 1 + (rows.length + 2) = _
    omega
  show (behind [st] 11 d rows ++ ex).set _ c = behind [st] 11 d rows ++ ex.set i c
  rw [List.set_append_right _ _ (by omega), this, Nat.add_sub_cancel_left]
theorem lb_id (h : StOk st) (hx : ∀ c ∈ ex, ∀ m ∈ c.locs, m < (LB st d rows ex).length) : crens (fun n => if n < (LB st d rows ex).length then some n else none) (LB st d rows ex) = some (LB st d rows ex) := crens_all fun c hc => ren_id fun m hm => by
  have hl := lb_len (st := st) (d := d) (rows := rows) (ex := ex)
  have : m < (LB st d rows ex).length := by
    rw [LB_eq] at hc
    rcases List.mem_cons.mp hc with rfl | hc
    · rw [h.locs] at hm
      cases hm
    · unfold TB at hc
      rcases List.mem_append.mp hc with hc | hc
      · rcases List.mem_cons.mp hc with rfl | hc
        · have : m = 2 := by simpa [Cell.locs, Rv.locs] using hm
          omega
        · rcases List.mem_cons.mp hc with rfl | hc
          · have h2 : m ∈ ((List.range rows.length).map fun i => Rv.loc (i + 3)).flatMap Rv.locs := hm
            obtain ⟨x, hx, h3⟩ := List.mem_flatMap.mp h2
            obtain ⟨i, hi, e⟩ := List.mem_map.mp hx
            rw [← e] at h3
            have : m = i + 3 := by simpa [Rv.locs] using h3
            have := List.mem_range.mp hi
            omega
          · obtain ⟨r, _, e⟩ := List.mem_map.mp hc
            rw [← e] at hm
            cases hm
      · exact hx c hc m hm
  rw [if_pos this]
end
abbrev iq (u : D) (l : Int) : Cell := .obj 10 [.loc 1, .d u, .d (.int l)]
section
variable {st : Cell} {d u : D} {rows : Rows} {l1 l2 : Int}
theorem iq1_at : IAt (LB st d rows [iq u l1, iq u l2]) (rows.length + 3) 1 2 ((List.range rows.length).map (· + 3)) u l1 d rows := by
  refine ⟨lb_ex (i := 0), lb_at, fun z => ?_⟩
  rcases List.mem_cons.mp z with z | z
  · omega
  · rcases List.mem_cons.mp z with z | z
    · omega
    · obtain ⟨j, hj, e⟩ := List.mem_map.mp z
      have := List.mem_range.mp hj
      omega
theorem iq2_at : IAt (LB st d rows [iq u l1, iq u l2]) (rows.length + 3 + 1) 1 2 ((List.range rows.length).map (· + 3)) u l2 d rows := by
  refine ⟨lb_ex (i := 1), lb_at, fun z => ?_⟩
  rcases List.mem_cons.mp z with z | z
  · omega
  · rcases List.mem_cons.mp z with z | z
    · omega
    · obtain ⟨j, hj, e⟩ := List.mem_map.mp z
      have := List.mem_range.mp hj
      omega
theorem allow_l (v : Int) : callD K24.f__law_allowed 2 [] [.loc (rows.length + 3), .d (.int v)] (LB st d rows [iq u l1, iq u l2]) = .ok (.d (allowD v)) (LB st d rows [iq u (if 0 ≤ v ∧ v ≤ 8 then v else l1), iq u l2]) := by
  rw [lallow_call iq1_at v]
  by_cases hv : 0 ≤ v ∧ v ≤ 8
  · rw [if_pos hv, if_pos hv]
    exact congrArg _ (lb_set (i := 0))
  · rw [if_neg hv, if_neg hv]
theorem made_l (v : Int) : callD K24.f__law_made 3 [] [.loc 1, .d u, .d (.int v)] (LB st d rows [iq u l1, iq u l2]) = .ok (.d (madeD v)) (LB st d rows [iq u l1, iq u l2]) := made_call lb_at v
theorem number_call (a : Int) (L : Led) : callD K24.f__law_number 1 [] [.d (.int a)] L = .ok (.d (.bl true)) L := K06.number_run a L
theorem madeD_eq (v : Int) (L : Led) (n : Bool) : eqV n (.d (madeD v)) (.d (madeD v)) L = .ok (.d (.bl (!n))) L := by
  unfold madeD
  split <;> simp [eqV, asD, scal, plain, plains, deq, deqs]
theorem allowD_eq (v : Int) (L : Led) (n : Bool) : eqV n (.d (allowD v)) (.d (allowD v)) L = .ok (.d (.bl (!n))) L := by
  unfold allowD
  split <;> simp [eqV, asD, scal, plain, plains, deq, deqs]
theorem allowD_non (v : Int) (L : Led) : eqV false (.d (allowD v)) (.d (.lst [.non])) L = .ok (.d (.bl (decide (0 ≤ v ∧ v ≤ 8)))) L := by
  unfold allowD
  by_cases hv : 0 ≤ v ∧ v ≤ 8
  · rw [if_pos hv, decide_eq_true hv]
    simp [eqV, asD, scal, plain, plains, deq, deqs]
  · rw [if_neg hv, decide_eq_false hv]
    simp [eqV, asD, scal, plain, plains, deq, deqs]
abbrev lenv (s d z u : D) (n : Nat) (kept now : Int) (x10 x11 x12 x13 : Option Rv) : Env := [od s, some (.loc 0), od d, some (.loc 1), od z, od u, some (.loc (n + 3)), some (.loc (n + 3 + 1)), oi kept, oi now, x10, x11, x12, x13]
theorem b1_run (h : StOk st) (s z : D) (x10 x11 x12 x13 : Option Rv) : ∃ x11' x12' x13' st' now', K24.m_law_b1 (lenv s d z u rows.length l2 l1 x10 x11 x12 x13) (LB st d rows [iq u l1, iq u l2]) = .next (lenv s d z u rows.length l2 now' x10 x11' x12' x13') (LB st' d rows [iq u now', iq u l2]) ∧ StOk st' := by
  obtain ⟨v1, s1, e1, q1, w1, k1⟩ := lb_draw (d := d) (rows := rows) (ex := [iq u l1, iq u l2]) (many := 14) h (by decide) (by decide)
  obtain ⟨v2, s2, e2, q2, w2, k2⟩ := lb_draw (d := d) (rows := rows) (ex := [iq u l1, iq u l2]) (many := 8) k1 (by decide) (by decide)
  have t1 : sAsg 12 (Dl.e2 subV (eN (callD f__law_draw 2 []) (aC (varE 1) (aC (cE (.int 14)) aN))) (cE (.int 2))) (lenv s d z u rows.length l2 l1 x10 x11 x12 x13) (LB st d rows [iq u l1, iq u l2]) = .next (lenv s d z u rows.length l2 l1 x10 x11 (oi (v1 - 2)) x13) (LB s1 d rows [iq u l1, iq u l2]) := by simp [e1]
  obtain ⟨v, s3, t2, k3⟩ : ∃ v s3, sIf (tB (Dl.e2 (eqV false) (eN (callD f__law_draw 2 []) (aC (varE 1) (aC (cE (.int 8)) aN))) (cE (.int 0)))) (sAsg 12 (Dl.e2 subV (eN (callD f__law_draw 2 []) (aC (varE 1) (aC (Dl.e2 (addV false) (Dl.e2 (mulV false) (cE (.int 2)) (Dl.e2 powV (cE (.int 10)) (cE (.int 9)))) (cE (.int 1))) aN))) (Dl.e2 powV (cE (.int 10)) (cE (.int 9))))) sNext (lenv s d z u rows.length l2 l1 x10 x11 (oi (v1 - 2)) x13) (LB s1 d rows [iq u l1, iq u l2]) = .next (lenv s d z u rows.length l2 l1 x10 x11 (oi v) x13) (LB s3 d rows [iq u l1, iq u l2]) ∧ StOk s3 := by
    by_cases hv : v2 = 0
    · obtain ⟨v3, s3, e3, q3, w3, k3⟩ := lb_draw (d := d) (rows := rows) (ex := [iq u l1, iq u l2]) (many := 2000000001) k2 (by decide) (by decide)
      exact ⟨v3 - 1000000000, s3, by simp [e2, hv, pow9, mul29, e3], k3⟩
    · exact ⟨v1 - 2, s2, by simp [e2, hv], k2⟩
  have t3 : sSeq (sAsg 13 (eN (lstV false) (aC (varE 12) aN))) (sSeq (sAsg 11 (eN (lstV false) (aC (cE .non) aN))) (sIf (tOr (tB (Dl.e2 ltV (varE 12) (cE (.int 0)))) (tB (Dl.e2 gtV (varE 12) (cE (.int 8))))) (sSeq (sAsg 13 (eN (lstV false) (aC (cE (.str [114, 101, 102, 117, 115, 101, 100])) (aC (cE (.str [108, 105, 109, 105, 116])) aN)))) (sAsg 11 (eN (lstV false) (aC (cE (.str [114, 101, 102, 117, 115, 101, 100])) (aC (cE (.str [108, 105, 109, 105, 116])) aN))))) sNext)) (lenv s d z u rows.length l2 l1 x10 x11 (oi v) x13) (LB s3 d rows [iq u l1, iq u l2]) = .next (lenv s d z u rows.length l2 l1 x10 (od (allowD v)) (oi v) (od (madeD v))) (LB s3 d rows [iq u l1, iq u l2]) := by
    unfold allowD madeD
    by_cases h1 : 0 ≤ v
    · by_cases h2 : v ≤ 8
      · simp [lstV, pures, SZ, mkL, h1, h2, Int.not_lt.mpr h1, Int.not_lt.mpr h2]
      · simp [lstV, pures, SZ, mkL, h1, h2, Int.not_lt.mpr h1, Int.not_le.mp h2]
    · simp [lstV, pures, SZ, mkL, h1, Int.not_le.mp h1]
  have f1 := made_l (st := s3) (d := d) (rows := rows) (u := u) (l1 := l1) (l2 := l2) v
  have f2 := allow_l (st := s3) (d := d) (rows := rows) (u := u) (l1 := l1) (l2 := l2) v
  have p1 := prop_run (iq1_at (st := s3) (d := d) (rows := rows) (u := u) (l1 := if 0 ≤ v ∧ v ≤ 8 then v else l1) (l2 := l2)) (ρ := lenv s d z u rows.length l2 (if 0 ≤ v ∧ v ≤ 8 then v else l1) x10 (od (allowD v)) (oi v) (od (madeD v))) (e := varE 6) rfl
  have p2 := prop_run (iq2_at (st := s3) (d := d) (rows := rows) (u := u) (l1 := if 0 ≤ v ∧ v ≤ 8 then v else l1) (l2 := l2)) (ρ := lenv s d z u rows.length l2 (if 0 ≤ v ∧ v ≤ 8 then v else l1) x10 (od (allowD v)) (oi v) (od (madeD v))) (e := varE 7) rfl
  refine ⟨od (allowD v), oi v, od (madeD v), s3, if 0 ≤ v ∧ v ≤ 8 then v else l1, ?_, k3⟩
  refine (seq_n t1).trans ((seq_n t2).trans ?_)
  refine (seq3 t3).trans ?_
  by_cases hv : 0 ≤ v ∧ v ≤ 8
  · rw [if_pos hv] at f2 p1 p2 ⊢
    have an := fun L => allowD_non v L
    rw [decide_eq_true hv] at an
    simp [f1, madeD_eq, f2, allowD_eq, lstV, pures, SZ, mkL, an, p1, p2, number_call, truth]
  · rw [if_neg hv] at f2 p1 p2 ⊢
    have an := fun L => allowD_non v L
    rw [decide_eq_false hv] at an
    simp [f1, madeD_eq, f2, allowD_eq, lstV, pures, SZ, mkL, an, p1, p2, number_call, truth]
end
abbrev env7 (s d z u : D) (x6 x7 x8 x9 : Option Rv) : Env := [od s, some (.loc 0), od d, some (.loc 1), od z, od u, x6, x7, x8, x9, none, none, none, none]
theorem law_true (ns : List Int) (hl : ns.length ≤ 63) (hb : ∀ z ∈ ns, PySem.Builtin.Int.intBits z ≤ 1048576) : ∃ L, K24.f_law [.d (.slst (ns.map D.int))] [] = .ok (.d (.bl true)) L := by
  obtain ⟨s, e0⟩ : ∃ s, callD K24.f__law_begin 1 [] [.d (.slst (ns.map D.int))] [] = .ok (.loc 0) [stC ns 0 0 s 0] := begin_call ns []
  have h0 := StOk.start ns s
  obtain ⟨v1, s1, e1, l1, u1, k1⟩ := dr0 (r := []) (many := 6) h0 (by decide) (by decide)
  obtain ⟨v2, s2, e2, l2, u2, k2⟩ := dr0 (r := []) (many := 16) k1 (by decide) (by decide)
  obtain ⟨v3, s3, e3, l3, u3, k3⟩ := dr0 (r := []) (many := 16) k2 (by decide) (by decide)
  obtain ⟨R, hR⟩ : ∃ R : Nat, 1 + v2 = R := ⟨(1 + v2).toNat, by omega⟩
  obtain ⟨C, hC⟩ : ∃ C : Nat, 1 + v3 = C := ⟨(1 + v3).toNat, by omega⟩
  have hz : bad4 (1 + v1) R C 0 = [] := by
    unfold bad4
    rw [if_pos (by omega), if_pos (by omega), if_pos (by omega), if_pos (by omega)]
  have hd := drill_make (1 + v1) R C [s3] (crens_all fun c hc => by
    rw [List.mem_singleton.mp hc]
    exact k3.ren _) hz
  generalize hS : (D.slst (ns.map D.int)) = S at *
  have hf : makeD false 11 K24.f_Field_init 2 [] [.d (dr (1 + v1) R C)] [s3] = .ok (.loc 1) (LB s3 (dr (1 + v1) R C) (mkR R C fun _ _ => tUn) []) := (fmake (R := R) (C := C) (by omega) (by omega) (1 + v1) [s3]).trans (by show Res.ok (Rv.loc 1) _ = Res.ok (Rv.loc 1) (behind [s3] 11 _ _ ++ []); rw [List.append_nil])
  generalize hD : dr (1 + v1) R C = d at *
  have t1 : K24.m_law_s1 [od S, none, none, none, none, none, none, none, none, none, none, none, none, none] [] = .next [od S, some (.loc 0), none, none, none, none, none, none, none, none, none, none, none, none] [stC ns 0 0 s 0] := by simp [K24.m_law_s1, e0]
  have t2 : K24.m_law_s2 [od S, some (.loc 0), none, none, none, none, none, none, none, none, none, none, none, none] [stC ns 0 0 s 0] = .next [od S, some (.loc 0), od d, none, none, none, none, none, none, none, none, none, none, none] [s3] := by
    have a1 : aC (Dl.e2 (addV false) (cE (.int 1)) (eN (callD f__law_draw 2 []) (aC (varE 1) (aC (cE (.int 6)) aN)))) (aC (Dl.e2 (addV false) (cE (.int 1)) (eN (callD f__law_draw 2 []) (aC (varE 1) (aC (cE (.int 16)) aN)))) (aC (Dl.e2 (addV false) (cE (.int 1)) (eN (callD f__law_draw 2 []) (aC (varE 1) (aC (cE (.int 16)) aN)))) aN)) [od S, some (.loc 0), none, none, none, none, none, none, none, none, none, none, none, none] [stC ns 0 0 s 0] = .ok [.d (.int (1 + v1)), .d (.int R), .d (.int C)] [s3] := by simp [e1, e2, e3, hR, hC]
    exact asg_run ((eN_run a1).trans hd)
  have t3 : K24.m_law_s3 [od S, some (.loc 0), od d, none, none, none, none, none, none, none, none, none, none, none] [s3] = .next [od S, some (.loc 0), od d, some (.loc 1), none, none, none, none, none, none, none, none, none, none] (LB s3 d (mkR R C fun _ _ => tUn) []) := asg_run (eN_run (aC_run (m := aN) rfl rfl) |>.trans hf)
  obtain ⟨a, b, c, s4, e4, k4, N⟩ := lb_numbers (d := d) (rows := mkR R C fun _ _ => tUn) (ex := []) k3
  generalize hZ : D.lst [.int a, .int b, .int c] = Z at e4
  have t4 : K24.m_law_s4 [od S, some (.loc 0), od d, some (.loc 1), none, none, none, none, none, none, none, none, none, none] (LB s3 d (mkR R C fun _ _ => tUn) []) = .next [od S, some (.loc 0), od d, some (.loc 1), od Z, none, none, none, none, none, none, none, none, none] (LB s4 d (mkR R C fun _ _ => tUn) []) := asg_run (eN_run (aC_run (m := aN) rfl rfl) |>.trans e4)
  have hru := rules_make N.a_ N.b_ N.c_ (LB s4 d (mkR R C fun _ _ => tUn) []) (lb_id k4 fun c hc => by cases hc)
  have t5 : K24.m_law_s5 [od S, some (.loc 0), od d, some (.loc 1), od Z, none, none, none, none, none, none, none, none, none] (LB s4 d (mkR R C fun _ _ => tUn) []) = .next [od S, some (.loc 0), od d, some (.loc 1), od Z, od (ru a b c), none, none, none, none, none, none, none, none] (LB s4 d (mkR R C fun _ _ => tUn) []) := by
    rw [← hZ]
    simp [K24.m_law_s5, makeK, mkk_Rules_0_least_most_rest_g, hru, ixV, atI, ixN]
  generalize hU : ru a b c = u at *
  have hq1 := inq_new (u := u) (lb_at (st := s4) (d := d) (rows := mkR R C fun _ _ => tUn) (ex := [])) 3
  rw [if_pos (by decide), lb_len, mkR_len] at hq1
  have hq1' : makeD false 10 K24.f_Inquiry_init 4 [.int 3] [.loc 1, .d u] (LB s4 d (mkR R C fun _ _ => tUn) []) = .ok (.loc (R + 3)) (LB s4 d (mkR R C fun _ _ => tUn) [iq u 3]) := hq1.trans (congrArg (Res.ok _) (List.append_assoc ..))
  have t6 : K24.m_law_s6 (env7 S d Z u none none none none) (LB s4 d (mkR R C fun _ _ => tUn) []) = .next (env7 S d Z u (some (.loc (R + 3))) none none none) (LB s4 d (mkR R C fun _ _ => tUn) [iq u 3]) := asg_run (eN_run (aC_run (m := aC (varE 5) aN) rfl rfl) |>.trans hq1')
  obtain ⟨v5, s5, e5, l5, u5, k5⟩ := lb_draw (d := d) (rows := mkR R C fun _ _ => tUn) (ex := [iq u 3]) (many := 9) k4 (by decide) (by decide)
  have hq2 := inq_new (u := u) (lb_at (st := s5) (d := d) (rows := mkR R C fun _ _ => tUn) (ex := [iq u 3])) v5
  rw [if_pos (by omega), lb_len, mkR_len] at hq2
  have hq2' : makeF false 10 K24.f_Inquiry_init [.loc 1, .d u, .d (.int v5)] (LB s5 d (mkR R C fun _ _ => tUn) [iq u 3]) = .ok (.loc (R + 3 + 1)) (LB s5 d (mkR R C fun _ _ => tUn) [iq u 3, iq u v5]) := hq2.trans (congrArg (Res.ok _) (List.append_assoc ..))
  have t7 : K24.m_law_s7 (env7 S d Z u (some (.loc (R + 3))) none none none) (LB s4 d (mkR R C fun _ _ => tUn) [iq u 3]) = .next (env7 S d Z u (some (.loc (R + 3))) (some (.loc (R + 3 + 1))) none none) (LB s5 d (mkR R C fun _ _ => tUn) [iq u 3, iq u v5]) := by simp [K24.m_law_s7, makeK, mkk_Inquiry_2_limit_g, e5, hq2']
  have i1 := iq1_at (st := s5) (d := d) (u := u) (rows := mkR R C fun _ _ => tUn) (l1 := 3) (l2 := v5)
  have i2 := iq2_at (st := s5) (d := d) (u := u) (rows := mkR R C fun _ _ => tUn) (l1 := 3) (l2 := v5)
  rw [mkR_len] at i1 i2
  have t8 : K24.m_law_s8 (env7 S d Z u (some (.loc (R + 3))) (some (.loc (R + 3 + 1))) none none) (LB s5 d (mkR R C fun _ _ => tUn) [iq u 3, iq u v5]) = .next (env7 S d Z u (some (.loc (R + 3))) (some (.loc (R + 3 + 1))) (oi v5) none) (LB s5 d (mkR R C fun _ _ => tUn) [iq u 3, iq u v5]) := asg_run (prop_run i2 rfl)
  have t9 : K24.m_law_s9 (env7 S d Z u (some (.loc (R + 3))) (some (.loc (R + 3 + 1))) (oi v5) none) (LB s5 d (mkR R C fun _ _ => tUn) [iq u 3, iq u v5]) = .next (lenv S d Z u R v5 3 none none none none) (LB s5 d (mkR R C fun _ _ => tUn) [iq u 3, iq u v5]) := rfl
  have pr := prop_run i1 (ρ := lenv S d Z u R v5 3 none none none none) (e := varE 6) rfl
  have t10 : K24.m_law_s10 (lenv S d Z u R v5 3 none none none none) (LB s5 d (mkR R C fun _ _ => tUn) [iq u 3, iq u v5]) = .next (lenv S d Z u R v5 3 none none none none) (LB s5 d (mkR R C fun _ _ => tUn) [iq u 3, iq u v5]) := by simp [K24.m_law_s10, pr, number_call, truth]
  have F1 := lb_at (st := s5) (d := d) (rows := mkR R C fun _ _ => tUn) (ex := [iq u 3, iq u v5])
  have hin : inF R C 0 0 := ⟨⟨by omega, by omega⟩, by omega, by omega⟩
  have hset := set_call (P := 1 + v1) (R := R) (C := C) (hD ▸ F1) 0 0 [98, 97, 114, 101]
  rw [if_pos (by decide), if_pos hin, hD] at hset
  have hput := lb_put (st := s5) (d := d) (rows := mkR R C fun _ _ => tUn) (ex := [iq u 3, iq u v5]) (rows' := mkR R C (upG (fun _ _ => tUn) 0 0 [98, 97, 114, 101])) (by rw [mkR_len, mkR_len])
  rw [show Int.toNat 0 = 0 from rfl, hput] at hset
  have hcl := F1.cls
  have t11 : K24.m_law_s11 (lenv S d Z u R v5 3 none none none none) (LB s5 d (mkR R C fun _ _ => tUn) [iq u 3, iq u v5]) = .next (lenv S d Z u R v5 3 none none none none) (LB s5 d (mkR R C (upG (fun _ _ => tUn) 0 0 [98, 97, 114, 101])) [iq u 3, iq u v5]) := by simp [K24.m_law_s11, sSetO, tupV, pures, SZ, hcl, hset]
  have hgg : (upG (fun _ _ => tUn) 0 0 [98, 97, 114, 101]) 0 0 = [98, 97, 114, 101] := rfl
  generalize (upG (fun _ _ => tUn) 0 0 [98, 97, 114, 101]) = g at *
  have F2 := lb_at (st := s5) (d := d) (rows := mkR R C g) (ex := [iq u 3, iq u v5])
  have hget := get_call (P := 1 + v1) (R := R) (C := C) (hD ▸ F2) 0 0
  rw [if_pos hin, show Int.toNat 0 = 0 from rfl, hgg, hD] at hget
  have i3 := iq1_at (st := s5) (d := d) (u := u) (rows := mkR R C g) (l1 := 3) (l2 := v5)
  rw [mkR_len] at i3
  have hcl2 := F2.cls
  have at0 : attrV [(10, 0)] (.loc (R + 3)) (LB s5 d (mkR R C g) [iq u 3, iq u v5]) = .ok (.loc 1) (LB s5 d (mkR R C g) [iq u 3, iq u v5]) := attr_loc i3.o rfl rfl
  have at1 : attrV [(10, 1)] (.loc (R + 3)) (LB s5 d (mkR R C g) [iq u 3, iq u v5]) = .ok (.d u) (LB s5 d (mkR R C g) [iq u 3, iq u v5]) := attr_loc i3.o rfl rfl
  have r0 : ∀ L, attrV [(12, 0)] (.d u) L = .ok (.d (.int a)) L := fun L => by rw [← hU]; rfl
  have r1 : ∀ L, attrV [(12, 1)] (.d u) L = .ok (.d (.int b)) L := fun L => by rw [← hU]; rfl
  have r2 : ∀ L, attrV [(12, 2)] (.d u) L = .ok (.d (.int c)) L := fun L => by rw [← hU]; rfl
  have hzq : ∀ L, eqV true (.d (.lst [.int a, .int b, .int c])) (.d Z) L = .ok (.d (.bl false)) L := fun L => by
    rw [← hZ]
    simp [eqV, asD, scal, plain, plains, deq, deqs]
  have t12 : K24.m_law_s12 (lenv S d Z u R v5 3 none none none none) (LB s5 d (mkR R C g) [iq u 3, iq u v5]) = .next (lenv S d Z u R v5 3 none none none none) (LB s5 d (mkR R C g) [iq u 3, iq u v5]) := by
    simp [K24.m_law_s12, getO, tupV, pures, SZ, at0, hcl2, hget, at1, r0, r1, r2, lstV, mkL, hzq]
  obtain ⟨v6, s6, e6, l6, u6, k6⟩ := lb_draw (d := d) (rows := mkR R C g) (ex := [iq u 3, iq u v5]) (many := 10) k5 (by decide) (by decide)
  have hs : small v6 = true := K08s l6 (by omega)
  obtain ⟨ρ, L, e7, x10, x11, x12, x13, s7, now, e1', e2', k7⟩ := forK_inv (xs := rangeL 0 v6) (p := .name 10) (body := K24.m_law_b1)
    (I := fun _ ρ L => ∃ x10 x11 x12 x13 st now, ρ = lenv S d Z u R v5 now x10 x11 x12 x13 ∧ L = LB st d (mkR R C g) [iq u now, iq u v5] ∧ StOk st)
    (ρ := lenv S d Z u R v5 3 none none none none) (L := LB s6 d (mkR R C g) [iq u 3, iq u v5]) ⟨none, none, none, none, s6, 3, rfl, rfl, k6⟩ fun i ρ L hi hI => by
      obtain ⟨x10, x11, x12, x13, st, now, e1, e2, k⟩ := hI
      subst e1 e2
      rw [rngL_at]
      obtain ⟨y11, y12, y13, st', now', e, k'⟩ := b1_run (d := d) (u := u) (rows := mkR R C g) (l1 := now) (l2 := v5) k S Z (oi (0 + i)) x11 x12 x13
      rw [mkR_len] at e
      exact ⟨_, rfl, _, _, .inl e, oi (0 + i), y11, y12, y13, st', now', rfl, rfl, k'⟩
  subst e1' e2'
  have t13 : K24.m_law_s13 (lenv S d Z u R v5 3 none none none none) (LB s5 d (mkR R C g) [iq u 3, iq u v5]) = .next (lenv S d Z u R v5 now x10 x11 x12 x13) (LB s7 d (mkR R C g) [iq u now, iq u v5]) :=
    (for_range1 (a := eN (callD f__law_draw 2 []) (aC (varE 1) (aC (cE (.int 10)) aN))) (by simp [e6]) hs).trans e7
  have f8 := made_l (st := s7) (d := d) (u := u) (rows := mkR R C g) (l1 := now) (l2 := v5) 8
  have f9 := made_l (st := s7) (d := d) (u := u) (rows := mkR R C g) (l1 := now) (l2 := v5) 9
  have m8 : madeD 8 = .lst [.int 8] := rfl
  have m9 : madeD 9 = .lst [.str tX, .str tLim] := rfl
  rw [m8] at f8
  rw [m9] at f9
  have t14 : K24.m_law_s14 (lenv S d Z u R v5 now x10 x11 x12 x13) (LB s7 d (mkR R C g) [iq u now, iq u v5]) = .ret (.d (.bl true)) (LB s7 d (mkR R C g) [iq u now, iq u v5]) := by
    simp [K24.m_law_s14, f8, f9, lstV, pures, SZ, mkL, eqV, asD, scal, plain, plains, deq, deqs, truth]
  exact ⟨_, law_ret ((seq_n t1).trans ((seq_n t2).trans ((seq_n t3).trans ((seq_n t4).trans ((seq_n t5).trans ((seq_n t6).trans ((seq_n t7).trans ((seq_n t8).trans ((seq_n t9).trans ((seq_n t10).trans ((seq_n t11).trans ((seq_n t12).trans ((seq_n t13).trans t14)))))))))))))⟩
end K24

set_option Elab.async false
set_option linter.all false
set_option maxRecDepth 100000
set_option maxHeartbeats 0
/-! k24: the head (written by gen.py). -/
namespace K24
open PySem PySem.Spec PyProof.Rows L2 Dl
abbrev R : PySem.W.OpenRow := PySem.W.OpenLaw.row PySem.Challenge.rw_coulter_k24_limit_of_an_inquiry
def fa : List He.Fa := [.free "list", .free "int", .glo "_law_begin", .cls "Drill", .noat "Drill" "turning", .noat "Drill" "places", .noat "Drill" "rows", .noat "Drill" "pipes", .free "super", .glo "BadNumber", .noat "BadNumber" "name", .glo "within", .glo "Drill", .glo "_law_mix", .free "len", .free "abs", .glo "_law_draw", .mkr "Drill", .cls "Field", .noat "Field" "kinds", .free "range", .noat "Field" "drill", .mkr "Field", .glo "Field", .glo "_law_numbers", .cls "Rules", .noat "Rules" "rest", .noat "Rules" "most", .noat "Rules" "least", .int "LONGEST" 16, .mkr "Rules", .glo "Rules", .cls "Inquiry", .noat "Inquiry" "bound", .noat "Inquiry" "rules", .noat "Inquiry" "field", .glo "Inquiry", .mkr "Inquiry", .free "isinstance", .free "bool", .glo "_law_number", .glo "OutOfField", .noat "OutOfField" "row", .noat "OutOfField" "place", .meth "Drill" "require", .glo "KINDS", .exc "BadKind", .glo "BadKind", .meth "Inquiry" "allow", .glo "CoulterError", .glo "Unfit", .glo "Refused", .glo "NoCase", .glo "Clash", .glo "_law_allowed", .glo "_law_made", .glo "law"]
def fn : List He.DefD := [
  ⟨("_law_begin", none), "_law_begin", "_law_begin", defArgs (top 27), defBody (top 27), defScope (top 27), [], []⟩,
  ⟨("within", none), "within", "within", defArgs (top 10), defBody (top 10), defScope (top 10), [], []⟩,
  ⟨("Drill", some "__init__"), "__init__", "Drill.__init__", defArgs (mth 12 4), defBody (mth 12 4), defScope (mth 12 4), [], [("turning", .int 0)]⟩,
  ⟨("_law_mix", none), "_law_mix", "_law_mix", defArgs (top 28), defBody (top 28), defScope (top 28), [], []⟩,
  ⟨("_law_draw", none), "_law_draw", "_law_draw", defArgs (top 29), defBody (top 29), defScope (top 29), [], []⟩,
  ⟨("Field", some "__init__"), "__init__", "Field.__init__", defArgs (mth 22 0), defBody (mth 22 0), defScope (mth 22 0), [], []⟩,
  ⟨("_law_numbers", none), "_law_numbers", "_law_numbers", defArgs (top 31), defBody (top 31), defScope (top 31), [], []⟩,
  ⟨("Rules", some "__init__"), "__init__", "Rules.__init__", defArgs (mth 25 0), defBody (mth 25 0), defScope (mth 25 0), [], [("least", .int 1), ("most", .int 16), ("rest", .int 1)]⟩,
  ⟨("Inquiry", some "__init__"), "__init__", "Inquiry.__init__", defArgs (mth 19 1), defBody (mth 19 1), defScope (mth 19 1), [], [("limit", .int 3)]⟩,
  ⟨("_law_number", none), "_law_number", "_law_number", defArgs (top 30), defBody (top 30), defScope (top 30), [], []⟩,
  ⟨("Drill", some "require"), "require", "Drill.require", defArgs (mth 12 5), defBody (mth 12 5), defScope (mth 12 5), [], []⟩,
  ⟨("Field", some "__setitem__"), "__setitem__", "Field.__setitem__", defArgs (mth 22 3), defBody (mth 22 3), defScope (mth 22 3), [], []⟩,
  ⟨("Field", some "__getitem__"), "__getitem__", "Field.__getitem__", defArgs (mth 22 2), defBody (mth 22 2), defScope (mth 22 2), [], []⟩,
  ⟨("Inquiry", some "allow"), "allow", "Inquiry.allow", defArgs (mth 19 4), defBody (mth 19 4), defScope (mth 19 4), [], []⟩,
  ⟨("_law_allowed", none), "_law_allowed", "_law_allowed", defArgs (top 33), defBody (top 33), defScope (top 33), [], []⟩,
  ⟨("_law_made", none), "_law_made", "_law_made", defArgs (top 32), defBody (top 32), defScope (top 32), [], []⟩,
  ⟨("law", none), "law", "law", defArgs (top 34), defBody (top 34), defScope (top 34), [], []⟩]
def fs : List DefS := [⟨"BadNumber", "__init__", "BadNumber.__init__", defArgs (mth 3 0), defBody (mth 3 0), defScope (mth 3 0)⟩, ⟨"OutOfField", "__init__", "OutOfField.__init__", defArgs (mth 5 0), defBody (mth 5 0), defScope (mth 5 0)⟩]
def fg : List DefG := [⟨"Inquiry", "limit", "limit", "Inquiry.limit", defArgs (mth 19 2), defBody (mth 19 2), defScope (mth 19 2), false⟩, ⟨"Inquiry", "limit", "limit", "Inquiry.limit", defArgs (mth 19 3), defBody (mth 19 3), defScope (mth 19 3), true⟩]
def fg0 : DefG := ⟨"", "", "", "", ⟨[], [], none, [], [], none, []⟩, [], ⟨.function, [], false, false, []⟩, false⟩
def fs0 : DefS := ⟨"", "", "", ⟨[], [], none, [], [], none, []⟩, [], ⟨.function, [], false, false, []⟩⟩
def exs (K : PySem.W.Frag) : List Bool := [
  DefS.ok PW.main.file K (fs.getD 0 fs0),
  conB K (He.ga K "Drill") "MOST_TURNING" 6,
  conB K (He.ga K "Drill") "MOST_PLACES" 16,
  conB K (He.ga K "Drill") "MOST_ROWS" 16,
  conB K (He.ga K "Drill") "MOST_PIPES" 6,
  conB K (He.ga K "Inquiry") "MOST_LIMIT" 8,
  DefG.ok K (fg.getD 0 fg0),
  DefS.ok PW.main.file K (fs.getD 1 fs0),
  tupB K "KINDS" [[98, 97, 114, 101], [103, 114, 101, 101, 110], [117, 110, 115, 101, 101, 110]],
  ownB K "Field" "__setitem__",
  ownB K "Field" "__getitem__",
  DefG.ok K (fg.getD 1 fg0),
  relsB K (G K).cl sub errs,
  exmB K (He.ga K "BadNumber"),
  exmB K (He.ga K "CoulterError"),
  exmB K (He.ga K "BadKind"),
  exmB K (He.ga K "OutOfField"),
  exmB K (He.ga K "Clash"),
  exmB K (He.ga K "Refused"),
  exmB K (He.ga K "NoCase"),
  exmB K (He.ga K "Unfit")]
def ex (K : PySem.W.Frag) : Bool := (exs K).all id
theorem exAt {K : PySem.W.Frag} {b : Bool} (h : ex K = true) (i : Nat) (hb : (exs K)[i]? = some b) : b = true := by
  unfold ex at h
  rw [List.all_eq_true] at h
  exact h b (List.mem_of_getElem? hb)
abbrev hk : PySem.W.Hook := hookS 5 fa fn fs fg ex
def ob (s : PySem.W.SharedT) : AlS := obsSG 5 fa fn fs fg ex (HandSHeadRun.getT s)
theorem ob_eq (s : PySem.W.SharedT) : ob s = hk.obs s.abs := obsSG_eq (HandSHeadRun.getT_eq s)
def loose : List PySem.Str := ["_wall", "__name__", "CoulterError", "BadNumber", "BadKind", "OutOfField", "Clash", "Refused", "NoCase", "Unfit", "within", "Drill", "joined", "Spans", "common_gaps", "USUAL_LIMIT", "Inquiry", "KINDS", "Field", "LONGEST", "Rules", "_law_begin", "_law_mix", "_law_draw", "_law_number", "_law_numbers", "_law_made", "_law_allowed"]
theorem run (w : World) : HandSHeadRun.RunEq R (PySem.W.view R.prog [34]) hk ob 6000 loose w := by
  intro os
  kernel_rfl
theorem facts {K : PySem.W.Frag} {h : Heap} {mg : PySem.Str → Option Value} (X : K.In h) (N : h.Ns mainGlobals mg) (c : SaysS fa fn fs fg ex K) : Fx K mg :=
  have c1 := c.more
  {
  n_list := He.free_ok X N (c.d.fact 0 rfl)
  n_int := He.free_ok X N (c.d.fact 1 rfl)
  d__law_begin := c.d.def_ 0 rfl
  g__law_begin := He.glo_ok X N (c.d.fact 2 rfl)
  cls_Drill := He.cls_ok (c.d.fact 3 rfl)
  na_Drill_turning := He.noat_ok (c.d.fact 4 rfl)
  na_Drill_places := He.noat_ok (c.d.fact 5 rfl)
  na_Drill_rows := He.noat_ok (c.d.fact 6 rfl)
  na_Drill_pipes := He.noat_ok (c.d.fact 7 rfl)
  s_BadNumber := DefS.sup (c.sup 0 rfl) (exAt c1 0 rfl) (He.free_ok X N (c.d.fact 8 rfl)) (by decide +kernel)
  g_BadNumber := He.glo_ok X N (c.d.fact 9 rfl)
  na_BadNumber_name := He.noat_ok (c.d.fact 10 rfl)
  d_within := c.d.def_ 1 rfl
  g_within := He.glo_ok X N (c.d.fact 11 rfl)
  g_Drill := He.glo_ok X N (c.d.fact 12 rfl)
  con_Drill_MOST_TURNING := conB_ok (exAt c1 1 rfl)
  con_Drill_MOST_PLACES := conB_ok (exAt c1 2 rfl)
  con_Drill_MOST_ROWS := conB_ok (exAt c1 3 rfl)
  con_Drill_MOST_PIPES := conB_ok (exAt c1 4 rfl)
  d_Drill_init := c.d.def_ 2 rfl
  d__law_mix := c.d.def_ 3 rfl
  g__law_mix := He.glo_ok X N (c.d.fact 13 rfl)
  n_len := He.free_ok X N (c.d.fact 14 rfl)
  n_abs := He.free_ok X N (c.d.fact 15 rfl)
  d__law_draw := c.d.def_ 4 rfl
  g__law_draw := He.glo_ok X N (c.d.fact 16 rfl)
  mk_Drill := He.mkr_ok (c.d.fact 17 rfl)
  cls_Field := He.cls_ok (c.d.fact 18 rfl)
  na_Field_kinds := He.noat_ok (c.d.fact 19 rfl)
  n_range := He.free_ok X N (c.d.fact 20 rfl)
  na_Field_drill := He.noat_ok (c.d.fact 21 rfl)
  d_Field_init := c.d.def_ 5 rfl
  mk_Field := He.mkr_ok (c.d.fact 22 rfl)
  g_Field := He.glo_ok X N (c.d.fact 23 rfl)
  d__law_numbers := c.d.def_ 6 rfl
  g__law_numbers := He.glo_ok X N (c.d.fact 24 rfl)
  cls_Rules := He.cls_ok (c.d.fact 25 rfl)
  na_Rules_rest := He.noat_ok (c.d.fact 26 rfl)
  na_Rules_most := He.noat_ok (c.d.fact 27 rfl)
  na_Rules_least := He.noat_ok (c.d.fact 28 rfl)
  ci_LONGEST := He.int_ok X N (c.d.fact 29 rfl)
  d_Rules_init := c.d.def_ 7 rfl
  mk_Rules := He.mkr_ok (c.d.fact 30 rfl)
  g_Rules := He.glo_ok X N (c.d.fact 31 rfl)
  cls_Inquiry := He.cls_ok (c.d.fact 32 rfl)
  na_Inquiry_bound := He.noat_ok (c.d.fact 33 rfl)
  na_Inquiry_rules := He.noat_ok (c.d.fact 34 rfl)
  na_Inquiry_field := He.noat_ok (c.d.fact 35 rfl)
  g_Inquiry := He.glo_ok X N (c.d.fact 36 rfl)
  con_Inquiry_MOST_LIMIT := conB_ok (exAt c1 5 rfl)
  d_Inquiry_init := c.d.def_ 8 rfl
  mk_Inquiry := He.mkr_ok (c.d.fact 37 rfl)
  d_Inquiry_limit := (DefG.fact (c.get 0 rfl) (exAt c1 6 rfl)).1
  p_Inquiry_limit := (DefG.fact (c.get 0 rfl) (exAt c1 6 rfl)).2
  n_isinstance := He.free_ok X N (c.d.fact 38 rfl)
  n_bool := He.free_ok X N (c.d.fact 39 rfl)
  d__law_number := c.d.def_ 9 rfl
  g__law_number := He.glo_ok X N (c.d.fact 40 rfl)
  s_OutOfField := DefS.sup (c.sup 1 rfl) (exAt c1 7 rfl) (He.free_ok X N (c.d.fact 8 rfl)) (by decide +kernel)
  g_OutOfField := He.glo_ok X N (c.d.fact 41 rfl)
  na_OutOfField_row := He.noat_ok (c.d.fact 42 rfl)
  na_OutOfField_place := He.noat_ok (c.d.fact 43 rfl)
  d_Drill_require := c.d.def_ 10 rfl
  m_Drill_require := He.meth_ok (c.d.fact 44 rfl)
  g_KINDS := He.glo_ok X N (c.d.fact 45 rfl)
  tp_KINDS := exAt c1 8 rfl
  er_BadKind := (fun h => ⟨⟨_, _, _, _, PySem.F.excBase_ValueError, h.1⟩, He.glo_ok X N (c.d.fact 47 rfl), h.2.1, h.2.2.1, h.2.2.2⟩) (He.exc_ok (c.d.fact 46 rfl))
  d_Field___setitem__ := c.d.def_ 11 rfl
  ow_Field___setitem__ := exAt c1 9 rfl
  d_Field___getitem__ := c.d.def_ 12 rfl
  ow_Field___getitem__ := exAt c1 10 rfl
  d_Inquiry_limit_set := (DefG.factS (c.get 1 rfl) (exAt c1 11 rfl)).1
  q_Inquiry_limit := (DefG.factS (c.get 1 rfl) (exAt c1 11 rfl)).2
  d_Inquiry_allow := c.d.def_ 13 rfl
  m_Inquiry_allow := He.meth_ok (c.d.fact 48 rfl)
  rels := exAt c1 12 rfl
  exm_BadNumber := exAt c1 13 rfl
  g_CoulterError := He.glo_ok X N (c.d.fact 49 rfl)
  g_Unfit := He.glo_ok X N (c.d.fact 50 rfl)
  g_Refused := He.glo_ok X N (c.d.fact 51 rfl)
  g_NoCase := He.glo_ok X N (c.d.fact 52 rfl)
  g_Clash := He.glo_ok X N (c.d.fact 53 rfl)
  g_BadKind := He.glo_ok X N (c.d.fact 47 rfl)
  d__law_allowed := c.d.def_ 14 rfl
  g__law_allowed := He.glo_ok X N (c.d.fact 54 rfl)
  d__law_made := c.d.def_ 15 rfl
  g__law_made := He.glo_ok X N (c.d.fact 55 rfl)
  d_law := c.d.def_ 16 rfl
  g_law := He.glo_ok X N (c.d.fact 56 rfl)
  exm_CoulterError := exAt c1 14 rfl
  exm_BadKind := exAt c1 15 rfl
  exm_OutOfField := exAt c1 16 rfl
  exm_Clash := exAt c1 17 rfl
  exm_Refused := exAt c1 18 rfl
  exm_NoCase := exAt c1 19 rfl
  exm_Unfit := exAt c1 20 rfl }
theorem ints_rep {G : Cfg} {B : Hp} : ∀ ns : List Int, Reps G B (ns.map D.int) (ns.map V.int)
  | [] => rfl
  | n :: r => ⟨_, _, rfl, rfl, ints_rep r⟩
end K24
open PySem PySem.W PySem.Calls PyProof.Rows
theorem PySem.Challenge.cw_coulter_k24_limit_of_an_inquiry_holds : PySem.Challenge.rw_coulter_k24_limit_of_an_inquiry.Holds := by
  w_on; o_law
  refine HandSHeadRun.head_any (r := OpenLaw.row PySem.Challenge.rw_coulter_k24_limit_of_an_inquiry) (q := view (OpenLaw.row PySem.Challenge.rw_coulter_k24_limit_of_an_inquiry).prog [34]) (H := K24.hk) (ob := K24.ob) (M := 6000) (loose := K24.loose) (d := HandSHeadRun.topDef (OpenLaw.row PySem.Challenge.rw_coulter_k24_limit_of_an_inquiry).prog 34) (kwd := []) K24.ob_eq
    (by kernel_rfl) (fun s => by kernel_rfl) K24.run (by kernel_rfl) (by kernel_rfl) (by kernel_rfl) (by rfl) (by first | assumption | decide +kernel) (by decide +kernel) ⟨rfl, rfl, rfl, rfl, rfl, by decide +kernel⟩ ?hw ?hc
  case hw => w_witness2
  case hc =>
    refine LamX.walk_ofTsE (l := PySem.Challenge.rw_coulter_k24_limit_of_an_inquiry) (n := 63) (k := 9) (x := "_law_script") (CX := fun w => L2.CX K24.PW w) rfl (by decide) (by kernel_rfl) ⟨rfl, by decide, by decide⟩ ?F (fun w H s e s' h => by
      obtain ⟨_, _, _, _, _, _, _, _, _, _, _, _, z⟩ := h
      exact z)
    intro w mg fa h Y N hmg0
    obtain ⟨K, KX, c⟩ := Y
    have hmg : mg ("law" : PySem.Str) = some (.ref fa) := by
      have e : (HandSHeadRun.topDef (OpenLaw.row PySem.Challenge.rw_coulter_k24_limit_of_an_inquiry).prog 34).name = ("law" : PySem.Str) := by kernel_rfl
      rw [← e]
      exact hmg0
    have Z := K24.facts KX N c
    have e2 := hmg.symm.trans Z.g_law
    cases e2
    obtain ⟨fd, F⟩ := Z.d_law
    have b := L2.FunD.bindsA (ps := ["_law_script"]) F fun _ _ _ _ _ _ us hl => match us, hl with | [_], _ => rfl
    refine ⟨K, KX, fd, [], Dl.toSp (K24.G K) 1 K24.f_law, (fun p hp => nomatch hp), (fun p hp => nomatch hp), (fun p hp => nomatch hp), (fun s v => b s [v] rfl), fun H a ns hl hb _ hS => ?_, fun base _ _ _ => K24.ok_law Z F⟩
    obtain ⟨L, hL⟩ := K24.law_true ns hl hb
    refine ⟨rfl, H, [], [], [.d (.slst (ns.map Dl.D.int))], ⟨_, _, rfl, ⟨a, ns.map L2.V.int, rfl, hS, K24.ints_rep ns⟩, rfl⟩, ⟨rfl, fun _ _ e => e, by simp, fun n b c h => by simp at h, fun n b c h => by simp at h, fun n b c h => by simp at h⟩, ?_⟩
    rw [hL]
    exact fun B' A' H' v x c r => r
