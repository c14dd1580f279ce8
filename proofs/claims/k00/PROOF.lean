import PyProof.Rows.All
import Wide.All
import OpenK.AllK
import Wide.FinOn
import HandS.ForMost
import HandS.Exc
import HandS.ExcOwn
import HandS.ExcIs
import HandS.TryOnly
import HandS.TryMany
import HandS.IsInst
import HandS.Walk
import HandS.Style
import HandS.Conv
import HandS.TupAny
import HandS.WordsExc
import KE.GoesMore
import HandS.Iter
import HandS.Head0
import HandS.Head1
import HandS.Head2
import HandS.HeadEnd
import HandS.HeadHook1
import HandS.HeadHook2
import HandS.HeadHook3
import HandS.HeadHook4
import HandS.Defaults
import Lean
import PySem.Challenge.RW_boardneverlies_k00_differences_and_chain
section
set_option Elab.async false
set_option maxRecDepth 100000
/-! A small Python over plain data: values, codes, what they compute. -/
namespace MP
open PySem

/-- plain data -/
inductive P where
  | non | bl (b : Bool) | int (i : Int) | str (s : Str) | tup (xs : List P) | lst (xs : List P) | edc
/-- plain data, or a list of one's own that is changed in its place -/
inductive D where
  | p (x : P) | ref (n : Nat)
abbrev Hh := List (List D)
abbrev En := List (Option D)
inductive R (α : Type) where
  | ok (a : α) (h : Hh) | exc (c : Nat) (h : Hh) | stk
def R.bind {α β : Type} (m : R α) (f : α → Hh → R β) : R β := match m with
  | .ok a h => f a h
  | .exc c h => .exc c h
  | .stk => .stk

/-- no sequence that a code makes is longer -/
abbrev line : Nat := 1000000

inductive Op | add | sub | mul | mod | fdiv | pow
  deriving DecidableEq
inductive Cm | eq | ne | lt | le | gt | ge | is | isn
  deriving DecidableEq
inductive Kd | int | bool | str | tuple | list
  deriving DecidableEq
inductive Bi | len | int | max2 | sum | all | any | tuple
  deriving DecidableEq
/-- what is walked -/
inductive Wk | seq | range | enum
  deriving DecidableEq
inductive Tg where
  | nm (i : Nat) | tp (ts : List Tg)

mutual
inductive Code where
  | var (i : Nat)
  | cint (i : Int) | cbl (b : Bool) | cnon | cstr (s : Str)
  | bin (o : Op) (a b : Code)
  | neg (a : Code)
  | cmp (o : Cm) (a b : Code)
  | andC (a b : Code)
  | orC (a b : Code)
  | notC (a : Code)
  | ite (c a b : Code)
  | tup (as : Codes)
  | lst (cell : Bool) (as : Codes)
  | rep (cell : Bool) (as : Codes) (b : Code)
  | edc
  | ix (a i : Code)
  | sl (a : Code) (lo hi : Codes)
  | rev (a : Code)
  | call (f : Nat) (as : Codes)
  | isi (a : Code) (ks : List Kd)
  | bi (b : Bi) (as : Codes)
  | listOf (cell : Bool) (a : Code)
  | listRg (cell : Bool) (a : Code)
  | comp (cell : Bool) (w : Wk) (as : Codes) (tg : Tg) (cond : Codes) (elt : Code)
inductive Codes where
  | nil | cons (a : Code) (as : Codes)
end

/-! ### what is computed -/
def allP : List D → Option (List P)
  | [] => some []
  | .p x :: ds => match allP ds with
    | some xs => some (x :: xs)
    | none => none
  | .ref _ :: _ => none
theorem allP_map (xs : List P) : allP (xs.map D.p) = some xs := by
  induction xs with
  | nil => rfl
  | cons x xs ih => simp only [List.map_cons, allP, ih]
def mkL (cell : Bool) (ds : List D) (h : Hh) : R D :=
  if cell then .ok (.ref h.length) (h ++ [ds]) else match allP ds with
    | some xs => .ok (.p (.lst xs)) h
    | none => .stk
def okP (o : Option P) (h : Hh) : R D := match o with
  | some x => .ok (.p x) h
  | none => .stk

def small (i : Int) : Bool := decide (-(2 ^ 62) < i) && decide (i < 2 ^ 62)
def binI : Op → Int → Int → Option Int
  | .add, i, j => some (i + j)
  | .sub, i, j => some (i - j)
  | .mul, i, j => if small i || small j then some (i * j) else none
  | .mod, i, j => if 0 < j then some (i % j) else none
  | .fdiv, i, j => if decide (0 < j) && decide (j < 1073741824) then some (i / j) else none
  | .pow, i, j => if decide (0 ≤ j) && decide (j ≤ 1000) && small i then some (i ^ j.toNat) else none
def binP (o : Op) (x y : P) : Option P := match x, y with
  | .int i, .int j => (binI o i j).map P.int
  | .tup xs, .tup ys => if o = .add ∧ xs.length + ys.length ≤ line then some (.tup (xs ++ ys)) else none
  | .lst xs, .lst ys => if o = .add ∧ xs.length + ys.length ≤ line then some (.lst (xs ++ ys)) else none
  | _, _ => none
def binD (o : Op) (x y : D) (h : Hh) : R D := match x, y with
  | .p a, .p b => okP (binP o a b) h
  | _, _ => .stk
def negD (x : D) (h : Hh) : R D := match x with
  | .p (.int i) => .ok (.p (.int (-i))) h
  | _ => .stk

/-- == where it is told: scalars of one kind; sequences of one kind, one of them empty -/
def eqP : P → P → Option Bool
  | .non, .non => some true
  | .bl a, .bl b => some (decide (a = b))
  | .int a, .int b => some (decide (a = b))
  | .str a, .str b => some (decide (a = b))
  | .tup xs, .tup ys => if xs.isEmpty || ys.isEmpty then some (xs.isEmpty && ys.isEmpty) else none
  | .lst xs, .lst ys => if xs.isEmpty || ys.isEmpty then some (xs.isEmpty && ys.isEmpty) else none
  | _, _ => none
def cmpP (o : Cm) (x y : P) : Option Bool := match o with
  | .eq => eqP x y
  | .ne => (eqP x y).map (!·)
  | .lt => match x, y with | .int i, .int j => some (decide (i < j)) | _, _ => none
  | .le => match x, y with | .int i, .int j => some (decide (i ≤ j)) | _, _ => none
  | .gt => match x, y with | .int i, .int j => some (decide (j < i)) | _, _ => none
  | .ge => match x, y with | .int i, .int j => some (decide (j ≤ i)) | _, _ => none
  | .is => match y with
    | .non => some (match x with | .non => true | _ => false)
    | .bl b => match x with | .bl a => some (decide (a = b)) | _ => none
    | _ => none
  | .isn => match y with
    | .non => some (match x with | .non => false | _ => true)
    | _ => none
def cmpD (o : Cm) (x y : D) (h : Hh) : R D := match x, y with
  | .p a, .p b => okP ((cmpP o a b).map P.bl) h
  | .ref _, .p .non => match o with
    | .is => .ok (.p (.bl false)) h
    | .isn => .ok (.p (.bl true)) h
    | _ => .stk
  | _, _ => .stk

/-- the place that an index of any sign means -/
def at? {α : Type} (xs : List α) (i : Int) : Option α :=
  if 0 ≤ i then xs[i.toNat]? else if -(xs.length : Int) ≤ i then xs[(i + xs.length).toNat]? else none
def okD (o : Option D) (h : Hh) : R D := match o with
  | some x => .ok x h
  | none => .stk
def ixD (x i : D) (h : Hh) : R D := match x, i with
  | .p (.tup xs), .p (.int i) => okP (at? xs i) h
  | .p (.lst xs), .p (.int i) => okP (at? xs i) h
  | .ref n, .p (.int i) => match h[n]? with
    | some ds => okD (at? ds i) h
    | none => .stk
  | _, _ => .stk
/-- a slice's bound as a place among n (d where it is left out) -/
def cutAt (n d : Nat) : Option Int → Nat
  | none => d
  | some v => if v < 0 then (v + (n : Int)).toNat else min v.toNat n
def cut {α : Type} (xs : List α) (lo hi : Option Int) : List α :=
  (xs.drop (cutAt xs.length 0 lo)).take (cutAt xs.length xs.length hi - cutAt xs.length 0 lo)
def optI : List D → Option (Option Int)
  | [] => some none
  | [.p (.int i)] => some (some i)
  | _ => none
def slD (x : D) (l u : Option Int) (h : Hh) : R D := match x with
  | .p (.tup xs) => .ok (.p (.tup (cut xs l u))) h
  | .p (.lst xs) => .ok (.p (.lst (cut xs l u))) h
  | _ => .stk
def revD (x : D) (h : Hh) : R D := match x with
  | .p (.tup xs) => .ok (.p (.tup xs.reverse)) h
  | _ => .stk
def isiP (x : P) : Kd → Bool
  | .int => match x with | .int _ => true | .bl _ => true | _ => false
  | .bool => match x with | .bl _ => true | _ => false
  | .str => match x with | .str _ => true | _ => false
  | .tuple => match x with | .tup _ => true | _ => false
  | .list => match x with | .lst _ => true | _ => false
def isiD (x : D) (ks : List Kd) : Bool := match x with
  | .p x => ks.any (isiP x)
  | .ref _ => ks.any (· == .list)
def intsP : List P → Option (List Int)
  | [] => some []
  | .int i :: xs => match intsP xs with
    | some is => some (i :: is)
    | none => none
  | _ :: _ => none
def boolsP : List P → Option (List Bool)
  | [] => some []
  | .bl i :: xs => match boolsP xs with
    | some is => some (i :: is)
    | none => none
  | _ :: _ => none
theorem intsP_map (is : List Int) : intsP (is.map P.int) = some is := by
  induction is with
  | nil => rfl
  | cons x xs ih => simp only [List.map_cons, intsP, ih]
theorem boolsP_map (is : List Bool) : boolsP (is.map P.bl) = some is := by
  induction is with
  | nil => rfl
  | cons x xs ih => simp only [List.map_cons, boolsP, ih]
def bi1 (b : Bi) (x : D) (h : Hh) : R D := match b, x with
  | .len, .p (.tup xs) => .ok (.p (.int xs.length)) h
  | .len, .p (.lst xs) => .ok (.p (.int xs.length)) h
  | .len, .ref n => match h[n]? with
    | some ds => .ok (.p (.int ds.length)) h
    | none => .stk
  | .int, .p (.int i) => .ok (.p (.int i)) h
  | .sum, .p (.lst xs) => okP ((intsP xs).map fun is => .int is.sum) h
  | .all, .p (.lst xs) => okP ((boolsP xs).map fun bs => .bl (bs.all id)) h
  | .any, .p (.lst xs) => okP ((boolsP xs).map fun bs => .bl (bs.any id)) h
  | .tuple, .p (.tup xs) => .ok (.p (.tup xs)) h
  | .tuple, .p (.lst xs) => .ok (.p (.tup xs)) h
  | .tuple, .ref n => match h[n]? with
    | some ds => okP ((allP ds).map P.tup) h
    | none => .stk
  | _, _ => .stk
def bi2 (b : Bi) (x y : D) (h : Hh) : R D := match b, x, y with
  | .max2, .p (.int i), .p (.int j) => .ok (.p (.int (if j > i then j else i))) h
  | _, _, _ => .stk
def biD (b : Bi) (as : List D) (h : Hh) : R D := match as with
  | [x] => bi1 b x h
  | [x, y] => bi2 b x y h
  | _ => .stk
def repD (cell : Bool) (ds : List D) (y : D) (h : Hh) : R D := match y with
  | .p (.int k) => if small k && decide (ds.length * k.toNat ≤ line) then mkL cell (List.replicate k.toNat ds).flatten h else .stk
  | _ => .stk
def listD (cell : Bool) (x : D) (h : Hh) : R D := match x with
  | .p (.tup xs) => mkL cell (xs.map D.p) h
  | .p (.lst xs) => mkL cell (xs.map D.p) h
  | _ => .stk
def rangeP (a b : Int) : List P := (List.range (b - a).toNat).map fun (i : Nat) => P.int (a + (i : Int))
def rgOk (a b : Int) : Bool := small a && small b && decide ((b - a).toNat ≤ line)
def listRgD (cell : Bool) (x : D) (h : Hh) : R D := match x with
  | .p (.int k) => if rgOk 0 k then mkL cell ((rangeP 0 k).map D.p) h else .stk
  | _ => .stk
def enumP (xs : List P) : List P := xs.zipIdx.map fun (x, i) => P.tup [.int (i : Nat), x]
/-- the items that are walked -/
def itemsOf : Wk → List D → Option (List P)
  | .seq, [.p (.tup xs)] => some xs
  | .seq, [.p (.lst xs)] => some xs
  | .range, [.p (.int k)] => if rgOk 0 k then some (rangeP 0 k) else none
  | .range, [.p (.int a), .p (.int b)] => if rgOk a b then some (rangeP a b) else none
  | .enum, [.p (.tup xs)] => some (enumP xs)
  | .enum, [.p (.lst xs)] => some (enumP xs)
  | _, _ => none
mutual
def asg : Tg → P → En → Option En
  | .nm i, x, ρ => some (ρ.set i (some (.p x)))
  | .tp ts, x, ρ => match x with
    | .tup xs => asgs ts xs ρ
    | _ => none
def asgs : List Tg → List P → En → Option En
  | [], [], ρ => some ρ
  | t :: ts, x :: xs, ρ => match asg t x ρ with
    | some ρ' => asgs ts xs ρ'
    | none => none
  | _, _, _ => none
end
mutual
def Tg.slots : Tg → List Nat
  | .nm i => [i]
  | .tp ts => tgSlots ts
def tgSlots : List Tg → List Nat
  | [] => []
  | t :: ts => Tg.slots t ++ tgSlots ts
end
/-- the slots forgotten -/
def wipeE (ρ : En) : List Nat → En
  | [] => ρ
  | v :: vs => (wipeE ρ vs).set v none
def truth (x : D) : Option Bool := match x with
  | .p (.bl b) => some b
  | _ => none
/-- the items of a comprehension -/
def compL (f : P → Hh → R (Option D)) : List P → Hh → R (List D)
  | [], h => .ok [] h
  | x :: xs, h => match f x h with
    | .ok o h1 => match compL f xs h1 with
      | .ok r h2 => .ok (match o with | none => r | some y => y :: r) h2
      | _ => .stk
    | _ => .stk

/-- a list of one's own that is walked as it stands at each turn -/
def cellOf : Wk → List D → Option Nat
  | .seq, [.ref n] => some n
  | .enum, [.ref n] => some n
  | _, _ => none
def wrapI : Wk → Nat → P → P
  | .enum, i, x => .tup [.int (i : Int), x]
  | _, _, x => x
def turns : Nat := 1000000
def compR (f : P → Hh → R (Option D)) (w : Wk) (n : Nat) : Nat → Nat → Hh → R (List D)
  | 0, _, _ => .stk
  | k + 1, i, h => match h[n]? with
    | none => .stk
    | some ds => match ds[i]? with
      | none => .ok [] h
      | some (.ref _) => .stk
      | some (.p x) => match f (wrapI w i x) h with
        | .ok o h1 => match compR f w n k (i + 1) h1 with
          | .ok r h2 => .ok (match o with | none => r | some y => y :: r) h2
          | _ => .stk
        | _ => .stk
section
variable (call : Nat → List D → Hh → R D)
mutual
def ev : Code → En → Hh → R D
  | .var i, ρ, h => match ρ[i]? with
    | some (some d) => .ok d h
    | _ => .stk
  | .cint i, _, h => .ok (.p (.int i)) h
  | .cbl b, _, h => .ok (.p (.bl b)) h
  | .cnon, _, h => .ok (.p .non) h
  | .cstr s, _, h => .ok (.p (.str s)) h
  | .bin o a b, ρ, h => (ev a ρ h).bind fun x h1 => (ev b ρ h1).bind fun y h2 => binD o x y h2
  | .neg a, ρ, h => (ev a ρ h).bind fun x h1 => negD x h1
  | .cmp o a b, ρ, h => (ev a ρ h).bind fun x h1 => (ev b ρ h1).bind fun y h2 => cmpD o x y h2
  | .andC a b, ρ, h => (ev a ρ h).bind fun x h1 => match truth x with
    | some true => ev b ρ h1
    | some false => .ok (.p (.bl false)) h1
    | none => .stk
  | .orC a b, ρ, h => (ev a ρ h).bind fun x h1 => match truth x with
    | some true => .ok (.p (.bl true)) h1
    | some false => ev b ρ h1
    | none => .stk
  | .notC a, ρ, h => (ev a ρ h).bind fun x h1 => match truth x with
    | some b => .ok (.p (.bl (!b))) h1
    | none => .stk
  | .ite c a b, ρ, h => (ev c ρ h).bind fun x h1 => match truth x with
    | some true => ev a ρ h1
    | some false => ev b ρ h1
    | none => .stk
  | .tup as, ρ, h => (evs as ρ h).bind fun ds h1 => if ds.length ≤ line then okP ((allP ds).map P.tup) h1 else .stk
  | .lst c as, ρ, h => (evs as ρ h).bind fun ds h1 => if ds.length ≤ line then mkL c ds h1 else .stk
  | .rep c as b, ρ, h => (evs as ρ h).bind fun ds h1 => if ds.length ≤ line then (ev b ρ h1).bind fun y h2 => repD c ds y h2 else .stk
  | .edc, _, h => .ok (.p .edc) h
  | .ix a i, ρ, h => (ev a ρ h).bind fun x h1 => (ev i ρ h1).bind fun y h2 => ixD x y h2
  | .sl a lo hi, ρ, h => (ev a ρ h).bind fun x h1 => (evs lo ρ h1).bind fun l h2 => match optI l with
    | none => .stk
    | some l => (evs hi ρ h2).bind fun u h3 => match optI u with
      | none => .stk
      | some u => slD x l u h3
  | .rev a, ρ, h => (ev a ρ h).bind fun x h1 => revD x h1
  | .call f as, ρ, h => (evs as ρ h).bind fun ds h1 => call f ds h1
  | .isi a ks, ρ, h => (ev a ρ h).bind fun x h1 => .ok (.p (.bl (isiD x ks))) h1
  | .bi b as, ρ, h => (evs as ρ h).bind fun ds h1 => biD b ds h1
  | .listOf c a, ρ, h => (ev a ρ h).bind fun x h1 => listD c x h1
  | .listRg c a, ρ, h => (ev a ρ h).bind fun x h1 => listRgD c x h1
  | .comp c w as tg cond elt, ρ, h => (evs as ρ h).bind fun ds h1 => match itemsOf w ds with
    | none => match cellOf w ds with
      | none => .stk
      | some n => match compR (fun x h2 => match asg tg x (wipeE ρ tg.slots) with
          | none => .stk
          | some ρ' => match evc cond ρ' h2 with
            | .ok true h3 => match ev elt ρ' h3 with
              | .ok y h4 => .ok (some y) h4
              | _ => .stk
            | .ok false h3 => .ok none h3
            | _ => .stk) w n turns 0 h1 with
        | .ok r h2 => mkL c r h2
        | _ => .stk
    | some xs => match compL (fun x h2 => match asg tg x (wipeE ρ tg.slots) with
        | none => .stk
        | some ρ' => match evc cond ρ' h2 with
          | .ok true h3 => match ev elt ρ' h3 with
            | .ok y h4 => .ok (some y) h4
            | _ => .stk
          | .ok false h3 => .ok none h3
          | _ => .stk) xs h1 with
      | .ok r h2 => mkL c r h2
      | _ => .stk
def evs : Codes → En → Hh → R (List D)
  | .nil, _, h => .ok [] h
  | .cons a as, ρ, h => (ev a ρ h).bind fun x h1 => (evs as ρ h1).bind fun xs h2 => .ok (x :: xs) h2
/-- a comprehension's tests: none, or one -/
def evc : Codes → En → Hh → R Bool
  | .nil, _, h => .ok true h
  | .cons a .nil, ρ, h => match ev a ρ h with
    | .ok x h1 => match truth x with
      | some b => .ok b h1
      | none => .stk
    | _ => .stk
  | .cons _ (.cons _ _), _, _ => .stk
end
end

/-! ### statements -/
/-- what an except suite may ask of the error that it holds -/
inductive SC where
  | cst (x : P) | isE (c : Nat) | andS (a b : SC) | notS (a : SC)
mutual
inductive Stm where
  | set (i : Nat) (e : Code)
  | unp (t : Tg) (e : Code)
  | put (a i e : Code)
  | app (a e : Code)
  | iff (c : Code) (t e : Stms)
  | forS (w : Wk) (as : Codes) (tg : Tg) (body : Stms)
  | whl (c : Code) (body : Stms)
  | ret (e : Code)
  | raise (c : Nat)
  | tryM (body : Stms) (hs : List (Nat × Nat × SC))
  | tryAs (body : Stms) (c : Nat) (n : Nat) (i : Nat) (sc : SC)
  | expr (e : Code)
  | pass
inductive Stms where
  | nil | cons (a : Stm) (as : Stms)
end
inductive X where
  | nx (ρ : En) (h : Hh) | ret (d : D) (h : Hh) | brk (ρ : En) (h : Hh) | ct (ρ : En) (h : Hh) | exc (c : Nat) (ρ : En) (h : Hh) | stk
/-- the walk of a for -/
def forL (body : En → Hh → X) (tg : Tg) : List P → En → Hh → X
  | [], ρ, h => .nx ρ h
  | x :: xs, ρ, h => match asg tg x ρ with
    | none => .stk
    | some ρ1 => match body ρ1 h with
      | .nx ρ2 h2 => forL body tg xs ρ2 h2
      | .ct ρ2 h2 => forL body tg xs ρ2 h2
      | .brk ρ2 h2 => .nx ρ2 h2
      | r => r
/-- the walk of a list of one's own -/
def forR (body : En → Hh → X) (tg : Tg) (w : Wk) (n : Nat) : Nat → Nat → En → Hh → X
  | 0, _, _, _ => .stk
  | k + 1, i, ρ, h => match h[n]? with
    | none => .stk
    | some ds => match ds[i]? with
      | none => .nx ρ h
      | some (.ref _) => .stk
      | some (.p x) => match asg tg (wrapI w i x) ρ with
        | none => .stk
        | some ρ1 => match body ρ1 h with
          | .nx ρ2 h2 => forR body tg w n k (i + 1) ρ2 h2
          | .ct ρ2 h2 => forR body tg w n k (i + 1) ρ2 h2
          | .brk ρ2 h2 => .nx ρ2 h2
          | r => r
/-- a while of at most so many turns -/
def whlL (c : En → Hh → R D) (body : En → Hh → X) : Nat → En → Hh → X
  | 0, _, _ => .stk
  | n + 1, ρ, h => match c ρ h with
    | .ok x h1 => match truth x with
      | some true => match body ρ h1 with
        | .nx ρ2 h2 => whlL c body n ρ2 h2
        | .ct ρ2 h2 => whlL c body n ρ2 h2
        | .brk ρ2 h2 => .nx ρ2 h2
        | r => r
      | some false => .nx ρ h1
      | none => .stk
    | .exc c h1 => .exc c ρ h1
    | .stk => .stk
/-- an except suite's value, the class of the error known; sub: is the first class below the second one -/
def evS (sub : Nat → Nat → Option Bool) (cur : Nat) : SC → Option P
  | .cst x => some x
  | .isE c => (sub cur c).map P.bl
  | .andS a b => match evS sub cur a with
    | some (.bl true) => evS sub cur b
    | some (.bl false) => some (.bl false)
    | _ => none
  | .notS a => match evS sub cur a with
    | some (.bl b) => some (.bl (!b))
    | _ => none
def ofR (ρ : En) (m : R D) (f : D → Hh → X) : X := match m with
  | .ok d h => f d h
  | .exc c h => .exc c ρ h
  | .stk => .stk
def handle (sub : Nat → Nat → Option Bool) (c : Nat) (ρ : En) (h : Hh) : List (Nat × Nat × SC) → X
  | [] => .exc c ρ h
  | (k, i, e) :: r => match sub c k with
    | some true => match evS sub c e with
      | some x => .nx (ρ.set i (some (.p x))) h
      | none => .stk
    | some false => handle sub c ρ h r
    | none => .stk
section
variable (call : Nat → List D → Hh → R D) (sub : Nat → Nat → Option Bool)
mutual
def ex : Stm → En → Hh → X
  | .set i e, ρ, h => ofR ρ (ev call e ρ h) fun d h1 => .nx (ρ.set i (some d)) h1
  | .unp t e, ρ, h => ofR ρ (ev call e ρ h) fun d h1 => match d with
    | .p x => match asg t x ρ with
      | some ρ1 => .nx ρ1 h1
      | none => .stk
    | _ => .stk
  | .put a i e, ρ, h => ofR ρ (ev call e ρ h) fun d h1 => ofR ρ (ev call a ρ h1) fun x h2 => ofR ρ (ev call i ρ h2) fun y h3 => match x, y with
    | .ref n, .p (.int k) => match h3[n]? with
      | some ds => if decide (0 ≤ k) && decide (k < ds.length) then .nx ρ (h3.set n (ds.set k.toNat d)) else .stk
      | none => .stk
    | _, _ => .stk
  | .app a e, ρ, h => ofR ρ (ev call a ρ h) fun x h1 => match x with
    | .ref n => ofR ρ (ev call e ρ h1) fun d h2 => match h2[n]? with
      | some ds => if ds.length < line then .nx ρ (h2.set n (ds ++ [d])) else .stk
      | none => .stk
    | _ => .stk
  | .iff c t e, ρ, h => ofR ρ (ev call c ρ h) fun x h1 => match truth x with
    | some true => exs t ρ h1
    | some false => exs e ρ h1
    | none => .stk
  | .forS w as tg body, ρ, h => match evs call as ρ h with
    | .ok ds h1 => match itemsOf w ds with
      | some xs => forL (exs body) tg xs ρ h1
      | none => match cellOf w ds with
        | some n => forR (exs body) tg w n turns 0 ρ h1
        | none => .stk
    | .exc c h1 => .exc c ρ h1
    | .stk => .stk
  | .whl c body, ρ, h => whlL (ev call c) (exs body) turns ρ h
  | .ret e, ρ, h => ofR ρ (ev call e ρ h) fun d h1 => .ret d h1
  | .raise c, ρ, h => .exc c ρ h
  | .tryM body hs, ρ, h => match exs body ρ h with
    | .exc c ρ1 h1 => handle sub c ρ1 h1 hs
    | r => r
  | .tryAs body k n i e, ρ, h => match exs body ρ h with
    | .exc c ρ1 h1 => match sub c k with
      | some true => match evS sub c e with
        | some x => .nx ((ρ1.set i (some (.p x))).set n none) h1
        | none => .stk
      | some false => .exc c ρ1 h1
      | none => .stk
    | r => r
  | .expr e, ρ, h => ofR ρ (ev call e ρ h) fun _ h1 => .nx ρ h1
  | .pass, ρ, h => .nx ρ h
def exs : Stms → En → Hh → X
  | .nil, ρ, h => .nx ρ h
  | .cons a as, ρ, h => match ex a ρ h with
    | .nx ρ1 h1 => exs as ρ1 h1
    | r => r
end
end

/-! ### a program -/
structure Fn where
  np : Nat
  ns : Nat
  gc : Bool
  body : Stms
def mapO {α β : Type} (f : α → Option β) : List α → Option (List β)
  | [] => some []
  | x :: xs => match f x, mapO f xs with
    | some y, some ys => some (y :: ys)
    | _, _ => none
/-- a list of one's own as it stands, with those in it -/
def deref : Nat → Hh → D → Option P
  | _, _, .p x => some x
  | 0, _, .ref _ => none
  | m + 1, h, .ref n => match h[n]? with
    | some ds => (mapO (deref m h) ds).map P.lst
    | none => none
def start (ns : Nat) (ds : List D) : En := ds.map some ++ List.replicate (ns - ds.length) none
def run (pg : List Fn) (sub : Nat → Nat → Option Bool) : Nat → Nat → List D → Hh → R D
  | 0, _, _, _ => .stk
  | k + 1, f, ds, h => match pg[f]? with
    | none => .stk
    | some fn => if ds.length = fn.np then
        if fn.gc then match allP ds with
          | none => .stk
          | some xs => match exs (run pg sub k) sub fn.body (start fn.ns (xs.map D.p)) [] with
            | .ret d h1 => okP (deref 4 h1 d) h
            | .nx _ _ => .ok (.p .non) h
            | .exc c _ _ => .exc c h
            | _ => .stk
        else match exs (run pg sub k) sub fn.body (start fn.ns ds) h with
          | .ret d h1 => .ok d h1
          | .nx _ h1 => .ok (.p .non) h1
          | .exc c _ h1 => .exc c h1
          | _ => .stk
      else .stk
end MP

end
section
set_option Elab.async false
set_option maxRecDepth 100000
set_option linter.all false
/-! What the plain data are in the heap. -/
namespace MP
open PySem PySem.Spec PyProof.Rows L2

theorem line_le : line ≤ sizeLine := by rw [sizeLine_eq]; decide

/-- where the lists that are changed stand; B: what else is not to be touched -/
structure Gh where
  B : Addr → Prop
  f : Nat → Addr
instance : CoeFun Gh fun _ => Nat → Addr := ⟨Gh.f⟩
/-- a is none of these -/
def NC (μ : Gh) (L : Nat) (a : Addr) : Prop := ¬ μ.B a ∧ ∀ n, n < L → μ n ≠ a
/-- a list that is never changed -/
def FzL (K : PySem.W.Frag) (H : Hp) (μ : Gh) (L : Nat) (a : Addr) (xs : List V) : Prop :=
  (Rd H a (.lst xs) ∧ NC μ L a) ∨
    ∃ (o : Obj) (its : Array Value) (n : Nat), K.lookup a = some o ∧ o.cls = .type "list" ∧ o.dict = none ∧ o.data = .seq its n ∧ its.size ≤ sizeLine ∧ Vals xs its.toList
theorem FzL.sq {K : PySem.W.Frag} {H : Hp} {μ : Gh} {L : Nat} {a : Addr} {xs : List V} (h : FzL K H μ L a xs) : SqL K H a xs := by
  rcases h with ⟨h, _⟩ | h
  · exact .inl h
  · exact .inr h
section
variable (K : PySem.W.Frag) (H : Hp) (μ : Gh) (L : Nat)
mutual
def RepP : P → V → Prop
  | .non, v => v = .non
  | .bl b, v => v = .bl b
  | .int i, v => v = .int i
  | .str s, v => v = .str s
  | .tup xs, v => ∃ a vs, v = .ref a ∧ SqT K H a vs ∧ RepPs xs vs ∧ vs.length ≤ sizeLine
  | .lst xs, v => ∃ a vs, v = .ref a ∧ FzL K H μ L a vs ∧ RepPs xs vs ∧ vs.length ≤ sizeLine
  | .edc, v => ∃ a, v = .ref a ∧ H a = some (.dK [])
def RepPs : List P → List V → Prop
  | [], vs => vs = []
  | x :: xs, vs => ∃ v r, vs = v :: r ∧ RepP x v ∧ RepPs xs r
end
def RepD : D → V → Prop
  | .p x, v => RepP K H μ L x v
  | .ref n, v => n < L ∧ v = .ref (μ n)
def RepDs : List D → List V → Prop
  | [], vs => vs = []
  | x :: xs, vs => ∃ v r, vs = v :: r ∧ RepD K H μ L x v ∧ RepDs xs r
end

structure SimH (K : PySem.W.Frag) (μ : Gh) (h : Hh) (H : Hp) : Prop where
  nb : ∀ n, n < h.length → ¬ μ.B (μ n)
  tr : ∀ b, μ.B b → ∃ o, H b = some o
  inj : ∀ i j, i < h.length → j < h.length → μ i = μ j → i = j
  at_ : ∀ n ds, h[n]? = some ds → ∃ vs, H (μ n) = some (.lst vs) ∧ RepDs K H μ h.length ds vs ∧ vs.length ≤ sizeLine
def isLst : HO → Bool
  | .lst _ => true
  | _ => false
/-- what carries a datum's place from one state to another one -/
structure Tr (μ : Gh) (L : Nat) (H : Hp) (μ' : Gh) (L' : Nat) (H' : Hp) : Prop where
  le : L ≤ L'
  mu : ∀ n, n < L → μ' n = μ n
  imm : ∀ a o, H a = some o → isLst o = false → H' a = some o
  keep : ∀ a o, H a = some o → NC μ L a → H' a = some o ∧ NC μ' L' a
/-- what a run may change -/
structure Step (μ : Gh) (L : Nat) (H : Hp) (μ' : Gh) (L' : Nat) (H' : Hp) : Prop extends Tr μ L H μ' L' H' where
  eB : μ'.B = μ.B
  bar : ∀ b, μ.B b → H' b = H b
section
variable {K : PySem.W.Frag} {μ μ' μ'' : Gh} {L L' L'' : Nat} {H H' H'' : Hp}
theorem Step.refl : Step μ L H μ L H := ⟨⟨Nat.le_refl _, fun _ _ => rfl, fun _ _ h _ => h, fun _ _ h n => ⟨h, n⟩⟩, rfl, fun _ _ => rfl⟩
theorem Tr.trans (a : Tr μ L H μ' L' H') (b : Tr μ' L' H' μ'' L'' H'') : Tr μ L H μ'' L'' H'' :=
  ⟨Nat.le_trans a.le b.le, fun n h => (b.mu n (Nat.lt_of_lt_of_le h a.le)).trans (a.mu n h), fun x o h n => b.imm x o (a.imm x o h n) n,
    fun x o h n => let ⟨h1, n1⟩ := a.keep x o h n; b.keep x o h1 n1⟩
theorem Step.trans (a : Step μ L H μ' L' H') (b : Step μ' L' H' μ'' L'' H'') : Step μ L H μ'' L'' H'' :=
  ⟨a.toTr.trans b.toTr, b.eB.trans a.eB, fun x h => (b.bar x (by rw [a.eB]; exact h)).trans (a.bar x h)⟩
theorem Tr.rd (s : Tr μ L H μ' L' H') {a : Addr} {u : HO} (h : Rd H a u) (n : isLst u = false ∨ NC μ L a) : Rd H' a u := by
  rcases h with h | ⟨o, h⟩
  · rcases n with n | n
    · exact .inl (s.imm a u h n)
    · exact .inl (s.keep a u h n).1
  · exact .inr ⟨o, s.imm a _ h rfl⟩
theorem Tr.sqT (s : Tr μ L H μ' L' H') {a : Addr} {xs : List V} (h : SqT K H a xs) : SqT K H' a xs := by
  rcases h with h | h
  · exact .inl (s.rd h (.inl rfl))
  · exact .inr h
theorem Rd.there {a : Addr} {u : HO} (h : Rd H a u) : ∃ o, H a = some o := by
  rcases h with h | ⟨o, h⟩
  · exact ⟨_, h⟩
  · exact ⟨_, h⟩
theorem Tr.fzL (s : Tr μ L H μ' L' H') {a : Addr} {xs : List V} (h : FzL K H μ L a xs) : FzL K H' μ' L' a xs := by
  rcases h with ⟨h, n⟩ | h
  · obtain ⟨o, e⟩ := Rd.there h
    exact .inl ⟨s.rd h (.inr n), (s.keep a o e n).2⟩
  · exact .inr h
mutual
theorem Tr.repP (s : Tr μ L H μ' L' H') : ∀ (x : P) (v : V), RepP K H μ L x v → RepP K H' μ' L' x v
  | .non, _, h => by simpa only [RepP] using h
  | .bl _, _, h => by simpa only [RepP] using h
  | .int _, _, h => by simpa only [RepP] using h
  | .str _, _, h => by simpa only [RepP] using h
  | .tup xs, _, h => by
    simp only [RepP] at h ⊢
    obtain ⟨a, vs, e, h1, h2, h3⟩ := h
    exact ⟨a, vs, e, s.sqT h1, Tr.repPs s xs vs h2, h3⟩
  | .lst xs, _, h => by
    simp only [RepP] at h ⊢
    obtain ⟨a, vs, e, h1, h2, h3⟩ := h
    exact ⟨a, vs, e, s.fzL h1, Tr.repPs s xs vs h2, h3⟩
  | .edc, _, h => by
    simp only [RepP] at h ⊢
    obtain ⟨a, e, h1⟩ := h
    exact ⟨a, e, s.imm a _ h1 rfl⟩
theorem Tr.repPs (s : Tr μ L H μ' L' H') : ∀ (xs : List P) (vs : List V), RepPs K H μ L xs vs → RepPs K H' μ' L' xs vs
  | [], _, h => by simpa only [RepPs] using h
  | x :: xs, _, h => by
    simp only [RepPs] at h ⊢
    obtain ⟨v, r, e, h1, h2⟩ := h
    exact ⟨v, r, e, Tr.repP s x v h1, Tr.repPs s xs r h2⟩
end
theorem Tr.repD (s : Tr μ L H μ' L' H') {d : D} {v : V} (h : RepD K H μ L d v) : RepD K H' μ' L' d v := by
  cases d with
  | p x => exact Tr.repP s x v h
  | ref n => exact ⟨Nat.lt_of_lt_of_le h.1 s.le, by rw [s.mu n h.1]; exact h.2⟩
theorem Tr.repDs (s : Tr μ L H μ' L' H') : ∀ {ds : List D} {vs : List V}, RepDs K H μ L ds vs → RepDs K H' μ' L' ds vs
  | [], _, h => h
  | _ :: _, _, ⟨v, r, e, h1, h2⟩ => ⟨v, r, e, s.repD h1, Tr.repDs s h2⟩
theorem RepPs.length : ∀ {xs : List P} {vs : List V}, RepPs K H μ L xs vs → vs.length = xs.length
  | [], _, h => by simp only [RepPs] at h; subst h; rfl
  | x :: xs, _, h => by
    simp only [RepPs] at h
    obtain ⟨v, r, rfl, _, h2⟩ := h
    simp only [List.length_cons, RepPs.length h2]
theorem RepDs.length : ∀ {xs : List D} {vs : List V}, RepDs K H μ L xs vs → vs.length = xs.length
  | [], _, h => by cases h; rfl
  | x :: xs, _, h => by
    obtain ⟨v, r, rfl, _, h2⟩ := h
    simp only [List.length_cons, RepDs.length h2]
theorem RepPs.get : ∀ {xs : List P} {vs : List V} {i : Nat} {x : P}, RepPs K H μ L xs vs → xs[i]? = some x → ∃ v, vs[i]? = some v ∧ RepP K H μ L x v
  | [], _, _, _, _, e => by simp at e
  | y :: xs, _, 0, x, h, e => by
    simp only [RepPs] at h
    obtain ⟨v, r, rfl, h1, _⟩ := h
    simp at e; subst e; exact ⟨v, rfl, h1⟩
  | y :: xs, _, i + 1, x, h, e => by
    simp only [RepPs] at h
    obtain ⟨v, r, rfl, _, h2⟩ := h
    obtain ⟨u, h3, h4⟩ := RepPs.get (i := i) (x := x) h2 (by simpa using e)
    exact ⟨u, by simpa using h3, h4⟩
theorem RepDs.get : ∀ {xs : List D} {vs : List V} {i : Nat} {x : D}, RepDs K H μ L xs vs → xs[i]? = some x → ∃ v, vs[i]? = some v ∧ RepD K H μ L x v
  | [], _, _, _, _, e => by simp at e
  | y :: xs, _, 0, x, h, e => by
    obtain ⟨v, r, rfl, h1, _⟩ := h
    simp at e; subst e; exact ⟨v, rfl, h1⟩
  | y :: xs, _, i + 1, x, h, e => by
    obtain ⟨v, r, rfl, _, h2⟩ := h
    obtain ⟨u, h3, h4⟩ := RepDs.get (i := i) (x := x) h2 (by simpa using e)
    exact ⟨u, by simpa using h3, h4⟩
theorem RepPs.app : ∀ {xs ys : List P} {vs us : List V}, RepPs K H μ L xs vs → RepPs K H μ L ys us → RepPs K H μ L (xs ++ ys) (vs ++ us)
  | [], _, _, _, h, h' => by simp only [RepPs] at h; subst h; exact h'
  | x :: xs, _, _, _, h, h' => by
    simp only [RepPs] at h
    obtain ⟨v, r, rfl, h1, h2⟩ := h
    simp only [List.cons_append, RepPs]
    exact ⟨v, _, rfl, h1, RepPs.app h2 h'⟩
theorem RepDs.app : ∀ {xs ys : List D} {vs us : List V}, RepDs K H μ L xs vs → RepDs K H μ L ys us → RepDs K H μ L (xs ++ ys) (vs ++ us)
  | [], _, _, _, h, h' => by cases h; exact h'
  | x :: xs, _, _, _, h, h' => by
    obtain ⟨v, r, rfl, h1, h2⟩ := h
    exact ⟨v, _, rfl, h1, RepDs.app h2 h'⟩
theorem RepDs.set : ∀ {xs : List D} {vs : List V} {x : D} {v : V} (i : Nat), RepDs K H μ L xs vs → RepD K H μ L x v → RepDs K H μ L (xs.set i x) (vs.set i v)
  | [], _, _, _, _, h, _ => by cases h; rfl
  | _ :: xs, _, _, _, 0, h, h' => by
    obtain ⟨v, r, rfl, h1, h2⟩ := h
    exact ⟨_, _, rfl, h', h2⟩
  | _ :: xs, _, _, _, i + 1, h, h' => by
    obtain ⟨v, r, rfl, h1, h2⟩ := h
    exact ⟨_, _, rfl, h1, RepDs.set i h2 h'⟩
theorem RepPs.drop : ∀ {xs : List P} {vs : List V} (i : Nat), RepPs K H μ L xs vs → RepPs K H μ L (xs.drop i) (vs.drop i)
  | [], _, i, h => by simp only [RepPs] at h; subst h; simp [RepPs]
  | _ :: _, _, 0, h => h
  | x :: xs, _, i + 1, h => by
    simp only [RepPs] at h
    obtain ⟨v, r, rfl, h1, h2⟩ := h
    simpa using RepPs.drop i h2
theorem RepPs.take : ∀ {xs : List P} {vs : List V} (i : Nat), RepPs K H μ L xs vs → RepPs K H μ L (xs.take i) (vs.take i)
  | [], _, i, h => by simp only [RepPs] at h; subst h; simp [RepPs]
  | _ :: _, _, 0, h => by simp [RepPs]
  | x :: xs, _, i + 1, h => by
    simp only [RepPs] at h
    obtain ⟨v, r, rfl, h1, h2⟩ := h
    simp only [List.take_succ_cons, RepPs]
    exact ⟨v, _, rfl, h1, RepPs.take i h2⟩
theorem RepPs.rev : ∀ {xs : List P} {vs : List V}, RepPs K H μ L xs vs → RepPs K H μ L xs.reverse vs.reverse
  | [], _, h => by simp only [RepPs] at h; subst h; simp [RepPs]
  | x :: xs, _, h => by
    simp only [RepPs] at h
    obtain ⟨v, r, rfl, h1, h2⟩ := h
    simp only [List.reverse_cons]
    refine RepPs.app (RepPs.rev h2) ?_
    simp only [RepPs]
    exact ⟨v, [], rfl, h1, rfl⟩
theorem RepDs.ofP : ∀ {xs : List P} {vs : List V}, RepPs K H μ L xs vs → RepDs K H μ L (xs.map D.p) vs
  | [], _, h => by simp only [RepPs] at h; exact h
  | x :: xs, _, h => by
    simp only [RepPs] at h
    obtain ⟨v, r, rfl, h1, h2⟩ := h
    exact ⟨v, r, rfl, h1, RepDs.ofP h2⟩
theorem RepDs.allP : ∀ {ds : List D} {xs : List P} {vs : List V}, MP.allP ds = some xs → RepDs K H μ L ds vs → RepPs K H μ L xs vs
  | [], _, _, e, h => by
    simp only [MP.allP, Option.some.injEq] at e; subst e; simp only [RepPs]; exact h
  | .p x :: ds, _, _, e, h => by
    obtain ⟨v, r, rfl, h1, h2⟩ := h
    simp only [MP.allP] at e
    split at e
    · rename_i ys hy
      cases e
      simp only [RepPs]
      exact ⟨v, r, rfl, h1, RepDs.allP hy h2⟩
    · cases e
  | .ref _ :: _, _, _, e, _ => by simp [MP.allP] at e
end
/-- the slots -/
def SimE (K : PySem.W.Frag) (H : Hp) (μ : Gh) (L : Nat) (ρ : En) (σ : L2.St) : Prop := ρ.length = σ.length ∧ ∀ (i : Nat) (d : D), ρ[i]? = some (some d) → ∃ v, σ[i]? = some (some v) ∧ RepD K H μ L d v
section
variable {K : PySem.W.Frag} {μ μ' : Gh} {L L' : Nat} {H H' : Hp} {ρ : En} {σ : L2.St}
theorem SimE.step (e : SimE K H μ L ρ σ) (s : Step μ L H μ' L' H') : SimE K H' μ' L' ρ σ :=
  ⟨e.1, fun i d h => let ⟨v, h1, h2⟩ := e.2 i d h; ⟨v, h1, s.repD h2⟩⟩
theorem SimE.set (e : SimE K H μ L ρ σ) {d : D} {v : V} (i : Nat) (r : RepD K H μ L d v) : SimE K H μ L (ρ.set i (some d)) (σ.set i (some v)) := by
  refine ⟨by rw [List.length_set, List.length_set]; exact e.1, fun j d' h => ?_⟩
  by_cases hij : i = j
  · subst hij
    by_cases hl : i < ρ.length
    · rw [List.getElem?_set_self hl] at h
      cases h
      exact ⟨v, List.getElem?_set_self (by rw [← e.1]; exact hl), r⟩
    · rw [List.getElem?_eq_none (by simpa using hl)] at h; cases h
  · rw [List.getElem?_set_ne hij] at h ⊢
    exact e.2 j d' h
theorem SimE.unset (e : SimE K H μ L ρ σ) (i : Nat) : SimE K H μ L (ρ.set i none) (σ.set i none) := by
  refine ⟨by rw [List.length_set, List.length_set]; exact e.1, fun j d' h => ?_⟩
  by_cases hij : i = j
  · subst hij
    by_cases hl : i < ρ.length
    · rw [List.getElem?_set_self hl] at h; cases h
    · rw [List.getElem?_eq_none (by simpa using hl)] at h; cases h
  · rw [List.getElem?_set_ne hij] at h ⊢
    exact e.2 j d' h
end
end MP

end
section
set_option Elab.async false
set_option maxRecDepth 100000
set_option linter.all false
/-! Which code belongs to which text. -/
namespace MP
open PySem

structure FT where
  nm : Str
  ps : List Str
  N : List Str
  st : Stmt
  fn : Fn
/-- the defs, the names of the errors -/
structure Lk where
  fns : List FT
  cls : List Str
  bcl : List Str

def vis (sc : Scope) (x : Str) : Bool := match sc.names.lookup x with
  | some .local => true
  | some .cell => true
  | some .free => true
  | _ => false
def okName (x : Str) : Bool := !(x == ("__debug__" : Str)) && !(x == ("__classdict__" : Str)) && !(x == ("__name__" : Str))
def glo (sc : Scope) (x : Str) : Bool := (match sc.names.lookup x with
  | some .globalImplicit => true
  | _ => false) && okName x
def opOk : Op → Operator → Bool
  | .add, .Add => true
  | .sub, .Sub => true
  | .mul, .Mult => true
  | .mod, .Mod => true
  | .fdiv, .FloorDiv => true
  | .pow, .Pow => true
  | _, _ => false
def cmOk : Cm → CmpOp → Bool
  | .eq, .Eq => true
  | .ne, .NotEq => true
  | .lt, .Lt => true
  | .le, .LtE => true
  | .gt, .Gt => true
  | .ge, .GtE => true
  | .is, .Is => true
  | .isn, .IsNot => true
  | _, _ => false
def kdN : Kd → String
  | .int => "int"
  | .bool => "bool"
  | .str => "str"
  | .tuple => "tuple"
  | .list => "list"
def kdIs (sc : Scope) (k : Kd) : Expr → Bool
  | .Name x _ => decide (x = Str.ofString (kdN k)) && glo sc x
  | _ => false
def kdsIs (sc : Scope) : List Kd → List Expr → Bool
  | [], [] => true
  | k :: ks, e :: es => kdIs sc k e && kdsIs sc ks es
  | _, _ => false
def kdE (sc : Scope) (ks : List Kd) : Expr → Bool
  | .Tuple es _ _ => kdsIs sc ks es && decide (ks.length ≤ 100)
  | e => match ks with
    | [k] => kdIs sc k e
    | _ => false
def biN : Bi → Str
  | .len => "len"
  | .int => "int"
  | .max2 => "max"
  | .sum => "sum"
  | .all => "all"
  | .any => "any"
  | .tuple => "tuple"
def Codes.isNil : Codes → Bool
  | .nil => true
  | _ => false
mutual
def chkTg (N : List Str) (loc : Str → Bool) : Tg → Expr → Bool
  | .nm i, .Name x _ => decide (N[i]? = some x) && loc x
  | .tp ts, .Tuple es _ _ => chkTgs N loc ts es
  | _, _ => false
def chkTgs (N : List Str) (loc : Str → Bool) : List Tg → List Expr → Bool
  | [], [] => true
  | t :: ts, e :: es => chkTg N loc t e && chkTgs N loc ts es
  | _, _ => false
end
def locD (sc : Scope) (x : Str) : Bool := match sc.names.lookup x with
  | some .local => true
  | some .cell => true
  | _ => false

def oneTwo : Codes → Bool
  | .cons _ .nil => true
  | .cons _ (.cons _ .nil) => true
  | _ => false
def condOk : Codes → Bool
  | .nil => true
  | .cons _ .nil => true
  | _ => false
/-- what is walked; f: the arguments' check -/
def chkWw (w : Wk) (f : List Expr → Bool) (as : Codes) (sc : Scope) (e t : Expr) : Bool := match w with
  | .seq => (match as with
    | .cons _ .nil => f [e]
    | _ => false)
  | .range => (match e with
    | .Call (.Name x _) es kws _ => decide (x = "range") && glo sc x && f es && kws.isEmpty && oneTwo as
    | _ => false)
  | .enum => (match as, e with
    | .cons _ .nil, .Call (.Name x _) (y :: r) kws _ => decide (x = "enumerate") && glo sc x && f [y] && r.isEmpty && kws.isEmpty && (match t with
      | .Tuple _ _ _ => true
      | _ => false)
    | _, _ => false)
def chkOo (f : List Expr → Bool) (as : Codes) (o : Option Expr) : Bool := match as, o with
  | .nil, none => true
  | .cons _ .nil, some e => f [e]
  | _, _ => false
section
variable (lk : Lk) (N : List Str)
mutual
def chk : Code → Scope → Expr → Bool
  | .var i, sc, .Name x _ => decide (N[i]? = some x) && vis sc x && okName x
  | .cint i, _, .Constant (.int j) _ _ => decide (i = j)
  | .cbl i, _, .Constant (.bool j) _ _ => decide (i = j)
  | .cnon, _, .Constant .none _ _ => true
  | .cstr i, _, .Constant (.str j) _ _ => decide (i = j)
  | .bin o a b, sc, .BinOp x op y _ => opOk o op && chk a sc x && chk b sc y
  | .neg a, sc, .UnaryOp .USub x _ => chk a sc x
  | .cmp o a b, sc, .Compare x [op] [y] _ => cmOk o op && chk a sc x && chk b sc y
  | .andC a b, sc, .BoolOp .And (x :: y :: r) p => match r with
    | [] => chk a sc x && chk b sc y
    | z :: r => chk a sc x && chk b sc (.BoolOp .And (y :: z :: r) p)
  | .orC a b, sc, .BoolOp .Or (x :: y :: r) p => match r with
    | [] => chk a sc x && chk b sc y
    | z :: r => chk a sc x && chk b sc (.BoolOp .Or (y :: z :: r) p)
  | .notC a, sc, .UnaryOp .Not x _ => chk a sc x
  | .ite c a b, sc, .IfExp x y z _ => chk c sc x && chk a sc y && chk b sc z
  | .tup as, sc, .Tuple es _ _ => chks as sc es
  | .lst _ as, sc, .List es _ => chks as sc es
  | .rep _ as b, sc, .BinOp (.List es _) .Mult y _ => chks as sc es && chk b sc y
  | .edc, _, .Dict [] [] _ => true
  | .ix a i, sc, .Subscript x y _ => chk a sc x && chk i sc y
  | .sl a lo hi, sc, .Subscript x (.Slice l u none _) _ => chk a sc x && chkOo (fun es => chks lo sc es) lo l && chkOo (fun es => chks hi sc es) hi u
  | .rev a, sc, .Subscript x (.Slice none none (some (.UnaryOp .USub (.Constant (.int i) _ _) _)) _) _ => decide (i = 1) && chk a sc x
  | .call f as, sc, .Call (.Name x _) es kws _ => (match lk.fns[f]? with
    | some ft => decide (ft.nm = x)
    | none => false) && glo sc x && chks as sc es && !as.isNil && kws.isEmpty
  | .isi a ks, sc, .Call (.Name x _) (y :: t :: r) kws _ => decide (x = "isinstance") && glo sc x && chk a sc y && kdE sc ks t && r.isEmpty && kws.isEmpty
  | .bi b as, sc, .Call (.Name x _) es kws _ => decide (x = biN b) && glo sc x && chks as sc es && !as.isNil && kws.isEmpty
  | .listOf _ a, sc, .Call (.Name x _) (y :: r) kws _ => decide (x = "list") && glo sc x && chk a sc y && r.isEmpty && kws.isEmpty
  | .listRg _ a, sc, .Call (.Name x _) (.Call (.Name z _) (y :: r') kws' _ :: r) kws _ => decide (x = "list") && glo sc x && decide (z = "range") && glo sc z && chk a sc y && r.isEmpty && kws.isEmpty && r'.isEmpty && kws'.isEmpty
  | .comp _ w as tg cond elt, sc, .ListComp el (⟨t, it, ifs, n⟩ :: r) scp _ => r.isEmpty && decide (n = 0) && chkWw w (fun es => chks as sc es) as sc it t &&
    L2.blkC N sc scp (tg.slots.filterMap fun i => N[i]?.map fun x => (x, i)) && chkTg N (locD scp) tg t &&
    chks cond (L2.relS scp sc) ifs && chk elt (L2.relS scp sc) el && condOk cond
  | _, _, _ => false
def chks : Codes → Scope → List Expr → Bool
  | .nil, _, [] => true
  | .cons a as, sc, e :: es => chk a sc e && chks as sc es
  | _, _, _ => false
end
/-- what is walked; enumerate wants a target of names -/
def chkW : Wk → Codes → Scope → Expr → Expr → Bool
  | .seq, .cons a .nil, sc, e, _ => chk lk N a sc e
  | .range, as, sc, .Call (.Name x _) es kws _, _ => decide (x = "range") && glo sc x && chks lk N as sc es && kws.isEmpty && oneTwo as
  | .enum, .cons a .nil, sc, .Call (.Name x _) (y :: r) kws _, t => decide (x = "enumerate") && glo sc x && chk lk N a sc y && r.isEmpty && kws.isEmpty && (match t with
    | .Tuple _ _ _ => true
    | _ => false)
  | _, _, _, _, _ => false
def chkO : Codes → Scope → Option Expr → Bool
  | .nil, _, none => true
  | .cons a .nil, sc, some e => chk lk N a sc e
  | _, _, _ => false
end
theorem chks_one (lk : Lk) (N : List Str) (a : Code) (sc : Scope) (e : Expr) : chks lk N (.cons a .nil) sc [e] = chk lk N a sc e := by simp [chks]
theorem chkWw_eq (lk : Lk) (N : List Str) (w : Wk) (as : Codes) (sc : Scope) (e t : Expr) : chkWw w (fun es => chks lk N as sc es) as sc e t = chkW lk N w as sc e t := by
  unfold chkWw
  cases w with
  | seq =>
    match as with
    | .nil => simp [chkW]
    | .cons a .nil => simp [chkW, chks_one]
    | .cons _ (.cons _ _) => simp [chkW]
  | range =>
    cases e <;> first | (simp [chkW]; done) | skip
    rename_i fn es kws p
    cases fn <;> first | (simp [chkW]; done) | skip
  | enum =>
    match as with
    | .nil => simp [chkW]
    | .cons _ (.cons _ _) => simp [chkW]
    | .cons a .nil =>
      cases e <;> first | (simp [chkW]; done) | skip
      rename_i fn es kws p
      cases fn <;> first | (simp [chkW]; done) | skip
      cases es <;> first | (simp [chkW]; done) | skip
      cases t <;> simp [chkW, chks_one]
theorem chkOo_eq (lk : Lk) (N : List Str) (as : Codes) (sc : Scope) (o : Option Expr) : chkOo (fun es => chks lk N as sc es) as o = chkO lk N as sc o := by
  unfold chkOo
  match as, o with
  | .nil, none => simp [chkO]
  | .nil, some _ => simp [chkO]
  | .cons _ .nil, none => simp [chkO]
  | .cons a .nil, some e => simp [chkO, chks_one]
  | .cons _ (.cons _ _), none => simp [chkO]
  | .cons _ (.cons _ _), some _ => simp [chkO]
end MP

end
section
set_option Elab.async false
set_option maxRecDepth 100000
set_option linter.all false
set_option maxHeartbeats 1000000
/-! The codes' worth for the texts: expressions. -/
namespace MP
open PySem PySem.Spec PyProof.Rows L2

/-- what is wanted behind a code that computes m -/
def Post {α : Type} (K : PySem.W.Frag) (cv : Nat → Value) (W : WX) (σ : L2.St) (μ : Gh) (L : Nat) (H : Hp) (m : R α) (Q : Gh → Hh → Hp → α → Prop) : Prop :=
  match m with
  | .ok a h => ∀ μ' H', Step μ L H μ' h.length H' → SimH K μ' h H' → Q μ' h H' a
  | .exc c h => ∀ μ' H', Step μ L H μ' h.length H' → SimH K μ' h H' → W (cv c) none σ H'
  | .stk => False
section
variable {K : PySem.W.Frag} {cv : Nat → Value} {W : WX} {σ : L2.St} {μ μ1 : Gh} {L L1 : Nat} {H H1 : Hp}
theorem Post.mono {α : Type} {m : R α} {Q Q' : Gh → Hh → Hp → α → Prop} (h : Post K cv W σ μ L H m Q) (hq : ∀ μ' h' H' a, Step μ L H μ' h'.length H' → SimH K μ' h' H' → Q μ' h' H' a → Q' μ' h' H' a) : Post K cv W σ μ L H m Q' := by
  cases m with
  | ok a h1 => exact fun μ' H' s e => hq _ _ _ _ s e (h μ' H' s e)
  | exc c h1 => exact h
  | stk => exact h
theorem Post.rebase {α : Type} {m : R α} {Q : Gh → Hh → Hp → α → Prop} (st : Step μ L H μ1 L1 H1) (h : Post K cv W σ μ L H m Q) : Post K cv W σ μ1 L1 H1 m Q := by
  cases m with
  | ok a h1 => exact fun μ' H' s e => h μ' H' (st.trans s) e
  | exc c h1 => exact fun μ' H' s e => h μ' H' (st.trans s) e
  | stk => exact h
theorem Post.bind {α β : Type} {m : R α} {f : α → Hh → R β} {Q : Gh → Hh → Hp → β → Prop} (h : Post K cv W σ μ L H (m.bind f) Q) :
    Post K cv W σ μ L H m fun μ' h' H' a => Post K cv W σ μ' h'.length H' (f a h') Q := by
  cases m with
  | ok a h1 => exact fun μ' H' s e => Post.rebase s h
  | exc c h1 => exact h
  | stk => exact h
end

section
variable (K : PySem.W.Frag) (cv : Nat → Value) (call : Nat → List D → Hh → R D) (W : WX)
/-- a code's reading -/
def tE (c : Code) : TE := fun σ H Q => ∃ μ h ρ, SimH K μ h H ∧ SimE K H μ h.length ρ σ ∧ Post K cv W σ μ h.length H (ev call c ρ h) fun μ' h' H' d => ∀ v, RepD K H' μ' h'.length d v → Q v H'
def tA (c : Codes) : TA := fun σ H Q => ∃ μ h ρ, SimH K μ h H ∧ SimE K H μ h.length ρ σ ∧ Post K cv W σ μ h.length H (evs call c ρ h) fun μ' h' H' d => ∀ v, RepDs K H' μ' h'.length d v → Q v H'
end
section
variable {K : PySem.W.Frag} {cv : Nat → Value} {call : Nat → List D → Hh → R D} {W : WX} {σ : L2.St} {μ : Gh} {H : Hp} {h : Hh} {ρ : En}
theorem tE.intro {c : Code} {Q : VK} {Q0 : Gh → Hh → Hp → D → Prop} (s : SimH K μ h H) (e : SimE K H μ h.length ρ σ) (p : Post K cv W σ μ h.length H (ev call c ρ h) Q0)
    (hq : ∀ μ' h' H' d v, Step μ h.length H μ' h'.length H' → SimH K μ' h' H' → SimE K H' μ' h'.length ρ σ → RepD K H' μ' h'.length d v → Q0 μ' h' H' d → Q v H') : tE K cv call W c σ H Q :=
  ⟨μ, h, ρ, s, e, p.mono fun μ' h' H' d st s' q v r => hq μ' h' H' d v st s' (e.step st) r q⟩
theorem tA.intro {c : Codes} {Q : List V → Hp → Prop} {Q0 : Gh → Hh → Hp → List D → Prop} (s : SimH K μ h H) (e : SimE K H μ h.length ρ σ) (p : Post K cv W σ μ h.length H (evs call c ρ h) Q0)
    (hq : ∀ μ' h' H' d v, Step μ h.length H μ' h'.length H' → SimH K μ' h' H' → SimE K H' μ' h'.length ρ σ → RepDs K H' μ' h'.length d v → Q0 μ' h' H' d → Q v H') : tA K cv call W c σ H Q :=
  ⟨μ, h, ρ, s, e, p.mono fun μ' h' H' d st s' q v r => hq μ' h' H' d v st s' (e.step st) r q⟩
end

theorem PE.imp {X : Cx} {e : Expr} {t t' : TE} (h : PE X e t) (i : ∀ σ H Q, t' σ H Q → t σ H Q) : PE X e t' := ⟨fun pins s σ H Q I q => h.run pins s σ H Q I (i σ H Q q)⟩
theorem PT.imp {X : Cx} {e : Expr} {t t' : TT} (h : PT X e t) (i : ∀ σ H Q, t' σ H Q → t σ H Q) : PT X e t' := ⟨fun pins s σ H Q I q => h.run pins s σ H Q I (i σ H Q q)⟩
theorem PW.imp {X : Cx} {e : Expr} {t t' : TT} (h : PW X e t) (i : ∀ σ H Q, t' σ H Q → t σ H Q) : PW X e t' := ⟨fun wh pins s σ H Q I q => h.run wh pins s σ H Q I (i σ H Q q)⟩
theorem PA.imp {X : Cx} {e : List Expr} {t t' : TA} (h : PA X e t) (i : ∀ σ H Q, t' σ H Q → t σ H Q) : PA X e t' := ⟨fun ps pins s σ H Q I q => h.run ps pins s σ H Q I (i σ H Q q)⟩

/-- a def's promise -/
def spF (K : PySem.W.Frag) (cv : Nat → Value) (call : Nat → List D → Hh → R D) (f n : Nat) : Sp := fun vs H Q E => vs.length = n ∧ ∃ μ h ds, SimH K μ h H ∧ RepDs K H μ h.length ds vs ∧
  Post K cv (fun c d _ H' => E c d H') [] μ h.length H (call f ds h) fun μ' h' H' d => ∀ v, RepD K H' μ' h'.length d v → Q v H'

def bNames : List Str := ["isinstance", "len", "int", "max", "sum", "all", "any", "tuple", "list", "range", "enumerate", "bool", "str"]
/-- where a code stands -/
structure Cok (lk : Lk) (cv : Nat → Value) (call : Nat → List D → Hh → R D) (k : Nat) (N : List Str) (sc : Scope) (X : Cx) (W : WX) : Prop where
  eN : X.N = N
  esc : X.env.scope = sc
  nd : N.Nodup
  calm : X.calm = true
  room : Room k X.A
  tk : Takes X W
  fns : ∀ (f : Nat) (ft : FT), lk.fns[f]? = some ft → ∃ (fa : Addr) (fd : FuncData), FnOk X.prog X.w X.K X.mg X.base (L2.CX X.prog X.w) k fa fd ft.ps (spF X.K cv call f ft.ps.length) ∧ X.mg ft.nm = some (.ref fa) ∧
    PySem.W.keepIn X.K (.ref fa) = true ∧ Binds X.K fd ft.ps []
  blt : ∀ x ∈ bNames, X.mg x = none
  ar : ∀ (f : Nat) (ft : FT) (ds : List D) (h : Hh), lk.fns[f]? = some ft → ds.length ≠ ft.ps.length → call f ds h = .stk
  cls : ∀ (c : Nat) (x : Str), lk.cls[c]? = some x → ∃ C : Addr, cv c = .ref C ∧ X.mg x = some (.ref C) ∧ PySem.W.keepIn X.K (.ref C) = true ∧ Raises X (.ref C) ∧
    PySem.W.excIn X.K C [.type "ValueError", .type "Exception", .type "BaseException", .type "object"] "ValueError.__new__" = true
section
variable {lk : Lk} {cv : Nat → Value} {call : Nat → List D → Hh → R D} {k : Nat} {N : List Str} {sc : Scope} {X : Cx} {W : WX}
theorem Cok.un (C : Cok lk cv call k N sc X W) : X.A.units + 64 < cLine := C.room.units
theorem Cok.gl (C : Cok lk cv call k N sc X W) {x : Str} (h : glo sc x = true) : Gl X x := by
  unfold glo at h
  rw [Bool.and_eq_true] at h
  unfold Gl Env.kindOf
  rw [C.esc]
  have := h.1
  split at this
  · assumption
  · cases this
theorem okName_dbg {x : Str} (h : okName x = true) : (x == ("__debug__" : Str)) = false := by
  unfold okName at h
  simp only [Bool.and_eq_true, Bool.not_eq_true'] at h
  exact h.1.1
theorem okName_cd {x : Str} (h : okName x = true) : (x == ("__classdict__" : Str)) = false := by
  unfold okName at h
  simp only [Bool.and_eq_true, Bool.not_eq_true'] at h
  exact h.1.2
theorem okName_nm {x : Str} (h : okName x = true) : x ≠ ("__name__" : Str) := by
  unfold okName at h
  simp only [Bool.and_eq_true, Bool.not_eq_true'] at h
  exact fun e => by
    have := h.2
    rw [e, beq_self_eq_true] at this
    cases this
theorem glo_ok {x : Str} (h : glo sc x = true) : okName x = true := by
  unfold glo at h
  rw [Bool.and_eq_true] at h
  exact h.2
theorem Cok.vis (C : Cok lk cv call k N sc X W) {x : Str} (h : vis sc x = true) : Vis X.env.scope x := by
  unfold MP.vis at h
  unfold Vis
  rw [C.esc]
  split at h
  · exact .inl (by assumption)
  · exact .inr (.inl (by assumption))
  · exact .inr (.inr (by assumption))
  · cases h
end
/-- what is shown of a code and its text -/
structure SndC (lk : Lk) (cv : Nat → Value) (call : Nat → List D → Hh → R D) (k : Nat) (c : Code) : Prop where
  pe : ∀ {N : List Str} {sc : Scope} {X : Cx} {W : WX} (e : Expr), Cok lk cv call k N sc X W → chk lk N c sc e = true → PE X e (tE X.K cv call W c)
  pt : ∀ {N : List Str} {sc : Scope} {X : Cx} {W : WX} (e : Expr), Cok lk cv call k N sc X W → chk lk N c sc e = true → PT X e (tTest (tE X.K cv call W c))
  pw : ∀ {N : List Str} {sc : Scope} {X : Cx} {W : WX} (op : BoolOp) (es : List Expr) (pos : Pos), Cok lk cv call k N sc X W → chk lk N c sc (.BoolOp op es pos) = true → PW X (.BoolOp op es pos) (tTest (tE X.K cv call W c))
/-- a text that is no test by itself -/
def plainE : Expr → Bool
  | .UnaryOp .Not _ _ => false
  | .BoolOp _ _ _ => false
  | .IfExp _ _ _ _ => false
  | .Compare _ _ _ _ => false
  | .Starred _ _ => false
  | _ => true
theorem plain_test {e : Expr} (h : plainE e = true) : ∀ (env : Env) (whole : Sem Value), isTrue e env whole = (do let v ← whole; standAt e.pos; holding [v] (truthy v)) := by
  intro env whole
  cases e <;> first | rfl | (simp [plainE] at h; done) | skip
  rename_i op x p
  cases op <;> first | rfl | simp [plainE] at h
theorem SndC.of_plain {lk : Lk} {cv : Nat → Value} {call : Nat → List D → Hh → R D} {k : Nat} {c : Code} (hp : ∀ {N : List Str} {sc : Scope} {e : Expr}, chk lk N c sc e = true → plainE e = true)
    (h : ∀ {N : List Str} {sc : Scope} {X : Cx} {W : WX} (e : Expr), Cok lk cv call k N sc X W → chk lk N c sc e = true → PE X e (tE X.K cv call W c)) : SndC lk cv call k c where
  pe := h
  pt := fun e C q => pt_val (h e C q) (plain_test (hp q) _)
  pw := fun op es pos C q => by
    have := hp q
    simp [plainE] at this
theorem chk_star {lk : Lk} {N : List Str} {sc : Scope} {c : Code} {e : Expr} (h : chk lk N c sc e = true) : ∀ es env, starEach (e :: es) env = (false, eval e env) :: starEach es env := by
  intro es env
  cases e <;> first | rfl | skip
  exfalso
  cases c <;> simp [chk] at h
end MP

end
section
set_option Elab.async false
set_option maxRecDepth 100000
set_option linter.all false
set_option maxHeartbeats 1000000
/-! Operations on values. -/
namespace MP
open PySem PySem.Spec PyProof.Rows L2
section
variable {X : Cx}
/-- list + list, whatever lists -/
def rCatL (K : PySem.W.Frag) : R2 := fun x y H Q => ∃ l b xs zs, x = .ref l ∧ y = .ref b ∧ SqL K H l xs ∧ SqL K H b zs ∧ xs.length + zs.length ≤ sizeLine ∧ ∀ p, H p = none → Q (.ref p) (upd H p (.lst (xs ++ zs)))
theorem op_catL : OpR X (binaryOp .Add) (rCatL X.K) := by
  rintro pins s σ H _ _ v u Q I rx ry ⟨l, b, xs, zs, rfl, rfl, hl, hb, hz, q⟩
  cases rx
  cases ry
  obtain ⟨i1, r1, ⟨⟨c1, d1, t1, s1⟩, n1, e1, c1', d1', t1'⟩, z1⟩ := I.list hl
  obtain ⟨i2, r2, ⟨⟨c2, d2, t2, s2⟩, n2, e2, c2', d2', t2'⟩, z2⟩ := I.list hb
  simp only at c1' d1' t1' c2' d2' t2'
  subst c1' d1' t1' c2' d2' t2'
  have l1 := r1.length
  have l2 := r2.length
  refine concat_meets ⟨_, e1, rfl⟩ ⟨_, e2, rfl⟩ noFill_list_add seq_list_add PySem.F.slot_list_add PySem.F.entry_list_add (PySem.F.args_list_add_2 _ _)
    (list_addW l b i1.toArray i2.toArray n1 n2 none none s1 s2 (by rw [List.size_toArray, List.size_toArray, ← l1, ← l2]; exact hz)) ⟨e1, e2, ?_⟩
  have ea : i1.toArray ++ i2.toArray = (i1 ++ i2).toArray := by simp
  rw [ea]
  exact ⟨.ref _, _, Inv.lnew (t' := s.toks) I (r1.append r2) (by rw [List.length_append]; exact hz), rfl, q _ I.fresh⟩
/-- == of sequences, one of them empty -/
def rEqE (K : PySem.W.Frag) (neg : Bool) : R2 := fun x y H Q => ∃ a b xs ys, x = .ref a ∧ y = .ref b ∧ ((SqT K H a xs ∧ SqT K H b ys) ∨ (SqL K H a xs ∧ SqL K H b ys)) ∧ (xs = [] ∨ ys = []) ∧
  Q (.bl (if neg then !(xs.isEmpty && ys.isEmpty) else (xs.isEmpty && ys.isEmpty))) H
theorem isE {xs : List V} {its : List Value} (r : Vals xs its) : xs.isEmpty = its.isEmpty := by cases r <;> rfl
theorem op_eqE (hu : X.A.units + 64 < cLine) : OpR X (compareOp .Eq) (rEqE X.K false) := by
  rintro pins s σ H _ _ v u Q I rx ry ⟨a, b, xs, ys, rfl, rfl, hs, he, q⟩
  cases rx
  cases ry
  have hu' : X.A.units < cLine := by omega
  rcases hs with ⟨h1, h2⟩ | ⟨h1, h2⟩
  · obtain ⟨i1, r1, p1, _⟩ := I.tuple h1
    obtain ⟨i2, r2, p2, _⟩ := I.tuple h2
    refine SeqAt.eq_tupleAt (e := fun _ => true) p1 p2 hu' (fun j j1 j2 => ?_) ⟨.bl _, H, I, ?_, q⟩
    · rcases he with rfl | rfl
      · cases r1; simp at j1
      · cases r2; simp at j2
    · show Value.bool _ = Value.bool _
      congr 1
      rcases he with rfl | rfl
      · cases r1
        cases r2 <;> simp
      · cases r2
        cases r1 <;> simp
  · obtain ⟨i1, r1, p1, _⟩ := I.list h1
    obtain ⟨i2, r2, p2, _⟩ := I.list h2
    rcases he with rfl | rfl
    · cases r1
      cases r2 with
      | nil => exact SeqAt.eq_listAt (e := fun _ => true) p1.isList p2.isList rfl hu' (fun j j1 j2 => by simp at j1) ⟨.bl _, H, I, rfl, q⟩
      | cons r rr => exact SeqAt.eq_list_lengthsAt p1.isList p2.isList (by simp) hu' ⟨.bl _, H, I, rfl, q⟩
    · cases r2
      cases r1 with
      | nil => exact SeqAt.eq_listAt (e := fun _ => true) p1.isList p2.isList rfl hu' (fun j j1 j2 => by simp at j1) ⟨.bl _, H, I, rfl, q⟩
      | cons r rr => exact SeqAt.eq_list_lengthsAt p1.isList p2.isList (by simp) hu' ⟨.bl _, H, I, rfl, q⟩
theorem op_neE (hu : X.A.units + 64 < cLine) : OpR X (compareOp .NotEq) (rEqE X.K true) := by
  rintro pins s σ H _ _ v u Q I rx ry ⟨a, b, xs, ys, rfl, rfl, hs, he, q⟩
  cases rx
  cases ry
  have hu' : X.A.units < cLine := by omega
  rcases hs with ⟨h1, h2⟩ | ⟨h1, h2⟩
  · obtain ⟨i1, r1, p1, _⟩ := I.tuple h1
    obtain ⟨i2, r2, p2, _⟩ := I.tuple h2
    refine SeqAt.RcNeAt.tuples (e := fun _ => true) p1 p2 hu' (fun j j1 j2 => ?_) X.prog X.w X.xe _ ⟨.bl _, H, I, ?_, q⟩
    · rcases he with rfl | rfl
      · cases r1; simp at j1
      · cases r2; simp at j2
    · show Value.bool _ = Value.bool _
      congr 1
      rcases he with rfl | rfl
      · cases r1
        cases r2 <;> simp
      · cases r2
        cases r1 <;> simp
  · obtain ⟨i1, r1, p1, _⟩ := I.list h1
    obtain ⟨i2, r2, p2, _⟩ := I.list h2
    rcases he with rfl | rfl
    · cases r1
      cases r2 with
      | nil => exact SeqAt.RcNeAt.lists (e := fun _ => true) p1.isList p2.isList rfl hu' (fun j j1 j2 => by simp at j1) X.prog X.w X.xe _ ⟨.bl _, H, I, rfl, q⟩
      | cons r rr => exact SeqAt.RcNeAt.lists_lengths p1.isList p2.isList (by simp) hu' X.prog X.w X.xe _ ⟨.bl _, H, I, rfl, q⟩
    · cases r2
      cases r1 with
      | nil => exact SeqAt.RcNeAt.lists (e := fun _ => true) p1.isList p2.isList rfl hu' (fun j j1 j2 => by simp at j1) X.prog X.w X.xe _ ⟨.bl _, H, I, rfl, q⟩
      | cons r rr => exact SeqAt.RcNeAt.lists_lengths p1.isList p2.isList (by simp) hu' X.prog X.w X.xe _ ⟨.bl _, H, I, rfl, q⟩
end
end MP

end
section
set_option Elab.async false
set_option maxRecDepth 100000
set_option linter.all false
set_option maxHeartbeats 2000000
/-! Operations on values: the codes' own. -/
namespace MP
open PySem PySem.Spec PyProof.Rows L2
/-- what a step on two values is worth -/
def V2 (K : PySem.W.Frag) (g : D → D → Hh → R D) : R2 := fun x y H Q => ∃ (cv : Nat → Value) (W : WX) (σ : L2.St) (μ : Gh) (h : Hh) (a b : D), SimH K μ h H ∧ RepD K H μ h.length a x ∧ RepD K H μ h.length b y ∧
  Post K cv W σ μ h.length H (g a b h) fun μ' h' H' d => ∀ v, RepD K H' μ' h'.length d v → Q v H'
def V1 (K : PySem.W.Frag) (g : D → Hh → R D) : V → Hp → VK → Prop := fun x H Q => ∃ (cv : Nat → Value) (W : WX) (σ : L2.St) (μ : Gh) (h : Hh) (a : D), SimH K μ h H ∧ RepD K H μ h.length a x ∧
  Post K cv W σ μ h.length H (g a h) fun μ' h' H' d => ∀ v, RepD K H' μ' h'.length d v → Q v H'
def VN (K : PySem.W.Frag) (g : List D → Hh → R D) : List V → Hp → VK → Prop := fun xs H Q => ∃ (cv : Nat → Value) (W : WX) (σ : L2.St) (μ : Gh) (h : Hh) (as : List D), SimH K μ h H ∧ RepDs K H μ h.length as xs ∧
  Post K cv W σ μ h.length H (g as h) fun μ' h' H' d => ∀ v, RepD K H' μ' h'.length d v → Q v H'
section
variable {K : PySem.W.Frag} {cv : Nat → Value} {W : WX} {σ : L2.St} {μ : Gh} {H : Hp} {h : Hh} {Q : VK}
/-- the end where nothing is made -/
theorem Post.here {x : P} (s : SimH K μ h H) (p : Post K cv W σ μ h.length H (.ok (.p x) h : R D) fun μ' h' H' d => ∀ v, RepD K H' μ' h'.length d v → Q v H') {v : V} (r : RepP K H μ h.length x v) : Q v H :=
  p μ H Step.refl s v r
theorem Post.hereD {d : D} (s : SimH K μ h H) (p : Post K cv W σ μ h.length H (.ok d h : R D) fun μ' h' H' d => ∀ v, RepD K H' μ' h'.length d v → Q v H') {v : V} (r : RepD K H μ h.length d v) : Q v H :=
  p μ H Step.refl s v r
theorem SimH.bne {p b : Addr} (hp : H p = none) (s : SimH K μ h H) (hb : μ.B b) : b ≠ p := by
  obtain ⟨o, e⟩ := s.tr b hb
  exact ne_of_none e hp
/-- a new thing -/
theorem Step.new {p : Addr} {o : HO} (hp : H p = none) (s : SimH K μ h H) : Step μ h.length H μ h.length (upd H p o) := by
  refine ⟨⟨Nat.le_refl _, fun _ _ => rfl, fun a u e _ => ?_, fun a u e n => ⟨?_, n⟩⟩, rfl, fun b hb => upd_ne (s.bne hp hb)⟩
  · rw [upd_ne (ne_of_none e hp)]; exact e
  · rw [upd_ne (ne_of_none e hp)]; exact e
theorem lt_of_get {α : Type} {l : List α} {n : Nat} {x : α} (e : l[n]? = some x) : n < l.length := by
  rcases Nat.lt_or_ge n l.length with q | q
  · exact q
  · rw [List.getElem?_eq_none q] at e; cases e
theorem SimH.step {H' : Hp} (s : SimH K μ h H) (st : Step μ h.length H μ h.length H') (k : ∀ n, n < h.length → H' (μ n) = H (μ n)) : SimH K μ h H' where
  nb := s.nb
  tr := fun b hb => by rw [st.bar b hb]; exact s.tr b hb
  inj := s.inj
  at_ := fun n ds e => let ⟨vs, h1, h2, h3⟩ := s.at_ n ds e; ⟨vs, (k n (lt_of_get e)).trans h1, st.repDs h2, h3⟩
theorem SimH.cell {n : Nat} (s : SimH K μ h H) (hn : n < h.length) : ∃ vs, H (μ n) = some (.lst vs) := by
  obtain ⟨vs, h1, _⟩ := s.at_ n h[n] (List.getElem?_eq_getElem hn)
  exact ⟨vs, h1⟩
theorem SimH.new {p : Addr} {o : HO} (hp : H p = none) (s : SimH K μ h H) : SimH K μ h (upd H p o) :=
  s.step (Step.new hp s) fun n hn => by
    obtain ⟨vs, e⟩ := s.cell hn
    exact upd_ne (ne_of_none e hp)
theorem SimH.nc_new {p : Addr} (hp : H p = none) (s : SimH K μ h H) : NC μ h.length p := ⟨fun hb => s.bne hp hb rfl, fun n hn e => by
  obtain ⟨vs, q⟩ := s.cell hn
  rw [e, hp] at q
  cases q⟩
/-- the end where a tuple is made -/
theorem Post.tup {xs : List P} {vs : List V} (s : SimH K μ h H) (p : Post K cv W σ μ h.length H (.ok (.p (.tup xs)) h : R D) fun μ' h' H' d => ∀ v, RepD K H' μ' h'.length d v → Q v H') (r : RepPs K H μ h.length xs vs) (hz : vs.length ≤ sizeLine)
    {a : Addr} (ha : H a = none) : Q (.ref a) (upd H a (.tup vs)) := by
  have st : Step μ h.length H μ h.length (upd H a (.tup vs)) := Step.new ha s
  refine p μ _ st (s.new ha) _ ?_
  simp only [RepD, RepP]
  exact ⟨a, vs, rfl, SqT.of upd_same, st.repPs xs vs r, hz⟩
theorem Post.tupSame {xs : List P} {vs : List V} (s : SimH K μ h H) (p : Post K cv W σ μ h.length H (.ok (.p (.tup xs)) h : R D) fun μ' h' H' d => ∀ v, RepD K H' μ' h'.length d v → Q v H') (r : RepPs K H μ h.length xs vs) (hz : vs.length ≤ sizeLine)
    {a : Addr} (ha : SqT K H a vs) : Q (.ref a) H := by
  refine p μ _ Step.refl s _ ?_
  simp only [RepD, RepP]
  exact ⟨a, vs, rfl, ha, r, hz⟩
/-- the state with one thing more that is not to be touched -/
def Gh.bar (μ : Gh) (a : Addr) : Gh := ⟨fun b => μ.B b ∨ b = a, μ.f⟩
theorem NC.unbar {a b : Addr} {L : Nat} (n : NC (μ.bar a) L b) : NC μ L b ∧ b ≠ a := ⟨⟨fun x => n.1 (.inl x), n.2⟩, fun x => n.1 (.inr x)⟩
theorem NC.mkBar {a b : Addr} {L : Nat} (n : NC μ L b) (ne : b ≠ a) : NC (μ.bar a) L b := ⟨fun x => x.elim n.1 ne, n.2⟩
theorem Tr.unbar {a : Addr} {L : Nat} : Tr (μ.bar a) L H μ L H := ⟨Nat.le_refl _, fun _ _ => rfl, fun _ _ h _ => h, fun _ _ h n => ⟨h, n.unbar.1⟩⟩
/-- the barred list is written -/
theorem Tr.updBar {a : Addr} {xs ys : List V} {L : Nat} (ha : H a = some (.lst xs)) : Tr (μ.bar a) L H (μ.bar a) L (upd H a (.lst ys)) where
  le := Nat.le_refl _
  mu := fun _ _ => rfl
  imm := fun b o e n => by
    rw [upd_ne]
    · exact e
    · rintro rfl; rw [ha] at e; cases e; simp [isLst] at n
  keep := fun b o e n => ⟨by rw [upd_ne n.unbar.2]; exact e, n⟩
/-- a run with the list at a barred, seen from a state ahead of it -/
theorem Step.seen {μ0 μ' : Gh} {L0 L L' : Nat} {H0 H' : Hp} {a : Addr} (s : Step μ0 L0 H0 μ L H) (t : Step (μ.bar a) L H (μ'.bar a) L' H') (eB : μ'.B = μ.B) (h0 : H0 a = none) : Step μ0 L0 H0 μ' L' H' where
  le := Nat.le_trans s.le t.le
  mu := fun n hn => (t.mu n (Nat.lt_of_lt_of_le hn s.le)).trans (s.mu n hn)
  imm := fun b o e n => t.imm b o (s.imm b o e n) n
  keep := fun b o e n => by
    obtain ⟨e1, n1⟩ := s.keep b o e n
    have ne : b ≠ a := ne_of_none e h0
    obtain ⟨e2, n2⟩ := t.keep b o e1 (n1.mkBar ne)
    exact ⟨e2, n2.unbar.1⟩
  eB := eB.trans s.eB
  bar := fun b hb => (t.bar b (.inl (by rw [s.eB]; exact hb))).trans (s.bar b hb)
theorem Step.updOut {μ0 : Gh} {L0 L : Nat} {H0 : Hp} {a : Addr} {o : HO} (s : Step μ0 L0 H0 μ L H) (h0 : H0 a = none) (hb : ∀ b, μ0.B b → b ≠ a) : Step μ0 L0 H0 μ L (upd H a o) where
  le := s.le
  mu := s.mu
  imm := fun b u e n => by rw [upd_ne (ne_of_none e h0)]; exact s.imm b u e n
  keep := fun b u e n => by rw [upd_ne (ne_of_none e h0)]; exact s.keep b u e n
  eB := s.eB
  bar := fun b h => by rw [upd_ne (hb b h)]; exact s.bar b h
theorem SimH.updBar {a : Addr} {xs ys : List V} (s : SimH K (μ.bar a) h H) (ha : H a = some (.lst xs)) : SimH K (μ.bar a) h (upd H a (.lst ys)) where
  nb := s.nb
  tr := fun b hb => by
    by_cases e : b = a
    · subst e; exact ⟨_, upd_same⟩
    · rw [upd_ne e]; exact s.tr b hb
  inj := s.inj
  at_ := fun n ds e => by
    obtain ⟨vs, h1, h2, h3⟩ := s.at_ n ds e
    have ne : μ n ≠ a := fun z => s.nb n (lt_of_get e) (.inr z)
    exact ⟨vs, (upd_ne ne).trans h1, (Tr.updBar ha).repDs h2, h3⟩
/-- the end where a list has been made that was not there at H0 -/
theorem Post.lstAt {c : Bool} {ds : List D} {vs : List V} {μ0 : Gh} {L0 : Nat} {H0 : Hp} {a : Addr} (s : SimH K (μ.bar a) h H) (st : Step μ0 L0 H0 μ h.length H) (p : Post K cv W σ μ0 L0 H0 (mkL c ds h) fun μ' h' H' d => ∀ v, RepD K H' μ' h'.length d v → Q v H')
    (r : RepDs K H (μ.bar a) h.length ds vs) (hz : vs.length ≤ sizeLine) (h0 : H0 a = none) (ha : H a = some (.lst vs)) (hB : ¬ μ.B a) : Q (.ref a) H := by
  have na : ∀ n, n < h.length → μ n ≠ a := fun n hn z => s.nb n hn (.inr z)
  have nB : ∀ n, n < h.length → ¬ μ.B (μ n) := fun n hn z => s.nb n hn (.inl z)
  unfold mkL at p
  cases c with
  | false =>
    simp only [Bool.false_eq_true, if_false] at p
    split at p
    · rename_i xs hx
      refine p μ _ st ⟨nB, fun b hb => s.tr b (.inl hb), s.inj, fun n es e => ?_⟩ _ ?_
      · obtain ⟨us, h1, h2, h3⟩ := s.at_ n es e
        exact ⟨us, h1, Tr.unbar.repDs h2, h3⟩
      · simp only [RepD, RepP]
        exact ⟨a, vs, rfl, .inl ⟨.inl ha, hB, na⟩, RepDs.allP hx (Tr.unbar.repDs r), hz⟩
    · exact p.elim
  | true =>
    simp only [if_true] at p
    have hlen : (h ++ [ds]).length = h.length + 1 := by simp
    -- the new cell
    let μ1 : Gh := ⟨μ.B, fun n => if n = h.length then a else μ n⟩
    have m1 : ∀ n, n < h.length → μ1 n = μ n := fun n hn => if_neg (Nat.ne_of_lt hn)
    have m2 : μ1 h.length = a := if_pos rfl
    have cs : ∀ {n : Nat}, n < (h ++ [ds]).length → n < h.length ∨ n = h.length := fun {n} hn => by
      rw [hlen] at hn
      exact Nat.lt_succ_iff_lt_or_eq.mp hn
    have up : ∀ {b : Addr}, NC μ h.length b → b ≠ a → NC μ1 (h ++ [ds]).length b := fun {b} n ne => ⟨n.1, fun j hj => by
      rcases cs hj with q | q
      · rw [m1 j q]; exact n.2 j q
      · subst q
        rw [m2]
        exact fun z => ne z.symm⟩
    have tr1 : Tr (μ.bar a) h.length H μ1 (h ++ [ds]).length H :=
      ⟨by rw [hlen]; exact Nat.le_succ _, m1, fun _ _ h _ => h, fun b o e n => ⟨e, up n.unbar.1 n.unbar.2⟩⟩
    have st1 : Step μ0 L0 H0 μ1 (h ++ [ds]).length H :=
      ⟨⟨by rw [hlen]; exact Nat.le_succ_of_le st.le, fun n hn => (m1 n (Nat.lt_of_lt_of_le hn st.le)).trans (st.mu n hn), st.imm,
        fun b u e n => ⟨(st.keep b u e n).1, up (st.keep b u e n).2 (ne_of_none e h0)⟩⟩, st.eB, st.bar⟩
    refine p μ1 _ st1 ⟨fun n hn => ?_, fun b hb => s.tr b (.inl hb), fun i j hi hj e => ?_, fun n es e => ?_⟩ _ ⟨by rw [hlen]; exact Nat.lt_succ_self _, by rw [m2]⟩
    · rcases cs hn with q | q
      · rw [m1 n q]; exact nB n q
      · subst q; rw [m2]; exact hB
    · rcases cs hi with q | q
      · rcases cs hj with q' | q'
        · rw [m1 i q, m1 j q'] at e; exact s.inj i j q q' e
        · subst q'; rw [m2, m1 i q] at e; exact (na i q e).elim
      · rcases cs hj with q' | q'
        · subst q; rw [m2, m1 j q'] at e; exact (na j q' e.symm).elim
        · omega
    · rcases Nat.lt_or_ge n h.length with q | q
      · rw [List.getElem?_append_left q] at e
        obtain ⟨us, h1, h2, h3⟩ := s.at_ n es e
        exact ⟨us, by rw [m1 n q]; exact h1, tr1.repDs h2, h3⟩
      · have hn := lt_of_get e
        rcases cs hn with z | z
        · omega
        · subst z
          rw [List.getElem?_append_right q] at e
          simp at e
          subst e
          exact ⟨vs, by rw [m2]; exact ha, tr1.repDs r, hz⟩
theorem Tr.newBar {a : Addr} {xs : List V} {L : Nat} (ha : H a = none) : Tr μ L H (μ.bar a) L (upd H a (.lst xs)) :=
  ⟨Nat.le_refl _, fun _ _ => rfl, fun b o e _ => by rw [upd_ne (ne_of_none e ha)]; exact e, fun b o e n => ⟨by rw [upd_ne (ne_of_none e ha)]; exact e, n.mkBar (ne_of_none e ha)⟩⟩
/-- a state with a new list, that one barred -/
theorem SimH.newBar {a : Addr} {xs : List V} (ha : H a = none) (s : SimH K μ h H) : SimH K (μ.bar a) h (upd H a (.lst xs)) where
  nb := fun n hn z => by
    rcases z with z | z
    · exact s.nb n hn z
    · exact (s.nc_new ha).2 n hn z
  tr := fun b hb => by
    by_cases e : b = a
    · subst e; exact ⟨_, upd_same⟩
    · rw [upd_ne e]; exact s.tr b (hb.elim id fun z => (e z).elim)
  inj := s.inj
  at_ := fun n ds e => by
    obtain ⟨vs, h1, h2, h3⟩ := s.at_ n ds e
    have ne : μ n ≠ a := (s.nc_new ha).2 n (lt_of_get e)
    exact ⟨vs, (upd_ne ne).trans h1, (Tr.newBar ha).repDs h2, h3⟩
/-- the end where a list is made -/
theorem Post.lst {c : Bool} {ds : List D} {vs : List V} (s : SimH K μ h H) (p : Post K cv W σ μ h.length H (mkL c ds h) fun μ' h' H' d => ∀ v, RepD K H' μ' h'.length d v → Q v H') (r : RepDs K H μ h.length ds vs) (hz : vs.length ≤ sizeLine)
    {a : Addr} (ha : H a = none) : Q (.ref a) (upd H a (.lst vs)) :=
  Post.lstAt (s.newBar ha) (Step.new ha s) p ((Tr.newBar ha).repDs r) hz ha upd_same fun hb => s.bne ha hb rfl
end
theorem small_ok {i : Int} (h : small i = true) : -(2 ^ 62) < i ∧ i < 2 ^ 62 := by
  unfold small at h
  simp only [Bool.and_eq_true, decide_eq_true_eq] at h
  exact h
section
variable {X : Cx}
theorem op_bin {o : Op} {op : Operator} (ho : opOk o op = true) : OpR X (binaryOp op) (V2 X.K (binD o)) := by
  rintro pins s σ H x y v u Q I rx ry ⟨cv, W, σ0, μ, h, a, b, sm, r1, r2, p⟩
  cases a with
  | ref n => exact p.elim
  | p a =>
    cases b with
    | ref n => exact p.elim
    | p b =>
      simp only [binD] at p
      cases a <;> cases b <;> simp only [binP, okP] at p <;> try exact p.elim
      · -- ints
        rename_i i j
        simp only [RepD, RepP] at r1 r2
        subst r1 r2
        cases o <;> cases op <;> first | (simp [opOk] at ho; done) | skip
        all_goals simp only [binI, Option.map_some] at p
        · exact op_add pins s σ H _ _ v u Q I rx ry ⟨i, j, rfl, rfl, p.here sm rfl⟩
        · exact op_sub pins s σ H _ _ v u Q I rx ry ⟨i, j, rfl, rfl, p.here sm rfl⟩
        · by_cases q : (small i || small j) = true
          · rw [if_pos q] at p
            refine op_mul pins s σ H _ _ v u Q I rx ry ⟨i, j, rfl, rfl, ?_, p.here sm rfl⟩
            rcases Bool.or_eq_true _ _ ▸ q with q | q
            · exact .inl (by have := small_ok q; omega)
            · exact .inr (by have := small_ok q; omega)
          · rw [if_neg q] at p; exact p.elim
        · by_cases q : 0 < j
          · rw [if_pos q] at p
            exact op_mod pins s σ H _ _ v u Q I rx ry ⟨i, j, rfl, rfl, q, p.here sm rfl⟩
          · rw [if_neg q] at p; exact p.elim
        · by_cases q : (decide (0 < j) && decide (j < 1073741824)) = true
          · rw [if_pos q] at p
            simp only [Bool.and_eq_true, decide_eq_true_eq] at q
            exact op_fdiv pins s σ H _ _ v u Q I rx ry ⟨i, j, rfl, rfl, q, p.here sm rfl⟩
          · rw [if_neg q] at p; exact p.elim
        · by_cases q : (decide (0 ≤ j) && decide (j ≤ 1000) && small i) = true
          · rw [if_pos q] at p
            simp only [Bool.and_eq_true, decide_eq_true_eq] at q
            have := small_ok q.2
            exact op_pow pins s σ H _ _ v u Q I rx ry ⟨i, j, rfl, rfl, ⟨q.1.1, by omega, by omega⟩, p.here sm rfl⟩
          · rw [if_neg q] at p; exact p.elim
      · rename_i xs ys
        by_cases q : o = .add ∧ xs.length + ys.length ≤ line
        · rw [if_pos q] at p
          obtain ⟨rfl, hz⟩ := q
          cases op <;> first | (simp [opOk] at ho; done) | skip
          simp only [RepD, RepP] at r1 r2
          obtain ⟨a1, vs1, rfl, s1, q1, z1⟩ := r1
          obtain ⟨a2, vs2, rfl, s2, q2, z2⟩ := r2
          have l1 := q1.length
          have l2 := q2.length
          have hz' : vs1.length + vs2.length ≤ sizeLine := by rw [l1, l2]; exact Nat.le_trans hz line_le
          refine op_catA pins s σ H _ _ v u Q I rx ry ⟨a1, a2, vs1, vs2, rfl, rfl, s1, s2, hz', fun e => ?_, fun e1 e => ?_, fun _ _ t ht => ?_⟩
          · subst e
            have : xs = [] := List.eq_nil_of_length_eq_zero (by rw [← l1]; rfl)
            subst this
            exact p.tupSame sm q2 z2 s2
          · subst e
            have : ys = [] := List.eq_nil_of_length_eq_zero (by rw [← l2]; rfl)
            subst this
            rw [List.append_nil] at p
            exact p.tupSame sm q1 z1 s1
          · exact p.tup sm (q1.app q2) (by rw [List.length_append]; exact hz') ht
        · rw [if_neg q] at p; exact p.elim
      · rename_i xs ys
        by_cases q : o = .add ∧ xs.length + ys.length ≤ line
        · rw [if_pos q] at p
          obtain ⟨rfl, hz⟩ := q
          cases op <;> first | (simp [opOk] at ho; done) | skip
          simp only [RepD, RepP] at r1 r2
          obtain ⟨a1, vs1, rfl, s1, q1, z1⟩ := r1
          obtain ⟨a2, vs2, rfl, s2, q2, z2⟩ := r2
          have l1 := q1.length
          have l2 := q2.length
          have hz' : vs1.length + vs2.length ≤ sizeLine := by rw [l1, l2]; exact Nat.le_trans hz line_le
          refine op_catL pins s σ H _ _ v u Q I rx ry ⟨a1, a2, vs1, vs2, rfl, rfl, s1.sq, s2.sq, hz', fun t ht => ?_⟩
          refine Post.lst (cv := cv) (W := W) (σ := σ0) (c := false) (ds := (xs ++ ys).map D.p) sm ?_ (RepDs.ofP (q1.app q2)) (by rw [List.length_append]; exact hz') ht
          simp only [mkL, Bool.false_eq_true, if_false, allP_map]
          exact p
        · rw [if_neg q] at p; exact p.elim
theorem un_negV : UnR X (unaryOp .USub) (V1 X.K negD) := by
  rintro pins s σ H x v Q I rx ⟨cv, W, σ0, μ, h, a, sm, r1, p⟩
  cases a with
  | ref n => exact p.elim
  | p a =>
    cases a <;> simp only [negD] at p <;> try exact p.elim
    simp only [RepD, RepP] at r1
    subst r1
    exact un_neg pins s σ H _ v Q I rx ⟨_, rfl, p.here sm rfl⟩
end
end MP

end
section
set_option Elab.async false
set_option maxRecDepth 100000
set_option linter.all false
set_option maxHeartbeats 4000000
/-! More operations on values. -/
namespace MP
open PySem PySem.Spec PyProof.Rows L2
section
variable {X : Cx}
theorem RepPs.isE {K : PySem.W.Frag} {H : Hp} {μ : Gh} {L : Nat} {xs : List P} {vs : List V} (r : RepPs K H μ L xs vs) : vs.isEmpty = xs.isEmpty := by
  have := r.length
  cases xs <;> cases vs <;> simp_all
theorem nil_of_isE {α : Type} {xs : List α} (h : xs.isEmpty = true) : xs = [] := by cases xs <;> simp_all
theorem dInt {i j : Int} : decide (V.int i = V.int j) = decide (i = j) := by simp
theorem dStr {i j : Str} : decide (V.str i = V.str j) = decide (i = j) := by simp
theorem dBl {i j : Bool} : decide (V.bl i = V.bl j) = decide (i = j) := by simp
theorem op_cmpEq (hu : X.A.units + 64 < cLine) (neg : Bool) {op : CmpOp} (ho : op = if neg then .NotEq else .Eq) (o : Cm) (hc : o = if neg then .ne else .eq) : OpR X (compareOp op) (V2 X.K (cmpD o)) := by
  rintro pins s σ H x y v u Q I rx ry ⟨cv, W, σ0, μ, h, a, b, sm, r1, r2, p⟩
  have e2 : ∀ {x y : P}, cmpP o x y = (eqP x y).map fun t => if neg then !t else t := by
    intro x y
    subst hc
    cases neg
    · simp [cmpP]
    · simp [cmpP]
  have fin : ∀ (t : Bool) (y' : P), eqP y' y' = eqP y' y' → True := fun _ _ _ => trivial
  cases a with
  | ref n =>
    cases b with
    | ref m => exact p.elim
    | p b =>
      subst hc
      cases b <;> cases neg <;> exact p.elim
  | p a =>
    cases b with
    | ref n => exact p.elim
    | p b =>
      simp only [cmpD, e2] at p
      have sc : ∀ (t : Bool), eqP a b = some t → scal x y = true → decide (x = y) = t → wpAny (model X.prog X.w) X.A (compareOp op v u) (EP X pins σ Q) X.xe s := by
        intro t et hs ht
        rw [et] at p
        subst ho
        cases neg with
        | false =>
          refine L2.op_eq pins s σ H _ _ v u Q I rx ry ⟨hs, ?_⟩
          rw [ht]
          exact p.here sm rfl
        | true =>
          refine L2.op_ne pins s σ H _ _ v u Q I rx ry ⟨hs, ?_⟩
          rw [ht]
          exact p.here sm rfl
      have sq : ∀ (xs ys : List P) (a1 a2 : Addr) (vs1 vs2 : List V), eqP a b = (if xs.isEmpty || ys.isEmpty then some (xs.isEmpty && ys.isEmpty) else none) → x = .ref a1 → y = .ref a2 → RepPs X.K H μ h.length xs vs1 → RepPs X.K H μ h.length ys vs2 →
          ((SqT X.K H a1 vs1 ∧ SqT X.K H a2 vs2) ∨ (SqL X.K H a1 vs1 ∧ SqL X.K H a2 vs2)) → wpAny (model X.prog X.w) X.A (compareOp op v u) (EP X pins σ Q) X.xe s := by
        intro xs ys a1 a2 vs1 vs2 et e1 e2 q1 q2 hs
        subst e1 e2
        rw [et] at p
        by_cases q : (xs.isEmpty || ys.isEmpty) = true
        · rw [if_pos q] at p
          have hE : vs1 = [] ∨ vs2 = [] := by
            rw [← q1.isE, ← q2.isE, Bool.or_eq_true] at q
            exact q.imp nil_of_isE nil_of_isE
          subst ho
          cases neg with
          | false =>
            refine op_eqE hu pins s σ H _ _ v u Q I rx ry ⟨a1, a2, vs1, vs2, rfl, rfl, hs, hE, ?_⟩
            rw [q1.isE, q2.isE]
            exact p.here sm rfl
          | true =>
            refine op_neE hu pins s σ H _ _ v u Q I rx ry ⟨a1, a2, vs1, vs2, rfl, rfl, hs, hE, ?_⟩
            rw [q1.isE, q2.isE]
            exact p.here sm rfl
        · rw [if_neg q] at p
          exact p.elim
      cases a <;> cases b <;> (try (simp only [eqP, Option.map_none, okP] at p; exact p.elim)) <;> simp only [RepD, RepP] at r1 r2
      · subst r1 r2; exact sc true rfl rfl rfl
      · subst r1 r2; exact sc _ rfl rfl dBl
      · subst r1 r2; exact sc _ rfl rfl dInt
      · subst r1 r2; exact sc _ rfl rfl dStr
      · obtain ⟨a1, vs1, q1, s1, t1, z1⟩ := r1
        obtain ⟨a2, vs2, q2, s2, t2, z2⟩ := r2
        exact sq _ _ a1 a2 vs1 vs2 rfl q1 q2 t1 t2 (.inl ⟨s1, s2⟩)
      · obtain ⟨a1, vs1, q1, s1, t1, z1⟩ := r1
        obtain ⟨a2, vs2, q2, s2, t2, z2⟩ := r2
        exact sq _ _ a1 a2 vs1 vs2 rfl q1 q2 t1 t2 (.inr ⟨s1.sq, s2.sq⟩)
theorem op_cmpI {o : Cm} {op : CmpOp} {g : Int → Int → Bool} (hr : OpR X (compareOp op) (rI0 fun i j => .bl (g i j))) (hg : ∀ x y, cmpP o x y = match x, y with | .int i, .int j => some (g i j) | _, _ => none) (hf : ∀ n b h, cmpD o (.ref n) b h = .stk) :
    OpR X (compareOp op) (V2 X.K (cmpD o)) := by
  rintro pins s σ H x y v u Q I rx ry ⟨cv, W, σ0, μ, h, a, b, sm, r1, r2, p⟩
  cases a with
  | ref n => rw [hf] at p; exact p.elim
  | p a =>
    cases b with
    | ref n => exact p.elim
    | p b =>
      simp only [cmpD, hg] at p
      cases a <;> cases b <;> first | exact p.elim | skip
      simp only [RepD, RepP] at r1 r2
      subst r1 r2
      exact hr pins s σ H _ _ v u Q I rx ry ⟨_, _, rfl, rfl, p.here sm rfl⟩
theorem op_cmpIs : OpR X (compareOp .Is) (V2 X.K (cmpD .is)) := by
  rintro pins s σ H x y v u Q I rx ry ⟨cv, W, σ0, μ, h, a, b, sm, r1, r2, p⟩
  have non : y = .non → ∀ t, decide (x = .non) = t → Q (.bl t) H → wpAny (model X.prog X.w) X.A (compareOp .Is v u) (EP X pins σ Q) X.xe s := fun e t et q =>
    op_isN pins s σ H _ _ v u Q I rx ry ⟨e, by rw [et]; exact q⟩
  cases a with
  | ref n =>
    cases b with
    | ref m => exact p.elim
    | p b =>
      cases b <;> first | exact p.elim | skip
      obtain ⟨_, rfl⟩ := r1
      simp only [RepD, RepP] at r2
      exact non r2 false rfl (p.here sm rfl)
  | p a =>
    cases b with
    | ref m => exact p.elim
    | p b =>
      cases b <;> simp only [cmpD, cmpP] at p <;> (try exact p.elim) <;> simp only [RepD, RepP] at r2
      · cases a <;> simp only [RepD, RepP] at r1
        · subst r1; exact non r2 true rfl (p.here sm rfl)
        · subst r1; exact non r2 false rfl (p.here sm rfl)
        · subst r1; exact non r2 false rfl (p.here sm rfl)
        · subst r1; exact non r2 false rfl (p.here sm rfl)
        · obtain ⟨_, _, rfl, _⟩ := r1; exact non r2 false rfl (p.here sm rfl)
        · obtain ⟨_, _, rfl, _⟩ := r1; exact non r2 false rfl (p.here sm rfl)
        · obtain ⟨_, rfl, _⟩ := r1; exact non r2 false rfl (p.here sm rfl)
      · cases a <;> simp only [RepD, RepP] at r1 <;> try exact p.elim
        subst r1 r2
        exact op_isBl pins s σ H _ _ v u Q I rx ry ⟨_, _, rfl, rfl, p.here sm rfl⟩
theorem op_cmpIsN : OpR X (compareOp .IsNot) (V2 X.K (cmpD .isn)) := by
  rintro pins s σ H x y v u Q I rx ry ⟨cv, W, σ0, μ, h, a, b, sm, r1, r2, p⟩
  have non : y = .non → ∀ t, decide (x = .non) = t → Q (.bl (!t)) H → wpAny (model X.prog X.w) X.A (compareOp .IsNot v u) (EP X pins σ Q) X.xe s := fun e t et q =>
    op_notN pins s σ H _ _ v u Q I rx ry ⟨e, by rw [et]; exact q⟩
  cases a with
  | ref n =>
    cases b with
    | ref m => exact p.elim
    | p b =>
      cases b <;> first | exact p.elim | skip
      obtain ⟨_, rfl⟩ := r1
      simp only [RepD, RepP] at r2
      exact non r2 false rfl (p.here sm rfl)
  | p a =>
    cases b with
    | ref m => exact p.elim
    | p b =>
      cases b <;> simp only [cmpD, cmpP] at p <;> (try exact p.elim) <;> simp only [RepD, RepP] at r2
      cases a <;> simp only [RepD, RepP] at r1
      · subst r1; exact non r2 true rfl (p.here sm rfl)
      · subst r1; exact non r2 false rfl (p.here sm rfl)
      · subst r1; exact non r2 false rfl (p.here sm rfl)
      · subst r1; exact non r2 false rfl (p.here sm rfl)
      · obtain ⟨_, _, rfl, _⟩ := r1; exact non r2 false rfl (p.here sm rfl)
      · obtain ⟨_, _, rfl, _⟩ := r1; exact non r2 false rfl (p.here sm rfl)
      · obtain ⟨_, rfl, _⟩ := r1; exact non r2 false rfl (p.here sm rfl)
theorem op_cmp {o : Cm} {op : CmpOp} (ho : cmOk o op = true) (hu : X.A.units + 64 < cLine) : OpR X (compareOp op) (V2 X.K (cmpD o)) := by
  cases o <;> cases op <;> first | (simp [cmOk] at ho; done) | skip
  · exact op_cmpEq hu false rfl _ rfl
  · exact op_cmpEq hu true rfl _ rfl
  · exact op_cmpI (g := fun i j => decide (i < j)) L2.op_lt (fun x y => by cases x <;> cases y <;> rfl) (fun n b h => by cases b <;> first | rfl | (rename_i b; cases b <;> rfl))
  · exact op_cmpI (g := fun i j => decide (i ≤ j)) L2.op_le (fun x y => by cases x <;> cases y <;> rfl) (fun n b h => by cases b <;> first | rfl | (rename_i b; cases b <;> rfl))
  · exact op_cmpI (g := fun i j => decide (j < i)) L2.op_gt (fun x y => by cases x <;> cases y <;> rfl) (fun n b h => by cases b <;> first | rfl | (rename_i b; cases b <;> rfl))
  · exact op_cmpI (g := fun i j => decide (j ≤ i)) L2.op_ge (fun x y => by cases x <;> cases y <;> rfl) (fun n b h => by cases b <;> first | rfl | (rename_i b; cases b <;> rfl))
  · exact op_cmpIs
  · exact op_cmpIsN
end
end MP

end
section
set_option Elab.async false
set_option maxRecDepth 100000
set_option linter.all false
set_option maxHeartbeats 4000000
/-! Items, slices, built-ins. -/
namespace MP
open PySem PySem.Spec PyProof.Rows L2
theorem at_get {α : Type} {xs : List α} {i : Int} {x : α} (h : at? xs i = some x) : ∃ j, ixN xs.length i = some j ∧ xs[j]? = some x := by
  unfold at? at h
  unfold ixN
  by_cases h0 : 0 ≤ i
  · rw [if_pos h0] at h ⊢
    have hl : i.toNat < xs.length := by
      rcases Nat.lt_or_ge i.toNat xs.length with q | q
      · exact q
      · rw [List.getElem?_eq_none q] at h; cases h
    rw [if_pos (by omega)]
    exact ⟨_, rfl, h⟩
  · rw [if_neg h0] at h ⊢
    by_cases h1 : -(xs.length : Int) ≤ i
    · rw [if_pos h1] at h ⊢
      exact ⟨_, rfl, h⟩
    · rw [if_neg h1] at h; cases h
theorem atI_of {α β : Type} {xs : List α} {ys : List β} {i : Int} {j : Nat} {y : β} (hl : ys.length = xs.length) (h : ixN xs.length i = some j) (e : ys[j]? = some y) : atI ys i = some y := by
  unfold atI
  rw [hl, h]
  exact e
theorem cutAt_eq (n d : Nat) (o : Option Int) : cutAt n d o = HT.sIx n d o := by
  cases o with
  | none => rfl
  | some v => rfl
section
variable {X : Cx}
theorem ix_V : IxR X (V2 X.K ixD) := by
  rintro value slice pins s σ H x y v u Q I rx ry ⟨cv, W, σ0, μ, h, a, b, sm, r1, r2, p⟩ hs
  refine ix_seq value slice pins s σ H x y v u Q I rx ry ?_ hs
  cases b with
  | ref n => cases a with
    | ref m => exact p.elim
    | p a => cases a <;> exact p.elim
  | p b =>
    cases b with
    | int i =>
      simp only [RepD, RepP] at r2
      subst r2
      cases a with
      | ref n =>
        obtain ⟨hn, rfl⟩ := r1
        simp only [ixD] at p
        cases e : h[n]? with
        | none => rw [e] at p; exact p.elim
        | some ds =>
          rw [e] at p
          simp only [] at p
          obtain ⟨vs, h1, h2, h3⟩ := sm.at_ n ds e
          cases e2 : at? ds i with
          | none => rw [e2] at p; exact p.elim
          | some d =>
            rw [e2] at p
            obtain ⟨j, q1, q2⟩ := at_get e2
            obtain ⟨v, q3, q4⟩ := h2.get q2
            exact .inl ⟨_, vs, i, v, rfl, rfl, SqL.of h1, atI_of h2.length q1 q3, p.hereD sm q4⟩
      | p a =>
        cases a <;> simp only [ixD] at p <;> try exact p.elim
        · rename_i xs
          simp only [RepD, RepP] at r1
          obtain ⟨a1, vs, rfl, s1, t1, z1⟩ := r1
          cases e2 : at? xs i with
          | none => rw [e2] at p; exact p.elim
          | some d =>
            rw [e2] at p
            obtain ⟨j, q1, q2⟩ := at_get e2
            obtain ⟨v, q3, q4⟩ := t1.get q2
            exact .inr (.inl ⟨a1, vs, i, v, rfl, rfl, s1, atI_of t1.length q1 q3, p.here sm q4⟩)
        · rename_i xs
          simp only [RepD, RepP] at r1
          obtain ⟨a1, vs, rfl, s1, t1, z1⟩ := r1
          cases e2 : at? xs i with
          | none => rw [e2] at p; exact p.elim
          | some d =>
            rw [e2] at p
            obtain ⟨j, q1, q2⟩ := at_get e2
            obtain ⟨v, q3, q4⟩ := t1.get q2
            exact .inl ⟨a1, vs, i, v, rfl, rfl, s1.sq, atI_of t1.length q1 q3, p.here sm q4⟩
    | _ => cases a with
      | ref m => exact p.elim
      | p a => cases a <;> exact p.elim
/-- a slice, its bounds known -/
def VSl (K : PySem.W.Frag) : V → Option Int → Option Int → Hp → VK → Prop := fun x l u H Q => ∃ (cv : Nat → Value) (W : WX) (σ : L2.St) (μ : Gh) (h : Hh) (a : D), SimH K μ h H ∧ RepD K H μ h.length a x ∧
  Post K cv W σ μ h.length H (slD a l u h) fun μ' h' H' d => ∀ v, RepD K H' μ' h'.length d v → Q v H'
theorem cut_rep {K : PySem.W.Frag} {H : Hp} {μ : Gh} {L : Nat} {xs : List P} {vs : List V} (r : RepPs K H μ L xs vs) (l u : Option Int) : RepPs K H μ L (cut xs l u) (cutV vs l u) := by
  unfold cut cutV
  rw [cutAt_eq, cutAt_eq, ← r.length]
  exact (r.drop _).take _
theorem sl_V : SlR X (VSl X.K) := by
  rintro pins s σ H x v vl vu lo hi sl Q I rx hs pl pu ⟨cv, W, σ0, μ, h, a, sm, r1, p⟩
  cases a with
  | ref n => exact p.elim
  | p a =>
    cases a <;> simp only [slD] at p <;> try exact p.elim
    · rename_i xs
      simp only [RepD, RepP] at r1
      obtain ⟨a1, vs, rfl, s1, t1, z1⟩ := r1
      have hz := Nat.le_trans (cutV_length vs lo hi) z1
      refine sl_tupA pins s σ H _ v vl vu lo hi sl Q I rx hs pl pu ⟨a1, vs, rfl, s1, fun w => ?_, fun w t ht => p.tup sm (cut_rep t1 lo hi) hz ht⟩
      have e : cutV vs lo hi = vs := by
        unfold cutV
        rw [w.1, w.2]
        simp
      have r := cut_rep t1 lo hi
      rw [e] at r
      exact p.tupSame sm r z1 s1
    · rename_i xs
      simp only [RepD, RepP] at r1
      obtain ⟨a1, vs, rfl, s1, t1, z1⟩ := r1
      have hz := Nat.le_trans (cutV_length vs lo hi) z1
      refine sl_list pins s σ H _ v vl vu lo hi sl Q I rx hs pl pu ⟨a1, vs, rfl, s1.sq, fun t ht => ?_⟩
      refine Post.lst (cv := cv) (W := W) (σ := σ0) (c := false) (ds := (cut xs lo hi).map D.p) sm ?_ (RepDs.ofP (cut_rep t1 lo hi)) hz ht
      simp only [mkL, Bool.false_eq_true, if_false, allP_map]
      exact p
end
end MP

end
section
set_option Elab.async false
set_option maxRecDepth 100000
set_option linter.all false
set_option maxHeartbeats 4000000
/-! Built-ins by value. -/
namespace MP
open PySem PySem.Spec PyProof.Rows L2
def tyN : P → String
  | .non => "NoneType"
  | .bl _ => "bool"
  | .int _ => "int"
  | .str _ => "str"
  | .tup _ => "tuple"
  | .lst _ => "list"
  | .edc => "dict"
section
variable {K : PySem.W.Frag} {H : Hp} {μ : Gh} {L : Nat}
theorem ty_sqT {a : Addr} {xs : List V} (h : SqT K H a xs) : TyX K H (.ref a) (.type "tuple") := by
  rcases h with (h | ⟨o, h⟩) | ⟨o, its, n, e, c, _⟩
  · exact .base (.tup h)
  · exact .fTuple h
  · exact .kTuple e c
theorem ty_sqL {a : Addr} {xs : List V} (h : SqL K H a xs) : TyX K H (.ref a) (.type "list") := by
  rcases h with (h | ⟨o, h⟩) | ⟨o, its, n, e, c, _⟩
  · exact .base (.lst h)
  · exact .base (.frz h)
  · exact .kList e c
theorem ty_repP {x : P} {v : V} (r : RepP K H μ L x v) : TyX K H v (.type (tyN x)) := by
  cases x <;> simp only [RepP] at r
  · subst r; exact .base .non
  · subst r; exact .base (.bl _)
  · subst r; exact .base (.int _)
  · subst r; exact .base (.str _)
  · obtain ⟨a, vs, rfl, s, _⟩ := r; exact ty_sqT s
  · obtain ⟨a, vs, rfl, s, _⟩ := r; exact ty_sqL s.sq
  · obtain ⟨a, rfl, s⟩ := r; exact .base (.dK s)
end
theorem kit_P {K : PySem.W.Frag} (x : P) (k : Kd) : PySem.W.kitOne K (.type (tyN x)) (.type (kdN k)) = some (isiP x k) := by
  cases x <;> cases k <;> simp only [tyN, kdN, isiP] <;> exact kit_ty (by decide +kernel)
theorem kit_L {K : PySem.W.Frag} (k : Kd) : PySem.W.kitOne K (.type "list") (.type (kdN k)) = some (k == .list) := by
  cases k <;> simp only [kdN] <;> exact kit_ty (by decide +kernel)
theorem kit_Ps {K : PySem.W.Frag} (x : P) : ∀ ks : List Kd, PySem.W.kitAny K (.type (tyN x)) (ks.map fun k => .type (kdN k)) = some (ks.any (isiP x))
  | [] => kitAny_nil
  | k :: ks => kitAny_cons (kit_P x k) (fun e => by rw [kit_Ps x ks, List.any_cons, e, Bool.false_or]) (fun e => by rw [List.any_cons, e, Bool.true_or])
theorem kit_Ls {K : PySem.W.Frag} : ∀ ks : List Kd, PySem.W.kitAny K (.type "list") (ks.map fun k => .type (kdN k)) = some (ks.any (· == .list))
  | [] => kitAny_nil
  | k :: ks => kitAny_cons (kit_L k) (fun e => by rw [kit_Ls ks, List.any_cons, e, Bool.false_or]) (fun e => by rw [List.any_cons, e, Bool.true_or])
theorem intsP_rep {K : PySem.W.Frag} {H : Hp} {μ : Gh} {L : Nat} : ∀ {xs : List P} {is : List Int} {vs : List V}, intsP xs = some is → RepPs K H μ L xs vs → vs = is.map V.int
  | [], _, _, e, r => by
    simp only [intsP, Option.some.injEq] at e
    simp only [RepPs] at r
    subst e r
    rfl
  | .int i :: xs, _, _, e, r => by
    simp only [RepPs] at r
    obtain ⟨v, r', rfl, h1, h2⟩ := r
    simp only [intsP] at e
    split at e
    · rename_i is hi
      cases e
      simp only [RepP] at h1
      rw [intsP_rep hi h2, h1]
      rfl
    · cases e
  | .non :: _, _, _, e, _ | .bl _ :: _, _, _, e, _ | .str _ :: _, _, _, e, _ | .tup _ :: _, _, _, e, _ | .lst _ :: _, _, _, e, _ | .edc :: _, _, _, e, _ => by simp [intsP] at e
theorem boolsP_rep {K : PySem.W.Frag} {H : Hp} {μ : Gh} {L : Nat} : ∀ {xs : List P} {is : List Bool} {vs : List V}, boolsP xs = some is → RepPs K H μ L xs vs → vs = is.map V.bl
  | [], _, _, e, r => by
    simp only [boolsP, Option.some.injEq] at e
    simp only [RepPs] at r
    subst e r
    rfl
  | .bl i :: xs, _, _, e, r => by
    simp only [RepPs] at r
    obtain ⟨v, r', rfl, h1, h2⟩ := r
    simp only [boolsP] at e
    split at e
    · rename_i is hi
      cases e
      simp only [RepP] at h1
      rw [boolsP_rep hi h2, h1]
      rfl
    · cases e
  | .non :: _, _, _, e, _ | .int _ :: _, _, _, e, _ | .str _ :: _, _, _, e, _ | .tup _ :: _, _, _, e, _ | .lst _ :: _, _, _, e, _ | .edc :: _, _, _, e, _ => by simp [boolsP] at e
section
variable {X : Cx}
theorem RepDs.one {K : PySem.W.Frag} {H : Hp} {μ : Gh} {L : Nat} {a : D} {vs : List V} (r : RepDs K H μ L [a] vs) : ∃ v, vs = [v] ∧ RepD K H μ L a v := by
  obtain ⟨v, r', rfl, h1, h2⟩ := r
  cases h2
  exact ⟨v, rfl, h1⟩
theorem RepDs.two {K : PySem.W.Frag} {H : Hp} {μ : Gh} {L : Nat} {a b : D} {vs : List V} (r : RepDs K H μ L [a, b] vs) : ∃ v u, vs = [v, u] ∧ RepD K H μ L a v ∧ RepD K H μ L b u := by
  obtain ⟨v, r', rfl, h1, h2⟩ := r
  obtain ⟨u, rfl, h3⟩ := h2.one
  exact ⟨v, u, rfl, h1, h3⟩
theorem bi_len : CallR X (.builtin "len") (VN X.K (biD .len)) := by
  rintro pins s σ H xs us Q I r ⟨cv, W, σ0, μ, h, as, sm, r1, p⟩
  refine call_len_seq pins s σ H xs us Q I r ?_
  match as, r1, p with
  | [], _, p => exact p.elim
  | [.ref n], r1, p =>
    obtain ⟨v, rfl, hn, rfl⟩ := r1.one
    simp only [biD, bi1, bi2] at p
    cases e : h[n]? with
    | none => rw [e] at p; exact p.elim
    | some ds =>
      rw [e] at p
      obtain ⟨vs, h1, h2, h3⟩ := sm.at_ n ds e
      refine ⟨_, vs, rfl, .inl (SqL.of h1), ?_⟩
      rw [h2.length]
      exact p.here sm rfl
  | [.p x], r1, p =>
    obtain ⟨v, rfl, h1⟩ := r1.one
    cases x <;> simp only [biD, bi1, bi2] at p <;> (try exact p.elim) <;> simp only [RepD, RepP] at h1
    · obtain ⟨a, vs, rfl, s1, t1, z1⟩ := h1
      refine ⟨a, vs, rfl, .inr s1, ?_⟩
      rw [t1.length]
      exact p.here sm rfl
    · obtain ⟨a, vs, rfl, s1, t1, z1⟩ := h1
      refine ⟨a, vs, rfl, .inl s1.sq, ?_⟩
      rw [t1.length]
      exact p.here sm rfl
  | [_, _], _, p => exact p.elim
  | _ :: _ :: _ :: _, _, p => exact p.elim
theorem bi_int : CallR X (.type "int") (VN X.K (biD .int)) := by
  rintro pins s σ H xs us Q I r ⟨cv, W, σ0, μ, h, as, sm, r1, p⟩
  refine call_int1 pins s σ H xs us Q I r ?_
  match as, r1, p with
  | [], _, p => exact p.elim
  | [.ref n], _, p => exact p.elim
  | [.p x], r1, p =>
    obtain ⟨v, rfl, h1⟩ := r1.one
    cases x <;> simp only [biD, bi1, bi2] at p <;> (try exact p.elim) <;> simp only [RepD, RepP] at h1
    subst h1
    exact .inl ⟨_, rfl, p.here sm rfl⟩
  | [_, _], _, p => exact p.elim
  | _ :: _ :: _ :: _, _, p => exact p.elim
theorem bi_max2 (hc : X.calm = true) : CallR X (.builtin "max") (VN X.K (biD .max2)) := by
  rintro pins s σ H xs us Q I r ⟨cv, W, σ0, μ, h, as, sm, r1, p⟩
  refine call_max2 hc pins s σ H xs us Q I r ?_
  match as, r1, p with
  | [], _, p => exact p.elim
  | [.p x], _, p => exact p.elim
  | [.ref n], _, p => exact p.elim
  | [a, b], r1, p =>
    obtain ⟨v, u, rfl, h1, h2⟩ := r1.two
    cases a with
    | ref n => exact p.elim
    | p a =>
      cases b with
      | ref n => cases a <;> exact p.elim
      | p b =>
        cases a <;> cases b <;> simp only [biD, bi1, bi2] at p <;> (try exact p.elim) <;> simp only [RepD, RepP] at h1 h2
        subst h1 h2
        exact ⟨_, _, rfl, p.here sm rfl⟩
  | _ :: _ :: _ :: _, _, p => exact p.elim
theorem bi_sum (hc : X.calm = true) : CallR X (.builtin "sum") (VN X.K (biD .sum)) := by
  rintro pins s σ H xs us Q I r ⟨cv, W, σ0, μ, h, as, sm, r1, p⟩
  refine cr_sum hc pins s σ H xs us Q I r ?_
  match as, r1, p with
  | [], _, p => exact p.elim
  | [.ref n], _, p => exact p.elim
  | [.p x], r1, p =>
    obtain ⟨v, rfl, h1⟩ := r1.one
    cases x <;> simp only [biD, bi1, bi2] at p <;> (try exact p.elim) <;> simp only [RepD, RepP] at h1
    rename_i xs
    obtain ⟨a, vs, rfl, s1, t1, z1⟩ := h1
    cases e : intsP xs with
    | none => rw [e] at p; exact p.elim
    | some is =>
      rw [e] at p
      have := intsP_rep e t1
      subst this
      exact ⟨a, is, rfl, s1.sq, p.here sm rfl⟩
  | [_, _], _, p => exact p.elim
  | _ :: _ :: _ :: _, _, p => exact p.elim
theorem bi_all (hc : X.calm = true) : CallR X (.builtin "all") (VN X.K (biD .all)) := by
  rintro pins s σ H xs us Q I r ⟨cv, W, σ0, μ, h, as, sm, r1, p⟩
  refine cr_all hc pins s σ H xs us Q I r ?_
  match as, r1, p with
  | [], _, p => exact p.elim
  | [.ref n], _, p => exact p.elim
  | [.p x], r1, p =>
    obtain ⟨v, rfl, h1⟩ := r1.one
    cases x <;> simp only [biD, bi1, bi2] at p <;> (try exact p.elim) <;> simp only [RepD, RepP] at h1
    rename_i xs
    obtain ⟨a, vs, rfl, s1, t1, z1⟩ := h1
    cases e : boolsP xs with
    | none => rw [e] at p; exact p.elim
    | some is =>
      rw [e] at p
      have := boolsP_rep e t1
      subst this
      exact ⟨a, is, rfl, s1.sq, p.here sm rfl⟩
  | [_, _], _, p => exact p.elim
  | _ :: _ :: _ :: _, _, p => exact p.elim
theorem bi_any (hc : X.calm = true) : CallR X (.builtin "any") (VN X.K (biD .any)) := by
  rintro pins s σ H xs us Q I r ⟨cv, W, σ0, μ, h, as, sm, r1, p⟩
  refine cr_any hc pins s σ H xs us Q I r ?_
  match as, r1, p with
  | [], _, p => exact p.elim
  | [.ref n], _, p => exact p.elim
  | [.p x], r1, p =>
    obtain ⟨v, rfl, h1⟩ := r1.one
    cases x <;> simp only [biD, bi1, bi2] at p <;> (try exact p.elim) <;> simp only [RepD, RepP] at h1
    rename_i xs
    obtain ⟨a, vs, rfl, s1, t1, z1⟩ := h1
    cases e : boolsP xs with
    | none => rw [e] at p; exact p.elim
    | some is =>
      rw [e] at p
      have := boolsP_rep e t1
      subst this
      exact ⟨a, is, rfl, s1.sq, p.here sm rfl⟩
  | [_, _], _, p => exact p.elim
  | _ :: _ :: _ :: _, _, p => exact p.elim
theorem bi_tuple : CallR X (.type "tuple") (VN X.K (biD .tuple)) := by
  rintro pins s σ H xs us Q I r ⟨cv, W, σ0, μ, h, as, sm, r1, p⟩
  refine call_tuple_of pins s σ H xs us Q I r ?_
  match as, r1, p with
  | [], _, p => exact p.elim
  | [.ref n], r1, p =>
    obtain ⟨v, rfl, hn, rfl⟩ := r1.one
    simp only [biD, bi1, bi2] at p
    cases e : h[n]? with
    | none => rw [e] at p; exact p.elim
    | some ds =>
      rw [e] at p
      simp only [] at p
      obtain ⟨vs, h1, h2, h3⟩ := sm.at_ n ds e
      cases e2 : allP ds with
      | none => rw [e2] at p; exact p.elim
      | some xs =>
        rw [e2] at p
        exact ⟨_, vs, rfl, .inl ⟨SqL.of h1, fun t ht => p.tup sm (RepDs.allP e2 h2) h3 ht⟩⟩
  | [.p x], r1, p =>
    obtain ⟨v, rfl, h1⟩ := r1.one
    cases x <;> simp only [biD, bi1, bi2] at p <;> (try exact p.elim) <;> simp only [RepD, RepP] at h1
    · obtain ⟨a, vs, rfl, s1, t1, z1⟩ := h1
      exact ⟨a, vs, rfl, .inr ⟨s1, p.tupSame sm t1 z1 s1⟩⟩
    · obtain ⟨a, vs, rfl, s1, t1, z1⟩ := h1
      exact ⟨a, vs, rfl, .inl ⟨s1.sq, fun t ht => p.tup sm t1 z1 ht⟩⟩
  | [_, _], _, p => exact p.elim
  | _ :: _ :: _ :: _, _, p => exact p.elim
theorem bi_list {c : Bool} : CallR X (.type "list") (VN X.K fun as h => match as with | [x] => listD c x h | _ => .stk) := by
  rintro pins s σ H xs us Q I r ⟨cv, W, σ0, μ, h, as, sm, r1, p⟩
  refine call_list_of pins s σ H xs us Q I r ?_
  match as, r1, p with
  | [], _, p => exact p.elim
  | [.ref n], _, p => exact p.elim
  | [.p x], r1, p =>
    obtain ⟨v, rfl, h1⟩ := r1.one
    cases x <;> simp only [listD] at p <;> (try exact p.elim) <;> simp only [RepD, RepP] at h1
    · obtain ⟨a, vs, rfl, s1, t1, z1⟩ := h1
      exact ⟨a, vs, rfl, .inr s1, fun t ht => p.lst sm (RepDs.ofP t1) z1 ht⟩
    · obtain ⟨a, vs, rfl, s1, t1, z1⟩ := h1
      exact ⟨a, vs, rfl, .inl s1.sq, fun t ht => p.lst sm (RepDs.ofP t1) z1 ht⟩
  | [_, _], _, p => exact p.elim
  | _ :: _ :: _ :: _, _, p => exact p.elim
end
end MP

end
section
set_option Elab.async false
set_option maxRecDepth 100000
set_option linter.all false
set_option maxHeartbeats 4000000
/-! enumerate over a tuple; t[::-1] of a tuple. -/
namespace MP
open PySem PySem.Spec PyProof.Rows L2
open PySem.Sem (wp)
abbrev itO (t : Addr) : Obj := { cls := .type "tuple_iterator", data := .fields #[.ref t, .int 0 0] }
abbrev enO (i : Addr) : Obj := { cls := .type "enumerate", data := .fields #[.none, .bool false, .ref i, rawInt 0, .none, .none] }
section
variable {prog : Program} {w : World} {A : Around} {E : Value → Shared → Prop} {s : Shared}
/-- what enumerate(t) lays -/
theorem meets_enumT (t : Addr) (its : Array Value) :
    Meets (Builtin.«enumerate.__new__» ⟨[.type "enumerate", .ref t], []⟩) (fun _ R s => s.heap.IsTuple t its ∧ R (.ok (.ret (.ref (s.heap.push (itO t)).objs.size))) { s with heap := (s.heap.push (itO t)).push (enO s.heap.objs.size) }) :=
  .of_wp fun prog w A R s h => by
    obtain ⟨hp, g, d, tk, os⟩ := s
    obtain ⟨ht, h⟩ := h
    have hsub := sub_enumerate
    wp_walk using wpAny_pyIter_tuple ht
    refine wpAny_stack_any fun st => wpAny_pure ?_
    split
    · rename_i c _ _ _ _ _
      cases (c == Value.type "enumerate") <;> (wp_walk using wpAny_pyIter_tuple ht; exact ⟨_, rfl, h⟩)
    · wp_walk using wpAny_pyIter_tuple ht
      exact ⟨_, rfl, h⟩
theorem call_enumT {t : Addr} {its : Array Value} {Q : Value → Shared → Prop} (ht : s.heap.IsTuple t its)
    (h : ∀ h', IsEnum h' (s.heap.objs.size + 1) s.heap.objs.size 0 .none → h'.IsTupleIter s.heap.objs.size t 0 → (∀ b o, s.heap.get? b = some o → h'.get? b = some o) →
      Q (.ref (s.heap.objs.size + 1)) { s with heap := h' }) : wpAny (model prog w) A (call (.type "enumerate") [.ref t]) Q E s := by
  refine callType_new F.called_enumerate (by decide) (F.typeCall_enumerate_1 _) (F.newCall_enumerate_1 _) (fun obj => F.args_object_init_2 obj _) F.entry_enumerate_new (meets_enumT t its) ⟨ht, ?_⟩
  show _ ∧ _
  have hz : (s.heap.push (itO t)).objs.size = s.heap.objs.size + 1 := Heap.size_push ..
  rw [hz]
  have he : IsEnum ((s.heap.push (itO t)).push (enO s.heap.objs.size)) (s.heap.objs.size + 1) s.heap.objs.size 0 .none := by
    have q := Heap.get?_push_size (s.heap.push (itO t)) (o := enO s.heap.objs.size) rfl
    rw [hz] at q
    exact q
  exact ⟨⟨_, he, rfl⟩, h _ he ⟨_, Heap.get?_push_of_some _ (Heap.get?_push_size _ rfl), rfl, rfl⟩ fun b o e => Heap.get?_push_of_some _ (Heap.get?_push_of_some _ e)⟩
end
/-- enumerate(t): each item in a new pair -/
def IteT (K : PySem.W.Frag) (a : Addr) : It :=
  ⟨fun i H => ∃ (xs : List V) (x : V), SqT K H a xs ∧ xs[i]? = some x, fun i H v H' => ∃ T x, v = .ref T ∧ H T = none ∧ H' = upd H T (.tup [.int (i : Nat), x]) ∧ ∀ xs, SqT K H a xs → xs[i]? = some x,
    fun i H => ∃ xs : List V, SqT K H a xs ∧ xs.length ≤ i⟩
theorem turn_enumT {P : Program} {w : World} {K : PySem.W.Frag} {elts : List Expr} {kk : Nat} {tpos : Pos} (a e it : Addr) (hne : e ≠ it) (hat : a ≠ it) (hae : e ≠ a) :
    Turn P w K (.Tuple elts kk tpos) (IteT K a) [e, it] e (fun i h => (∃ old, IsEnum h e it ((i : Nat) : Int) old) ∧ h.IsTupleIter it a i) where
  mem := by simp
  obj := fun i h st b hb => by
    obtain ⟨⟨old, he⟩, ⟨o, ho, hc, hd⟩⟩ := st
    rcases List.mem_cons.mp hb with z | z
    · rw [z]; exact ⟨_, he, fun v q => nomatch q⟩
    · rcases List.mem_cons.mp z with z | z
      · rw [z]; exact ⟨o, ho, fun v q => by rw [hd] at q; cases q⟩
      · cases z
  keep := fun i h h' st k => ⟨let ⟨old, he⟩ := st.1; ⟨old, k e (by simp) _ he⟩, st.2.at fun o q => k it (by simp) o q⟩
  item := by
    intro X hP hw hK hc i pins s σ H E I hf st hg
    subst hP hw hK
    obtain ⟨⟨old, he⟩, hit⟩ := st
    obtain ⟨xs, x, hq, hx⟩ := hg
    obtain ⟨its, rv, p, hz⟩ := I.tuple hq
    obtain ⟨u, hu, ru⟩ := rv.get hx
    have hel : e < s.heap.objs.size := Heap.lt_size he
    have hil : it < s.heap.objs.size := let ⟨_, q, _⟩ := hit; Heap.lt_size q
    have hlt : i < its.toArray.size := by
      rcases Nat.lt_or_ge i its.length with q | q
      · simpa using q
      · rw [List.getElem?_eq_none q] at hu; cases hu
    have hd1 : X.A.in1.handled = none := I.ok.hd hc
    refine wpAny_pyNext_enum_itemD (Draws.tuple hd1 it a hat its.toArray) he ⟨hit, p⟩ hlt hne (by simp [hne, hae]) fun y h' tk hy ho hst hT hsz hk => ?_
    have ey : y = u := by
      have : its[i]? = some y := by simpa using hy
      rw [hu] at this
      exact (Option.some.inj this).symm
    subst ey
    refine ⟨_, rfl, wpAny_letOwnedTupleGo_enum (s := { s with heap := h', toks := tk + 1 }) ho fun h2 he2 sb => ?_⟩
    have hT2 : h2.get? s.heap.objs.size = some { cls := .type "tuple", data := .seq #[.int i tk, y] } := (sb.2 _ (Nat.ne_of_gt hel)).trans hT
    have new : ObjOk X.prog X.w (upd H s.heap.objs.size (.tup [.int (i : Nat), x])) h2 s.heap.objs.size (.tup [.int (i : Nat), x]) :=
      ⟨by show 2 ≤ sizeLine; decide, [.int i tk, y], .cons ⟨_, rfl⟩ (.cons ru .nil), _, hT2, rfl, _, rfl⟩
    have I1 : Inv X pins σ (upd H s.heap.objs.size (.tup [.int (i : Nat), x])) { s with heap := h2, toks := tk + 1 } :=
      I.turnedNew (ch := [e, it]) (fun b ob hb q => (sb.2 b fun z => hb (by simp [z])).trans (hk b ob (fun z => hb (by simp [z])) (fun z => hb (by simp [z])) q)) hf (Nat.le_refl _) new
    refine ⟨.ref s.heap.objs.size, _, I1, rfl, ⟨_, x, rfl, I.hok.fresh (Nat.le_refl _), rfl, fun ys hys => by rw [I.tuple_inj hys hq]; exact hx⟩, ⟨⟨y, ?_⟩, hst.1.at fun o q => (sb.2 it (Ne.symm hne)).trans q⟩, fun b hb => ?_⟩
    · have e1 : ((i + 1 : Nat) : Int) = (i : Int) + 1 := by omega
      rw [e1]
      exact he2
    · have hb' : b < s.heap.objs.size := by
        rcases List.mem_cons.mp hb with z | z
        · exact z ▸ hel
        · rcases List.mem_cons.mp z with z | z
          · exact z ▸ hil
          · cases z
      rw [upd_ne (Nat.ne_of_lt hb')]
      exact (hf b hb).1
  done := by
    intro X hP hw hK hc i pins s σ H E I hf st hg
    subst hP hw hK
    obtain ⟨⟨old, he⟩, hit⟩ := st
    obtain ⟨xs, hq, hx⟩ := hg
    obtain ⟨its, rv, p, hz⟩ := I.tuple hq
    obtain ⟨f0, f1, f2, f3, f4, f5⟩ := hf it (by simp)
    have hl := rv.length
    have hd1 : X.A.in1.handled = none := I.ok.hd hc
    have T : s.TypeIs (.ref e) "enumerate" := ⟨_, he, rfl⟩
    have none_ : its.toArray[i]? = none := by simp; omega
    unfold pyNext
    refine wpAny_bind (wpAny_attempt (wpAny_callSpecial?_slot (name := Str.ofString "__next__") T F.slot_enumerate_next (wpAny_call_entry F.slot_enumerate_next T F.entry_enumerate_next ?_ (F.args_enumerate_next_1 _))))
    show wpAny _ _ (field (.ref e) 2 >>= _) _ _ _
    refine wpAny_bind (wpAny_field he rfl (x := .ref it) rfl ?_)
    refine wpAny_bind (wpAny_nextOf_tuple_end hd1 hit p none_ fun h' x eb hx' => ?_)
    obtain ⟨o, ho, hcl⟩ := hx'
    refine wpAny_bind (wpAny_isInstance (T := "StopIteration") (b := true) ⟨o, ho, hcl⟩ isSubtype_stop ?_)
    exact wpAny_pure ⟨rfl, I.turned (t' := s.toks) (fun b o hb q => eb b o hb q) f0 f1 f3 f4 f5⟩
  self := fun A i s Q E st h => let ⟨⟨_, he⟩, _⟩ := st; wpAny_pyIter_enum he h
def iEnT (K : PySem.W.Frag) (ta : TA) : TI := fun σ H R => ta σ H fun vs H1 => ∃ a xs, vs = [.ref a] ∧ ((SqL K H1 a xs ∧ R (Ite K a) H1) ∨ (SqT K H1 a xs ∧ R (IteT K a) H1))
theorem pi_enT {X : Cx} {e : Expr} {ta : TA} {p pos tpos : Pos} {elts : List Expr} {kk : Nat} (hg : Gl X "enumerate") (hm : X.mg "enumerate" = none) (ha : PA X [e] ta) (hs : starEach [e] X.env = [(false, eval e X.env)]) :
    PI X (.Tuple elts kk tpos) (.Call (.Name "enumerate" p) [e] [] pos) (iEnT X.K ta) := by
  refine ⟨fun pins s σ H R I h => ?_⟩
  refine Call_ (ld_blt I hg hm boot_enumerate (PyProof.Rows.callWith_type1 (thn (ha.run pos pins s σ H _ I h) fun us s1 ⟨vs, H1, I1, r1, q1⟩ => ?_) hs rfl))
  obtain ⟨a, xs, rfl, hq⟩ := q1
  cases r1 with
  | cons r rr =>
    cases rr
    cases r
    have new : ∀ b ∈ [s1.heap.objs.size + 1, s1.heap.objs.size], FpOk X pins H1 b := fun b hb => by
      have hle : s1.heap.objs.size ≤ b := by
        rcases List.mem_cons.mp hb with z | z
        · rw [z]; exact Nat.le_add_right _ _
        · rw [List.mem_singleton.mp z]; exact Nat.le_refl _
      exact I1.fpOk hle (I1.hok.fresh hle)
    rcases hq with ⟨hq, q⟩ | ⟨hq, q⟩
    · obtain ⟨its, rv, p', hz⟩ := I1.list hq
      refine call_enumerate_list p'.isList fun h' he hit hsz hk => wpAny_pyIter_enum he ?_
      exact ⟨s1.heap.objs.size + 1, _, _, _, H1, rfl, I1.kept (t' := s1.toks) hk, turn_enum a (s1.heap.objs.size + 1) s1.heap.objs.size, ⟨⟨.none, he⟩, hit, Nat.succ_ne_self _⟩, new, q⟩
    · obtain ⟨its, rv, p', hz⟩ := I1.tuple hq
      have hlt : a < s1.heap.objs.size := p'.lt
      refine call_enumT p' fun h' he hit hk => wpAny_pyIter_enum he ?_
      exact ⟨s1.heap.objs.size + 1, _, _, _, H1, rfl, I1.kept (t' := s1.toks) hk, turn_enumT a (s1.heap.objs.size + 1) s1.heap.objs.size (Nat.succ_ne_self _) (Nat.ne_of_lt hlt) (Nat.ne_of_gt (Nat.lt_succ_of_lt hlt)), ⟨⟨.none, he⟩, hit⟩, new, q⟩
end MP

end
section
set_option Elab.async false
set_option maxRecDepth 100000
set_option linter.all false
set_option maxHeartbeats 4000000
/-! t[::-1] of a tuple. -/
namespace MP
open PySem PySem.Spec PyProof.Rows L2
section
variable {prog : Program} {w : World} {A : Around} {E : Value → Shared → Prop} {s : Shared}
theorem places_rev (n : Nat) : Builtin.Slice.slicePlaces ((n : Int) - 1) (-1) (-1) = n := by
  unfold Builtin.Slice.slicePlaces
  rw [if_neg (by decide)]
  by_cases h : (n : Int) - 1 > -1
  · rw [if_pos h]
    have : (- (-1) : Int) = 1 := by decide
    rw [this, Int.ediv_one]
    omega
  · rw [if_neg h]
    simp
    omega
theorem applied_rev {sl : Addr} {vl vu vs : Value} {n : Nat} {Q : Int × Int × Nat → Shared → Prop} (hs : s.heap.IsSliceOf sl vl vu vs) (pl : IsPart vl none) (pu : IsPart vu none) (ps : IsPart vs (some (-1)))
    (h : Q ((n : Int) - 1, -1, n) s) : wpAny (model prog w) A (Builtin.Slice.sliceApplied (.ref sl) (pure (n : Int))) Q E s := by
  obtain ⟨os, h1, h2, h3⟩ := id hs
  unfold Builtin.Slice.sliceApplied Builtin.Slice.sliceFields
  refine wpAny_bind (wpAny_bind (wpAny_field h1 h3 (x := vl) rfl (wpAny_bind (wpAny_field h1 h3 (x := vu) rfl (wpAny_bind (wpAny_field h1 h3 (x := vs) rfl (wpAny_pure ?_)))))))
  refine wpAny_bind (HT.slicePart_ ps ?_)
  show wpAny _ _ (if ((-1 : Int) == 0) = true then _ else _) _ _ s
  rw [if_neg (by decide)]
  refine wpAny_bind (HT.slicePart_ pl (wpAny_bind (HT.slicePart_ pu (wpAny_bind (wpAny_pure ?_)))))
  show wpAny _ _ (pure ((n : Int) - 1, (-1 : Int), Builtin.Slice.slicePlaces ((n : Int) - 1) (-1) (-1))) _ _ s
  rw [places_rev]
  exact wpAny_pure h
theorem fm_congr {α β : Type} {f g : α → Option β} : ∀ {l : List α}, (∀ x ∈ l, f x = g x) → l.filterMap f = l.filterMap g
  | [], _ => rfl
  | x :: l, h => by
    simp only [List.filterMap_cons, h x List.mem_cons_self, fm_congr fun y hy => h y (List.mem_cons_of_mem x hy)]
theorem pick_rev (xs : Array Value) : ((List.range xs.size).filterMap fun (k : Nat) => xs[(((xs.size : Int) - 1) + (k : Int) * (-1)).toNat]?).toArray = xs.toList.reverse.toArray := by
  have e : ∀ k ∈ List.range xs.size, (fun (k : Nat) => xs[(((xs.size : Int) - 1) + (k : Int) * (-1)).toNat]?) k = ((fun j => xs[j]?) ∘ fun k => xs.size - 1 - k) k := fun k hk => by
    have := List.mem_range.mp hk
    show xs[(((xs.size : Int) - 1) + (k : Int) * (-1)).toNat]? = xs[xs.size - 1 - k]?
    congr 1
    omega
  rw [fm_congr e, ← List.filterMap_map, PySem.W.krv_range, List.filterMap_reverse, PySem.W.krv_all]
theorem getItem_tuple_rev {t sl : Addr} {its : Array Value} {vl vu vs : Value} {Q : Value → Shared → Prop} (ht : IsTup s.heap t its) (hs : s.heap.IsSliceOf sl vl vu vs) (pl : IsPart vl none) (pu : IsPart vu none) (ps : IsPart vs (some (-1)))
    (h : Q (.ref s.heap.objs.size) { s with heap := s.heap.push { cls := .type "tuple", data := .seq its.toList.reverse.toArray } }) (hz : its.size ≤ sizeLine) : wpAny (model prog w) A (getItem (.ref t) (.ref sl)) Q E s := by
  have hso : sizeOk (.seq its.toList.reverse.toArray) := by
    show its.toList.reverse.toArray.size ≤ sizeLine
    simpa using hz
  obtain ⟨os, h1, h2, h3⟩ := id hs
  have T : s.TypeIs (.ref sl) "slice" := ⟨os, h1, h2⟩
  unfold getItem
  try with_reducible refine wpAny_holding ?_
  first | refine wpAny_bind (wpAny_pure ?_) | skip
  refine wpAny_bind (wpAny_sequenceKey ht.typeIs (by decide) ?_)
  refine wpAny_bind (wpAny_callSpecial?_slot (name := Str.ofString "__getitem__") ht.typeIs PyProof.Rows.slot_tuple_getitem (wpAny_call_entry PyProof.Rows.slot_tuple_getitem ht.typeIs entry_tuple_getitem ?_ (args_tuple_getitem _ _)))
  show wpAny _ _ (Builtin.Tuple.tupleItemsOf (.ref t) >>= _) _ _ s
  refine wpAny_bind (tupleItemsOf_ ht (wpAny_bind (wpAny_typeOf T ?_)))
  rw [if_pos (by decide)]
  refine wpAny_bind (applied_rev hs pl pu ps ?_)
  show wpAny _ _ (if ((((its.size : Int) - 1) == 0 && (-1 : Int) == 1) && its.size == its.size) = true then _ else _) _ _ s
  rw [if_neg (by simp), pick_rev]
  first
    | exact wpAny_bind (m := Builtin.Tuple.tupleExact _) (wpAny_newObj_type (wpAny_pure ⟨_, rfl, wpAny_pure h⟩) hso)
    | exact wpAny_bind (m := Builtin.Tuple.tupleExact _) (wpAny_newObj_type (wpAny_bind (wpAny_pure (wpAny_pure ⟨_, rfl, wpAny_pure h⟩))) hso)
    | exact wpAny_bind (wpAny_bind (m := Builtin.Tuple.tupleExact _) (wpAny_newObj_type (wpAny_pure (wpAny_pure ⟨_, rfl, wpAny_pure h⟩)) hso))
    | exact wpAny_bind (wpAny_bind (m := Builtin.Tuple.tupleExact _) (wpAny_newObj_type (wpAny_pure ⟨_, rfl, wpAny_pure h⟩) hso))
end
def tRevT (K : PySem.W.Frag) (te : TE) : TE := fun σ H Q => te σ H fun x H1 => ∃ a xs, x = .ref a ∧ SqT K H1 a xs ∧ ∀ p, H1 p = none → Q (.ref p) (upd H1 p (.tup xs.reverse))
theorem pe_revT {X : Cx} {e : Expr} {te : TE} {k : Nat} {p1 p2 p3 pos : Pos} (he : PE X e te) : PE X (.Subscript e (.Slice none none (some (.UnaryOp .USub (.Constant (.int 1) k p1) p2)) p3) pos) (tRevT X.K te) := by
  refine ⟨fun pins s σ H Q I h => ?_⟩
  refine Subscript_ (thn (he.run pins s σ H _ I h) fun v s1 ⟨x, H1, I1, r1, a, xs, ex, hx, q⟩ => ?_)
  subst ex
  cases r1
  have hst : PO X (some (.UnaryOp .USub (.Constant (.int 1) k p1) p2)) (tPart (tUn (rU fun i => .int (-i)) (tC (.int 1)))) := po_some (pe_un un_neg pe_int)
  refine wpAny_Slice (thn (po_none.run pins s1 σ H1 (fun o H2 => o = none ∧ H2 = H1) I1 ⟨rfl, rfl⟩) fun vl s2 ⟨l, H2, I2, pl, el, e2⟩ => ?_)
  subst el e2
  refine thn (po_none.run pins s2 σ H2 (fun o H3 => o = none ∧ H3 = H2) I2 ⟨rfl, rfl⟩) fun vu s3 ⟨u, H3, I3, pu, eu, e3⟩ => ?_
  subst eu e3
  refine thn (hst.run pins s3 σ H3 (fun o H4 => o = some (-1) ∧ H4 = H3) I3 ⟨1, rfl, -1, rfl, rfl, rfl⟩) fun vs s4 ⟨o, H4, I4, ps, eo, e4⟩ => ?_
  subst eo e4
  have I5 : Inv X pins σ H4 { s4 with heap := s4.heap.push { cls := .type "slice", data := .fields #[vl, vu, vs] } } := I4.kept (t' := s4.toks) fun b ob q => Heap.get?_push_of_some _ q
  obtain ⟨its, r, ht, hz⟩ := I5.tuple hx
  have hlen := r.length
  show wpAny (model X.prog X.w) X.A (subscriptTail e (.Slice none none (some (.UnaryOp .USub (.Constant (.int 1) k p1) p2)) p3) (.ref a) (.ref s4.heap.objs.size)) (EP X pins σ Q) X.xe { s4 with heap := s4.heap.push { cls := .type "slice", data := .fields #[vl, vu, vs] } }
  refine tail_any (ops := [.ref a, .ref s4.heap.objs.size]) ht.typeIs (PyProof.Rows.slot_tuple_getitem.lookup) ?_ (by with_unfolding_all rfl)
  refine getItem_tuple_rev ht (Heap.IsSliceOf.new _ vl vu vs) pl pu ps ?_ (by rw [List.size_toArray]; omega)
  refine ⟨.ref _, _, I5.laid (t' := s4.toks) (o := .tup xs.reverse) (fun b ob q => Heap.get?_push_of_some _ q) (Nat.le_refl _) ?_, rfl, q _ (I5.hok.fresh (Nat.le_refl _))⟩
  exact ⟨by rw [List.length_reverse]; exact hz, _, r.reverse, IsTup.new _ _⟩
end MP

end
section
set_option Elab.async false
set_option maxRecDepth 100000
set_option linter.all false
set_option maxHeartbeats 4000000
/-! Each code for its text. -/
namespace MP
open PySem PySem.Spec PyProof.Rows L2
structure SndA (lk : Lk) (cv : Nat → Value) (call : Nat → List D → Hh → R D) (k : Nat) (c : Codes) : Prop where
  pa : ∀ {N : List Str} {sc : Scope} {X : Cx} {W : WX} (es : List Expr), Cok lk cv call k N sc X W → chks lk N c sc es = true → PA X es (tA X.K cv call W c)
section
variable {lk : Lk} {cv : Nat → Value} {call : Nat → List D → Hh → R D} {k : Nat}
theorem chks_any {N : List Str} {sc : Scope} : ∀ {c : Codes} {es : List Expr}, chks lk N c sc es = true → ∀ (pos : Pos) (env : Env), ((backTo pos (starEach es env)).any (·.1)) = false
  | .nil, [], _, _, _ => rfl
  | .nil, _ :: _, h, _, _ => by simp [chks] at h
  | .cons a as, [], h, _, _ => by simp [chks] at h
  | .cons a as, e :: es, h, pos, env => by
    simp only [chks, Bool.and_eq_true] at h
    have ih := chks_any h.2 pos env
    rw [chk_star h.1 es env]
    simp only [backTo, List.map_cons, List.any_cons, Bool.false_or]
    exact ih
theorem snd_nil : SndA lk cv call k .nil := ⟨fun {N sc X W} es C q => by
  cases es with
  | nil =>
    refine PA.imp pa_nil fun σ H Q ⟨μ, h, ρ, s, e, p⟩ => ?_
    simp only [evs] at p
    exact p μ H Step.refl s [] rfl
  | cons e es => simp [chks] at q⟩
theorem snd_cons {a : Code} {as : Codes} (ha : SndC lk cv call k a) (has : SndA lk cv call k as) : SndA lk cv call k (.cons a as) := ⟨fun {N sc X W} es C q => by
  cases es with
  | nil => simp [chks] at q
  | cons e es =>
    simp only [chks, Bool.and_eq_true] at q
    refine PA.imp (pa_cons (ha.pe e C q.1) (has.pa es C q.2) (chk_star q.1 es _)) fun σ H Q ⟨μ, h, ρ, s, e, p⟩ => ?_
    simp only [evs] at p
    refine tE.intro s e p.bind fun μ1 h1 H1 d v st s1 e1 r q => ?_
    refine tA.intro s1 e1 q.bind fun μ2 h2 H2 ds vs st2 s2 e2 rs q => ?_
    exact q μ2 H2 Step.refl s2 _ ⟨v, vs, rfl, st2.repD r, rs⟩⟩
theorem snd_var (i : Nat) : SndC lk cv call k (.var i) := SndC.of_plain (fun {N sc e} q => by cases e <;> first | rfl | (simp [chk] at q; done)) fun {N sc X W} e C q => by
  cases e <;> first | (simp [chk] at q; done) | skip
  rename_i x pos
  simp only [chk, Bool.and_eq_true, decide_eq_true_eq] at q
  refine PE.imp (pe_var (by rw [C.eN]; exact q.1.1) (C.vis q.1.2) (okName_dbg q.2) (okName_cd q.2)) fun σ H Q ⟨μ, h, ρ, s, e, p⟩ => ?_
  simp only [ev] at p
  split at p
  · rename_i d hd
    obtain ⟨v, h1, h2⟩ := e.2 i d hd
    exact ⟨v, h1, p μ H Step.refl s v h2⟩
  · exact p.elim
theorem snd_cint (i : Int) : SndC lk cv call k (.cint i) := SndC.of_plain (fun {N sc e} q => by cases e <;> first | rfl | (simp [chk] at q; done)) fun {N sc X W} e C q => by
  cases e <;> first | (simp [chk] at q; done) | skip
  rename_i c _ _
  cases c <;> first | (simp [chk] at q; done) | skip
  simp only [chk, decide_eq_true_eq] at q
  subst q
  refine PE.imp pe_int fun σ H Q ⟨μ, h, ρ, s, e, p⟩ => ?_
  simp only [ev] at p
  exact p μ H Step.refl s _ rfl
theorem snd_cbl (i : Bool) : SndC lk cv call k (.cbl i) := SndC.of_plain (fun {N sc e} q => by cases e <;> first | rfl | (simp [chk] at q; done)) fun {N sc X W} e C q => by
  cases e <;> first | (simp [chk] at q; done) | skip
  rename_i c _ _
  cases c <;> first | (simp [chk] at q; done) | skip
  simp only [chk, decide_eq_true_eq] at q
  subst q
  refine PE.imp pe_bl fun σ H Q ⟨μ, h, ρ, s, e, p⟩ => ?_
  simp only [ev] at p
  exact p μ H Step.refl s _ rfl
theorem snd_cstr (i : Str) : SndC lk cv call k (.cstr i) := SndC.of_plain (fun {N sc e} q => by cases e <;> first | rfl | (simp [chk] at q; done)) fun {N sc X W} e C q => by
  cases e <;> first | (simp [chk] at q; done) | skip
  rename_i c _ _
  cases c <;> first | (simp [chk] at q; done) | skip
  simp only [chk, decide_eq_true_eq] at q
  subst q
  refine PE.imp pe_str fun σ H Q ⟨μ, h, ρ, s, e, p⟩ => ?_
  simp only [ev] at p
  exact p μ H Step.refl s _ rfl
theorem snd_cnon : SndC lk cv call k .cnon := SndC.of_plain (fun {N sc e} q => by cases e <;> first | rfl | (simp [chk] at q; done)) fun {N sc X W} e C q => by
  cases e <;> first | (simp [chk] at q; done) | skip
  rename_i c _ _
  cases c <;> first | (simp [chk] at q; done) | skip
  refine PE.imp pe_non fun σ H Q ⟨μ, h, ρ, s, e, p⟩ => ?_
  simp only [ev] at p
  exact p μ H Step.refl s _ rfl
theorem snd_edc : SndC lk cv call k .edc := SndC.of_plain (fun {N sc e} q => by cases e <;> first | rfl | (simp [chk] at q; done)) fun {N sc X W} e C q => by
  cases e <;> first | (simp [chk] at q; done) | skip
  rename_i ks vs _
  cases ks <;> cases vs <;> first | (simp [chk] at q; done) | skip
  refine PE.imp pe_dnewK fun σ H Q ⟨μ, h, ρ, s, e, p⟩ => ?_
  simp only [ev] at p
  intro t ht
  refine p μ _ (Step.new ht s) (s.new ht) _ ?_
  simp only [RepD, RepP]
  exact ⟨t, rfl, upd_same⟩
/-- two parts, then a step on their values -/
theorem two_parts {X : Cx} {W : WX} {a b : Code} {g : D → D → Hh → R D} {σ : L2.St} {H : Hp} {Q : VK} {μ : Gh} {h : Hh} {ρ : En} (s : SimH X.K μ h H) (e : SimE X.K H μ h.length ρ σ)
    (p : Post X.K cv W σ μ h.length H ((ev call a ρ h).bind fun x h1 => (ev call b ρ h1).bind fun y h2 => g x y h2) fun μ' h' H' d => ∀ v, RepD X.K H' μ' h'.length d v → Q v H') :
    tOp (V2 X.K g) (tE X.K cv call W a) (tE X.K cv call W b) σ H Q := by
  refine tE.intro s e p.bind fun μ1 h1 H1 d v st s1 e1 r q => ?_
  refine tE.intro s1 e1 q.bind fun μ2 h2 H2 d2 v2 st2 s2 e2 r2 q => ?_
  exact ⟨cv, W, σ, μ2, h2, d, d2, s2, st2.repD r, r2, q⟩
theorem snd_bin {o : Op} {a b : Code} (ha : SndC lk cv call k a) (hb : SndC lk cv call k b) : SndC lk cv call k (.bin o a b) := SndC.of_plain (fun {N sc e} q => by cases e <;> first | rfl | (simp [chk] at q; done)) fun {N sc X W} e C q => by
  cases e <;> first | (simp [chk] at q; done) | skip
  simp only [chk, Bool.and_eq_true] at q
  refine PE.imp (pe_op (op_bin q.1.1) (ha.pe _ C q.1.2) (hb.pe _ C q.2)) fun σ H Q ⟨μ, h, ρ, s, e, p⟩ => ?_
  simp only [ev] at p
  exact two_parts s e p
theorem snd_neg {a : Code} (ha : SndC lk cv call k a) : SndC lk cv call k (.neg a) := SndC.of_plain (fun {N sc e} q => by
    cases e <;> first | rfl | (simp [chk] at q; done) | skip
    rename_i op _ _
    cases op <;> first | rfl | (simp [chk] at q; done)) fun {N sc X W} e C q => by
  cases e <;> first | (simp [chk] at q; done) | skip
  rename_i op _ _
  cases op <;> first | (simp [chk] at q; done) | skip
  simp only [chk] at q
  refine PE.imp (pe_un un_negV (ha.pe _ C q)) fun σ H Q ⟨μ, h, ρ, s, e, p⟩ => ?_
  simp only [ev] at p
  refine tE.intro s e p.bind fun μ1 h1 H1 d v st s1 e1 r q => ?_
  exact ⟨cv, W, σ, μ1, h1, d, s1, r, q⟩
theorem nm_of {o : Cm} {op : CmpOp} (h : cmOk o op = true) (b : Expr) : behindInMarks op b = false := by
  cases o <;> cases op <;> first | (simp [cmOk] at h; done) | exact nomark b
theorem snd_cmp {o : Cm} {a b : Code} (ha : SndC lk cv call k a) (hb : SndC lk cv call k b) : SndC lk cv call k (.cmp o a b) where
  pe := fun {N sc X W} e C q => by
    cases e <;> first | (simp [chk] at q; done) | skip
    rename_i x ops ys _
    match ops, ys, q with
    | [op], [y], q =>
      simp only [chk, Bool.and_eq_true] at q
      refine PE.imp (pe_cmpR (op_cmp q.1.1 C.un) (ha.pe _ C q.1.2) (hb.pe _ C q.2) (nm_of q.1.1 _)) fun σ H Q ⟨μ, h, ρ, s, e, p⟩ => ?_
      simp only [ev] at p
      exact two_parts s e p
    | [], _, q => simp [chk] at q
    | [_], [], q => simp [chk] at q
    | [_], _ :: _ :: _, q => simp [chk] at q
    | _ :: _ :: _, _, q => simp [chk] at q
  pt := fun {N sc X W} e C q => by
    cases e <;> first | (simp [chk] at q; done) | skip
    rename_i x ops ys _
    match ops, ys, q with
    | [op], [y], q =>
      simp only [chk, Bool.and_eq_true] at q
      refine PT.imp (pt_cmpR (op_cmp q.1.1 C.un) (ha.pe _ C q.1.2) (hb.pe _ C q.2) (nm_of q.1.1 _)) fun σ H Q ⟨μ, h, ρ, s, e, p⟩ => ?_
      simp only [ev] at p
      exact two_parts s e p
    | [], _, q => simp [chk] at q
    | [_], [], q => simp [chk] at q
    | [_], _ :: _ :: _, q => simp [chk] at q
    | _ :: _ :: _, _, q => simp [chk] at q
  pw := fun op es pos C q => by simp [chk] at q
/-- a value as a truth -/
theorem truth_rep {K : PySem.W.Frag} {H : Hp} {μ : Gh} {L : Nat} {d : D} {v : V} {b : Bool} (h : truth d = some b) (r : RepD K H μ L d v) : v = .bl b := by
  cases d with
  | ref n => simp [truth] at h
  | p x =>
    cases x <;> simp [truth] at h
    subst h
    simpa only [RepD, RepP] using r
theorem snd_not {a : Code} (ha : SndC lk cv call k a) : SndC lk cv call k (.notC a) := by
  have go : ∀ {X : Cx} {W : WX} {σ : L2.St} {H : Hp} {Q : VK}, tE X.K cv call W (.notC a) σ H Q → tE X.K cv call W a σ H fun x H1 => ∃ c, x = .bl c ∧ Q (.bl (!c)) H1 := by
    intro X W σ H Q ⟨μ, h, ρ, s, e, p⟩
    simp only [ev] at p
    refine tE.intro s e p.bind fun μ1 h1 H1 d v st s1 e1 r q => ?_
    cases ht : truth d with
    | none => rw [ht] at q; exact q.elim
    | some b =>
      rw [ht] at q
      exact ⟨b, truth_rep ht r, q μ1 H1 Step.refl s1 _ rfl⟩
  refine ⟨fun {N sc X W} e C q => ?_, fun {N sc X W} e C q => ?_, fun op es pos C q => by simp [chk] at q⟩
  · cases e <;> first | (simp [chk] at q; done) | skip
    rename_i op _ _
    cases op <;> first | (simp [chk] at q; done) | skip
    simp only [chk] at q
    exact PE.imp (pe_not (ha.pe _ C q)) fun σ H Q p => go p
  · cases e <;> first | (simp [chk] at q; done) | skip
    rename_i op _ _
    cases op <;> first | (simp [chk] at q; done) | skip
    simp only [chk] at q
    refine PT.imp (pt_not (ha.pt _ C q)) fun σ H Q p => ?_
    obtain ⟨μ, h, ρ, s, e, p⟩ := go p
    refine ⟨μ, h, ρ, s, e, p.mono fun μ' h' H' d _ _ q v r => ?_⟩
    obtain ⟨c, e1, c', e2, q⟩ := q v r
    cases e2
    exact ⟨c, e1, q⟩
theorem snd_ite {c a b : Code} (hc : SndC lk cv call k c) (ha : SndC lk cv call k a) (hb : SndC lk cv call k b) : SndC lk cv call k (.ite c a b) := by
  have go : ∀ {X : Cx} {W : WX} {σ : L2.St} {H : Hp} {Q : VK}, tE X.K cv call W (.ite c a b) σ H Q → tTest (tE X.K cv call W c) σ H fun b' H1 => if b' = true then tE X.K cv call W a σ H1 Q else tE X.K cv call W b σ H1 Q := by
    intro X W σ H Q ⟨μ, h, ρ, s, e, p⟩
    simp only [ev] at p
    refine tE.intro s e p.bind fun μ1 h1 H1 d v st s1 e1 r q => ?_
    cases ht : truth d with
    | none => rw [ht] at q; exact q.elim
    | some b' =>
      rw [ht] at q
      refine ⟨b', truth_rep ht r, ?_⟩
      cases b' with
      | true => exact ⟨μ1, h1, ρ, s1, e1, q⟩
      | false => exact ⟨μ1, h1, ρ, s1, e1, q⟩
  refine ⟨fun {N sc X W} e C q => ?_, fun {N sc X W} e C q => ?_, fun op es pos C q => by simp [chk] at q⟩
  · cases e <;> first | (simp [chk] at q; done) | skip
    simp only [chk, Bool.and_eq_true] at q
    exact PE.imp (pe_ifExp (hc.pt _ C q.1.1) (ha.pe _ C q.1.2) (hb.pe _ C q.2)) fun σ H Q p => go p
  · cases e <;> first | (simp [chk] at q; done) | skip
    rename_i x y z _
    simp only [chk, Bool.and_eq_true] at q
    have p1 := hc.pt _ C q.1.1
    have p2 := ha.pt _ C q.1.2
    have p3 := hb.pt _ C q.2
    refine ⟨fun pins s σ H Q I h => ?_⟩
    obtain ⟨μ, hh, ρ, sm, e, p⟩ := id h
    have g := go (X := X) (Q := fun v H' => ∃ k, v = .bl k ∧ Q k H') h
    show wpAny _ _ (isTrue x X.env (eval x X.env) >>= fun t => if t then isTrue y X.env (eval y X.env) else isTrue z X.env (eval z X.env)) _ _ s
    refine wpAny_bind (thn (p1.run pins s σ H _ I g) fun b s1 ⟨H1, I1, q1⟩ => ?_)
    cases b with
    | true => exact p2.run pins s1 σ H1 Q I1 q1
    | false => exact p3.run pins s1 σ H1 Q I1 q1
end
end MP

end
section
set_option Elab.async false
set_option maxRecDepth 100000
set_option linter.all false
set_option maxHeartbeats 4000000
/-! and, or; displays, items, calls. -/
namespace MP
open PySem PySem.Spec PyProof.Rows L2
section
variable {lk : Lk} {cv : Nat → Value} {call : Nat → List D → Hh → R D} {k : Nat}
theorem go_and {X : Cx} {W : WX} {a b : Code} {σ : L2.St} {H : Hp} {Q : VK} (h : tE X.K cv call W (.andC a b) σ H Q) :
    tE X.K cv call W a σ H fun x H1 => ∃ c, x = .bl c ∧ if c = true then tE X.K cv call W b σ H1 Q else Q (.bl false) H1 := by
  obtain ⟨μ, h, ρ, s, e, p⟩ := h
  simp only [ev] at p
  refine tE.intro s e p.bind fun μ1 h1 H1 d v st s1 e1 r q => ?_
  cases ht : truth d with
  | none => rw [ht] at q; exact q.elim
  | some b' =>
    rw [ht] at q
    refine ⟨b', truth_rep ht r, ?_⟩
    cases b' with
    | true => exact ⟨μ1, h1, ρ, s1, e1, q⟩
    | false => exact q μ1 H1 Step.refl s1 _ rfl
theorem go_or {X : Cx} {W : WX} {a b : Code} {σ : L2.St} {H : Hp} {Q : VK} (h : tE X.K cv call W (.orC a b) σ H Q) :
    tE X.K cv call W a σ H fun x H1 => ∃ c, x = .bl c ∧ if c = true then Q (.bl true) H1 else tE X.K cv call W b σ H1 Q := by
  obtain ⟨μ, h, ρ, s, e, p⟩ := h
  simp only [ev] at p
  refine tE.intro s e p.bind fun μ1 h1 H1 d v st s1 e1 r q => ?_
  cases ht : truth d with
  | none => rw [ht] at q; exact q.elim
  | some b' =>
    rw [ht] at q
    refine ⟨b', truth_rep ht r, ?_⟩
    cases b' with
    | true => exact q μ1 H1 Step.refl s1 _ rfl
    | false => exact ⟨μ1, h1, ρ, s1, e1, q⟩
theorem goT_and {X : Cx} {W : WX} {a b : Code} {σ : L2.St} {H : Hp} {Q : Bool → Hp → Prop} (h : tTest (tE X.K cv call W (.andC a b)) σ H Q) : tAnd (tTest (tE X.K cv call W a)) (tTest (tE X.K cv call W b)) σ H Q := by
  obtain ⟨μ, h, ρ, s, e, p⟩ := go_and h
  refine ⟨μ, h, ρ, s, e, p.mono fun μ' h' H' d _ _ q v r => ?_⟩
  obtain ⟨c, e1, q⟩ := q v r
  refine ⟨c, e1, ?_⟩
  cases c with
  | true => exact q
  | false =>
    obtain ⟨c', e2, q⟩ := q
    cases e2
    exact q
theorem goT_or {X : Cx} {W : WX} {a b : Code} {σ : L2.St} {H : Hp} {Q : Bool → Hp → Prop} (h : tTest (tE X.K cv call W (.orC a b)) σ H Q) : tOr (tTest (tE X.K cv call W a)) (tTest (tE X.K cv call W b)) σ H Q := by
  obtain ⟨μ, h, ρ, s, e, p⟩ := go_or h
  refine ⟨μ, h, ρ, s, e, p.mono fun μ' h' H' d _ _ q v r => ?_⟩
  obtain ⟨c, e1, q⟩ := q v r
  refine ⟨c, e1, ?_⟩
  cases c with
  | false => exact q
  | true =>
    obtain ⟨c', e2, q⟩ := q
    cases e2
    exact q
theorem snd_and {a b : Code} (ha : SndC lk cv call k a) (hb : SndC lk cv call k b) : SndC lk cv call k (.andC a b) := by
  have hpw : ∀ {N : List Str} {sc : Scope} {X : Cx} {W : WX} (op : BoolOp) (es : List Expr) (pos : Pos), Cok lk cv call k N sc X W → chk lk N (.andC a b) sc (.BoolOp op es pos) = true → PW X (.BoolOp op es pos) (tTest (tE X.K cv call W (.andC a b))) := by
    intro N sc X W op es pos C q
    cases op <;> first | (simp [chk] at q; done) | skip
    match es, q with
    | [x, y], q =>
      simp only [chk, Bool.and_eq_true] at q
      exact PW.imp (pw_and (ha.pt _ C q.1) (pw_and1 (hb.pt _ C q.2))) fun σ H Q p => goT_and p
    | x :: y :: z :: r, q =>
      simp only [chk, Bool.and_eq_true] at q
      exact PW.imp (pw_and (ha.pt _ C q.1) (hb.pw _ _ _ C q.2)) fun σ H Q p => goT_and p
    | [], q => simp [chk] at q
    | [_], q => simp [chk] at q
  refine ⟨fun {N sc X W} e C q => ?_, fun {N sc X W} e C q => ?_, hpw⟩
  · cases e <;> first | (simp [chk] at q; done) | skip
    rename_i op es pos
    cases op <;> first | (simp [chk] at q; done) | skip
    match es, q with
    | [x, y], q =>
      simp only [chk, Bool.and_eq_true] at q
      exact PE.imp (pe_and (ha.pe _ C q.1) (pe_one (hb.pe _ C q.2))) fun σ H Q p => go_and p
    | x :: y :: z :: r, q =>
      simp only [chk, Bool.and_eq_true] at q
      exact PE.imp (pe_and (ha.pe _ C q.1) (hb.pe _ C q.2)) fun σ H Q p => go_and p
    | [], q => simp [chk] at q
    | [_], q => simp [chk] at q
  · cases e <;> first | (simp [chk] at q; done) | skip
    exact (hpw _ _ _ C q).pt
theorem snd_or {a b : Code} (ha : SndC lk cv call k a) (hb : SndC lk cv call k b) : SndC lk cv call k (.orC a b) := by
  have hpw : ∀ {N : List Str} {sc : Scope} {X : Cx} {W : WX} (op : BoolOp) (es : List Expr) (pos : Pos), Cok lk cv call k N sc X W → chk lk N (.orC a b) sc (.BoolOp op es pos) = true → PW X (.BoolOp op es pos) (tTest (tE X.K cv call W (.orC a b))) := by
    intro N sc X W op es pos C q
    cases op <;> first | (simp [chk] at q; done) | skip
    match es, q with
    | [x, y], q =>
      simp only [chk, Bool.and_eq_true] at q
      exact PW.imp (pw_or (ha.pt _ C q.1) (pw_or1 (hb.pt _ C q.2))) fun σ H Q p => goT_or p
    | x :: y :: z :: r, q =>
      simp only [chk, Bool.and_eq_true] at q
      exact PW.imp (pw_or (ha.pt _ C q.1) (hb.pw _ _ _ C q.2)) fun σ H Q p => goT_or p
    | [], q => simp [chk] at q
    | [_], q => simp [chk] at q
  refine ⟨fun {N sc X W} e C q => ?_, fun {N sc X W} e C q => ?_, hpw⟩
  · cases e <;> first | (simp [chk] at q; done) | skip
    rename_i op es pos
    cases op <;> first | (simp [chk] at q; done) | skip
    match es, q with
    | [x, y], q =>
      simp only [chk, Bool.and_eq_true] at q
      exact PE.imp (pe_or (ha.pe _ C q.1) (pe_one (hb.pe _ C q.2))) fun σ H Q p => go_or p
    | x :: y :: z :: r, q =>
      simp only [chk, Bool.and_eq_true] at q
      exact PE.imp (pe_or (ha.pe _ C q.1) (hb.pe _ C q.2)) fun σ H Q p => go_or p
    | [], q => simp [chk] at q
    | [_], q => simp [chk] at q
  · cases e <;> first | (simp [chk] at q; done) | skip
    exact (hpw _ _ _ C q).pt
theorem snd_tup {as : Codes} (has : SndA lk cv call k as) : SndC lk cv call k (.tup as) := SndC.of_plain (fun {N sc e} q => by cases e <;> first | rfl | (simp [chk] at q; done)) fun {N sc X W} e C q => by
  cases e <;> first | (simp [chk] at q; done) | skip
  simp only [chk] at q
  refine PE.imp (pe_tup (has.pa _ C q)) fun σ H Q ⟨μ, h, ρ, s, e, p⟩ => ?_
  simp only [ev] at p
  refine tA.intro s e p.bind fun μ1 h1 H1 ds vs st s1 e1 r q => ?_
  by_cases hl : ds.length ≤ line
  · rw [if_pos hl] at q
    cases ha : allP ds with
    | none => rw [ha] at q; exact q.elim
    | some xs =>
      rw [ha] at q
      have hz : vs.length ≤ sizeLine := by rw [r.length]; exact Nat.le_trans hl line_le
      exact ⟨hz, fun t ht => Post.tup s1 q (RepDs.allP ha r) hz ht⟩
  · rw [if_neg hl] at q; exact q.elim
theorem snd_lst {c : Bool} {as : Codes} (has : SndA lk cv call k as) : SndC lk cv call k (.lst c as) := SndC.of_plain (fun {N sc e} q => by cases e <;> first | rfl | (simp [chk] at q; done)) fun {N sc X W} e C q => by
  cases e <;> first | (simp [chk] at q; done) | skip
  simp only [chk] at q
  refine PE.imp (pe_lst (has.pa _ C q)) fun σ H Q ⟨μ, h, ρ, s, e, p⟩ => ?_
  simp only [ev] at p
  refine tA.intro s e p.bind fun μ1 h1 H1 ds vs st s1 e1 r q => ?_
  by_cases hl : ds.length ≤ line
  · rw [if_pos hl] at q
    have hz : vs.length ≤ sizeLine := by rw [r.length]; exact Nat.le_trans hl line_le
    exact ⟨hz, fun t ht => Post.lst s1 q r hz ht⟩
  · rw [if_neg hl] at q; exact q.elim
theorem rep_flat {K : PySem.W.Frag} {H : Hp} {μ : Gh} {L : Nat} {ds : List D} {vs : List V} (r : RepDs K H μ L ds vs) : ∀ n : Nat, RepDs K H μ L (List.replicate n ds).flatten (List.replicate n vs).flatten
  | 0 => rfl
  | n + 1 => by
    simp only [List.replicate_succ, List.flatten_cons]
    exact r.app (rep_flat r n)
theorem len_flat {α : Type} (xs : List α) (n : Nat) : (List.replicate n xs).flatten.length = xs.length * n := by
  induction n with
  | zero => simp
  | succ n ih => simp only [List.replicate_succ, List.flatten_cons, List.length_append, ih, Nat.mul_succ, Nat.add_comm]
theorem snd_rep {c : Bool} {as : Codes} {b : Code} (has : SndA lk cv call k as) (hb : SndC lk cv call k b) : SndC lk cv call k (.rep c as b) := SndC.of_plain (fun {N sc e} q => by cases e <;> first | rfl | (simp [chk] at q; done)) fun {N sc X W} e C q => by
  cases e <;> first | (simp [chk] at q; done) | skip
  rename_i x op y _
  cases x <;> cases op <;> first | (simp [chk] at q; done) | skip
  simp only [chk, Bool.and_eq_true] at q
  refine PE.imp (pe_op op_rep (pe_lst (has.pa _ C q.1)) (hb.pe _ C q.2)) fun σ H Q ⟨μ, h, ρ, s, e, p⟩ => ?_
  simp only [ev] at p
  refine tA.intro s e p.bind fun μ1 h1 H1 ds vs st s1 e1 r q => ?_
  by_cases hl : ds.length ≤ line
  · rw [if_pos hl] at q
    have hz : vs.length ≤ sizeLine := by rw [r.length]; exact Nat.le_trans hl line_le
    refine ⟨hz, fun t ht => ?_⟩
    have st1 : Step μ1 h1.length H1 μ1 h1.length (upd H1 t (.lst vs)) := Step.new ht s1
    refine tE.intro (s1.new ht) (e1.step st1) (q.rebase st1).bind fun μ2 h2 H2 d v st2 s2 e2 r2 q => ?_
    cases d with
    | ref n => exact q.elim
    | p x =>
      cases x <;> simp only [repD] at q <;> (try exact q.elim)
      rename_i n
      simp only [RepD, RepP] at r2
      subst r2
      by_cases hk : (small n && decide (ds.length * n.toNat ≤ line)) = true
      · rw [if_pos hk] at q
        simp only [Bool.and_eq_true, decide_eq_true_eq] at hk
        have hs := small_ok hk.1
        have hll : vs.length * n.toNat ≤ sizeLine := by rw [r.length]; exact Nat.le_trans hk.2 line_le
        refine ⟨t, n, vs, rfl, rfl, (st2.keep t _ upd_same (s1.nc_new ht)).1, by omega, by omega, hll, fun z hz => ?_⟩
        exact Post.lst s2 q (rep_flat (st2.repDs (st1.repDs r)) _) (by rw [len_flat]; exact hll) hz
      · rw [if_neg hk] at q; exact q.elim
  · rw [if_neg hl] at q; exact q.elim
theorem plain_ix {N : List Str} {sc : Scope} {c : Code} {e : Expr} (h : chk lk N c sc e = true) : PlainIx e := by
  intro o i
  cases e <;> first | rfl | skip
  exfalso
  cases c <;> simp [chk] at h
theorem snd_ix {a b : Code} (ha : SndC lk cv call k a) (hb : SndC lk cv call k b) : SndC lk cv call k (.ix a b) := SndC.of_plain (fun {N sc e} q => by cases e <;> first | rfl | (simp [chk] at q; done)) fun {N sc X W} e C q => by
  cases e <;> first | (simp [chk] at q; done) | skip
  simp only [chk, Bool.and_eq_true] at q
  refine PE.imp (pe_ix ix_V (ha.pe _ C q.1) (hb.pe _ C q.2) (plain_ix q.2)) fun σ H Q ⟨μ, h, ρ, s, e, p⟩ => ?_
  simp only [ev] at p
  exact two_parts s e p
/-- a slice's bound -/
theorem po_code {X : Cx} {N : List Str} {sc : Scope} {W : WX} {c : Codes} {o : Option Expr} (hc : ∀ a, c = .cons a .nil → SndC lk cv call k a) (C : Cok lk cv call k N sc X W) (q : chkO lk N c sc o = true) :
    PO X o (fun σ H Q => tA X.K cv call W c σ H fun vs H1 => ∃ oi, ((vs = [] ∧ oi = none) ∨ ∃ i, vs = [.int i] ∧ oi = some i) ∧ Q oi H1) := by
  cases c with
  | nil =>
    cases o with
    | some e => simp [chkO] at q
    | none =>
      refine ⟨fun pins s σ H Q I h => ?_⟩
      obtain ⟨μ, hh, ρ, sm, e, p⟩ := h
      simp only [evs] at p
      obtain ⟨oi, h1, h2⟩ := p μ H Step.refl sm [] rfl
      have : oi = none := by
        rcases h1 with h1 | ⟨i, h1, _⟩
        · exact h1.2
        · cases h1
      subst this
      exact po_none.run pins s σ H Q I h2
  | cons a as =>
    cases as with
    | cons _ _ => simp [chkO] at q
    | nil =>
      cases o with
      | none => simp [chkO] at q
      | some e =>
        simp only [chkO] at q
        have pe := (hc a rfl).pe e C q
        refine ⟨fun pins s σ H Q I h => ?_⟩
        obtain ⟨μ, hh, ρ, sm, e, p⟩ := h
        simp only [evs] at p
        refine (po_some pe).run pins s σ H Q I ?_
        refine tE.intro sm e p.bind fun μ1 h1 H1 d v st s1 e1 r q => ?_
        obtain ⟨oi, h1, h2⟩ := q μ1 H1 Step.refl s1 [v] ⟨v, [], rfl, r, rfl⟩
        rcases h1 with h1 | ⟨i, h1, rfl⟩
        · cases h1.1
        · cases h1
          exact ⟨i, rfl, h2⟩
theorem optI_rep {K : PySem.W.Frag} {H : Hp} {μ : Gh} {L : Nat} {ds : List D} {vs : List V} {o : Option Int} (h : optI ds = some o) (r : RepDs K H μ L ds vs) : (vs = [] ∧ o = none) ∨ ∃ i, vs = [.int i] ∧ o = some i := by
  match ds, h, r with
  | [], h, r =>
    simp only [optI, Option.some.injEq] at h
    subst h
    cases r
    exact .inl ⟨rfl, rfl⟩
  | [.p x], h, r =>
    obtain ⟨v, rfl, r2⟩ := r.one
    cases x <;> simp only [optI] at h <;> (try (cases h; done))
    cases h
    simp only [RepD, RepP] at r2
    subst r2
    exact .inr ⟨_, rfl, rfl⟩
  | [.ref n], h, r => simp [optI] at h
  | _ :: _ :: _, h, r => simp [optI] at h
theorem snd_sl {a : Code} {lo hi : Codes} (ha : SndC lk cv call k a) (hl : ∀ a, lo = .cons a .nil → SndC lk cv call k a) (hh : ∀ a, hi = .cons a .nil → SndC lk cv call k a) : SndC lk cv call k (.sl a lo hi) := SndC.of_plain (fun {N sc e} q => by cases e <;> first | rfl | (simp [chk] at q; done)) fun {N sc X W} e C q => by
  cases e <;> first | (simp [chk] at q; done) | skip
  rename_i x y _
  cases y <;> first | (simp [chk] at q; done) | skip
  rename_i l u st _
  cases st <;> first | (simp [chk] at q; done) | skip
  simp only [chk, Bool.and_eq_true] at q
  rw [chkOo_eq, chkOo_eq] at q
  refine PE.imp (pe_slice sl_V (ha.pe _ C q.1.1) (po_code hl C q.1.2) (po_code hh C q.2)) fun σ H Q ⟨μ, h, ρ, s, e, p⟩ => ?_
  simp only [ev] at p
  refine tE.intro s e p.bind fun μ1 h1 H1 d v st s1 e1 r q => ?_
  refine tA.intro s1 e1 q.bind fun μ2 h2 H2 ls lv st2 s2 e2 rl q => ?_
  cases hL : optI ls with
  | none => rw [hL] at q; exact q.elim
  | some ol =>
    rw [hL] at q
    refine ⟨ol, optI_rep hL rl, ?_⟩
    refine tA.intro s2 e2 q.bind fun μ3 h3 H3 us uv st3 s3 e3 ru q => ?_
    cases hU : optI us with
    | none => rw [hU] at q; exact q.elim
    | some ou =>
      rw [hU] at q
      exact ⟨ou, optI_rep hU ru, cv, W, σ, μ3, h3, d, s3, (st2.trans st3).repD r, by cases d with
        | ref n => exact q
        | p x => cases x <;> exact q⟩
end
end MP

end
section
set_option Elab.async false
set_option maxRecDepth 100000
set_option linter.all false
set_option maxHeartbeats 4000000
/-! Calls. -/
namespace MP
open PySem PySem.Spec PyProof.Rows L2
section
variable {lk : Lk} {cv : Nat → Value} {call : Nat → List D → Hh → R D} {k : Nat}
theorem Codes.ne {as : Codes} {N : List Str} {sc : Scope} {es : List Expr} (h : as.isNil = false) (q : chks lk N as sc es = true) : ∃ e r a b, es = e :: r ∧ as = .cons a b ∧ chk lk N a sc e = true ∧ chks lk N b sc r = true := by
  cases as with
  | nil => cases h
  | cons a b =>
    cases es with
    | nil => simp [chks] at q
    | cons e r =>
      simp only [chks, Bool.and_eq_true] at q
      exact ⟨e, r, a, b, rfl, rfl, q.1, q.2⟩
theorem snd_call {f : Nat} {as : Codes} (has : SndA lk cv call k as) : SndC lk cv call k (.call f as) := SndC.of_plain (fun {N sc e} q => by cases e <;> first | rfl | (simp [chk] at q; done)) fun {N sc X W} e C q => by
  cases e <;> first | (simp [chk] at q; done) | skip
  rename_i fn es kws _
  cases fn <;> first | (simp [chk] at q; done) | skip
  rename_i x _
  simp only [chk, Bool.and_eq_true, Bool.not_eq_true', List.isEmpty_iff] at q
  obtain ⟨⟨⟨⟨q1, q2⟩, q3⟩, q4⟩, rfl⟩ := q
  cases hf : lk.fns[f]? with
  | none => rw [hf] at q1; cases q1
  | some ft =>
    rw [hf] at q1
    simp only [decide_eq_true_eq] at q1
    subst q1
    obtain ⟨fa, fd, F, m, kp, bd⟩ := C.fns f ft hf
    obtain ⟨e, r, a, b, rfl, rfl, c1, c2⟩ := Codes.ne q4 q3
    refine PE.imp (pe_callS (E := WE W) F C.room (C.gl q2) m kp bd (passAt C.tk) (has.pa _ C q3) (okName_dbg (glo_ok q2)) (chk_star c1 r _) (chks_any c2 _ _)) fun σ H Q ⟨μ, h, ρ, s, e, p⟩ => ?_
    simp only [ev] at p
    refine tA.intro s e p.bind fun μ1 h1 H1 ds vs st s1 e1 r q => ?_
    have hl : ds.length = ft.ps.length := by
      rcases Decidable.em (ds.length = ft.ps.length) with z | z
      · exact z
      · rw [C.ar f ft ds h1 hf z] at q; exact q.elim
    refine ⟨r.length.trans hl, μ1, h1, ds, s1, r, ?_⟩
    cases hc : call f ds h1 with
    | ok d h2 => rw [hc] at q; exact q
    | exc c h2 => rw [hc] at q; exact q
    | stk => rw [hc] at q; exact q.elim
theorem boot_biT : ∀ b : Bi, b = .int ∨ b = .tuple → ∃ T, bootBuiltins (biN b) = some (.type T) := by
  rintro b (rfl | rfl)
  · exact ⟨_, PyProof.Rows.boot_int⟩
  · exact ⟨_, PyProof.Rows.boot_tuple⟩
theorem snd_bi {b : Bi} {as : Codes} (has : SndA lk cv call k as) : SndC lk cv call k (.bi b as) := SndC.of_plain (fun {N sc e} q => by cases e <;> first | rfl | (simp [chk] at q; done)) fun {N sc X W} e C q => by
  cases e <;> first | (simp [chk] at q; done) | skip
  rename_i fn es kws _
  cases fn <;> first | (simp [chk] at q; done) | skip
  rename_i x _
  simp only [chk, Bool.and_eq_true, Bool.not_eq_true', List.isEmpty_iff, decide_eq_true_eq] at q
  obtain ⟨⟨⟨⟨rfl, q2⟩, q3⟩, q4⟩, rfl⟩ := q
  obtain ⟨e, r, a, as', rfl, rfl, c1, c2⟩ := Codes.ne q4 q3
  have pa := has.pa _ C q3
  have fin : ∀ σ H Q, tE X.K cv call W (.bi b (.cons a as')) σ H Q → tCB (VN X.K (biD b)) (tA X.K cv call W (.cons a as')) σ H Q := fun σ H Q ⟨μ, h, ρ, s, e, p⟩ => by
    simp only [ev] at p
    refine tA.intro s e p.bind fun μ1 h1 H1 ds vs st s1 e1 r q => ?_
    exact ⟨cv, W, σ, μ1, h1, ds, s1, r, q⟩
  have g := C.gl q2
  have d := okName_dbg (glo_ok q2)
  have nn := okName_nm (glo_ok q2)
  have st := chk_star c1 r X.env
  have an : ∀ pos, ((backTo pos (starEach r X.env)).any (·.1)) = false := fun pos => chks_any c2 pos X.env
  cases b
  · exact PE.imp (pe_callB bi_len g (C.blt _ (by simp [bNames, biN])) PySem.boot_len pa nn d st (an _)) fin
  · exact PE.imp (pe_callTy bi_int g (C.blt _ (by simp [bNames, biN])) PyProof.Rows.boot_int pa nn d st (an _)) fin
  · exact PE.imp (pe_callB (bi_max2 C.calm) g (C.blt _ (by simp [bNames, biN])) PyProof.Rows.boot_max pa nn d st (an _)) fin
  · exact PE.imp (pe_callB (bi_sum C.calm) g (C.blt _ (by simp [bNames, biN])) PyProof.Rows.boot_sum pa nn d st (an _)) fin
  · exact PE.imp (pe_callB (bi_all C.calm) g (C.blt _ (by simp [bNames, biN])) (by decide +kernel) pa nn d st (an _)) fin
  · exact PE.imp (pe_callB (bi_any C.calm) g (C.blt _ (by simp [bNames, biN])) (by decide +kernel) pa nn d st (an _)) fin
  · exact PE.imp (pe_callTy bi_tuple g (C.blt _ (by simp [bNames, biN])) PyProof.Rows.boot_tuple pa nn d st (an _)) fin
theorem snd_listOf {c : Bool} {a : Code} (ha : SndC lk cv call k a) : SndC lk cv call k (.listOf c a) := SndC.of_plain (fun {N sc e} q => by cases e <;> first | rfl | (simp [chk] at q; done)) fun {N sc X W} e C q => by
  cases e <;> first | (simp [chk] at q; done) | skip
  rename_i fn es kws _
  cases fn <;> first | (simp [chk] at q; done) | skip
  rename_i x _
  cases es with
  | nil => simp [chk] at q
  | cons y r =>
    simp only [chk, Bool.and_eq_true, List.isEmpty_iff, decide_eq_true_eq] at q
    obtain ⟨⟨⟨⟨rfl, q2⟩, q3⟩, rfl⟩, rfl⟩ := q
    refine PE.imp (pe_callTy (bi_list (c := c)) (C.gl q2) (C.blt _ (by simp [bNames])) PyProof.Rows.boot_list (pa_cons (ha.pe _ C q3) pa_nil (chk_star q3 _ _)) (okName_nm (glo_ok q2)) (okName_dbg (glo_ok q2)) (chk_star q3 _ _) rfl) fun σ H Q ⟨μ, h, ρ, s, e, p⟩ => ?_
    simp only [ev] at p
    refine tE.intro s e p.bind fun μ1 h1 H1 d v st s1 e1 r q => ?_
    exact ⟨cv, W, σ, μ1, h1, [d], s1, ⟨v, [], rfl, r, rfl⟩, q⟩
theorem rangeP_rep {K : PySem.W.Frag} {H : Hp} {μ : Gh} {L : Nat} (a b : Int) : RepPs K H μ L (rangeP a b) (rgV a b) := by
  unfold rangeP rgV
  generalize (b - a).toNat = n
  suffices ∀ l : List Nat, RepPs K H μ L (l.map fun (i : Nat) => P.int (a + (i : Int))) (l.map fun (i : Nat) => V.int (a + (i : Nat))) from this _
  intro l
  induction l with
  | nil => simp [RepPs]
  | cons i l ih =>
    simp only [List.map_cons, RepPs]
    exact ⟨_, _, rfl, by simp only [RepP], ih⟩
theorem rgOk_ok {a b : Int} (h : rgOk a b = true) : RgOk a b := by
  unfold rgOk at h
  simp only [Bool.and_eq_true, decide_eq_true_eq] at h
  have h1 := small_ok h.1.1
  have h2 := small_ok h.1.2
  have h3 : (b - a).toNat ≤ 1000000 := h.2
  exact ⟨by omega, by omega, by omega, by omega, by omega⟩
theorem rgV_len {a b : Int} (h : rgOk a b = true) : (rgV a b).length ≤ sizeLine := by
  rw [rgV_length]
  have := (rgOk_ok h).2.2.2.2
  rw [sizeLine_eq]
  omega
theorem snd_listRg {c : Bool} {a : Code} (ha : SndC lk cv call k a) : SndC lk cv call k (.listRg c a) := SndC.of_plain (fun {N sc e} q => by cases e <;> first | rfl | (simp [chk] at q; done)) fun {N sc X W} e C q => by
  cases e <;> first | (simp [chk] at q; done) | skip
  rename_i fn es kws _
  cases fn <;> first | (simp [chk] at q; done) | skip
  rename_i x _
  match es, q with
  | [], q => simp [chk] at q
  | y :: r, q =>
    cases y <;> first | (simp [chk] at q; done) | skip
    rename_i fn2 es2 kws2 _
    cases fn2 <;> first | (simp [chk] at q; done) | skip
    rename_i z _
    cases es2 with
    | nil => simp [chk] at q
    | cons y r' =>
      simp only [chk, Bool.and_eq_true, List.isEmpty_iff, decide_eq_true_eq] at q
      obtain ⟨⟨⟨⟨⟨⟨⟨⟨rfl, q1⟩, rfl⟩, q2⟩, q3⟩, rfl⟩, rfl⟩, rfl⟩, rfl⟩ := q
      refine PE.imp (pe_listRg C.calm (C.gl q1) (C.blt _ (by simp [bNames])) (prg_1 (C.gl q2) (C.blt _ (by simp [bNames])) (ha.pe _ C q3) (chk_star q3 _ _)) rfl) fun σ H Q ⟨μ, h, ρ, s, e, p⟩ => ?_
      simp only [ev] at p
      refine tE.intro s e p.bind fun μ1 h1 H1 d v st s1 e1 r q => ?_
      cases d with
      | ref n => exact q.elim
      | p x =>
        cases x <;> simp only [listRgD] at q <;> (try exact q.elim)
        rename_i n
        simp only [RepD, RepP] at r
        subst r
        by_cases hk : rgOk 0 n = true
        · rw [if_pos hk] at q
          exact ⟨n, rfl, rgOk_ok hk, fun t ht => Post.lst s1 q (RepDs.ofP (rangeP_rep 0 n)) (rgV_len hk) ht⟩
        · rw [if_neg hk] at q; exact q.elim
/-- the classes' names -/
theorem pe_kd {N : List Str} {sc : Scope} {X : Cx} {W : WX} {kd : Kd} {e : Expr} (C : Cok lk cv call k N sc X W) (q : kdIs sc kd e = true) : PE X e (tC (.ty (kdN kd))) ∧ (∀ es env, starEach (e :: es) env = (false, eval e env) :: starEach es env) := by
  cases e <;> first | (simp [kdIs] at q; done) | skip
  simp only [kdIs, Bool.and_eq_true, decide_eq_true_eq] at q
  obtain ⟨rfl, q⟩ := q
  refine ⟨?_, fun _ _ => rfl⟩
  have d := okName_dbg (glo_ok q)
  have nn := okName_nm (glo_ok q)
  cases kd
  · exact pe_bltn (C.gl q) (C.blt _ (by simp [bNames, kdN])) PyProof.Rows.boot_int rfl nn d
  · exact pe_bltn (C.gl q) (C.blt _ (by simp [bNames, kdN])) PyProof.Rows.boot_bool rfl nn d
  · exact pe_bltn (C.gl q) (C.blt _ (by simp [bNames, kdN])) PyProof.Rows.boot_str rfl nn d
  · exact pe_bltn (C.gl q) (C.blt _ (by simp [bNames, kdN])) PyProof.Rows.boot_tuple rfl nn d
  · exact pe_bltn (C.gl q) (C.blt _ (by simp [bNames, kdN])) PyProof.Rows.boot_list rfl nn d
theorem pa_kds {N : List Str} {sc : Scope} {X : Cx} {W : WX} (C : Cok lk cv call k N sc X W) : ∀ {ks : List Kd} {es : List Expr}, kdsIs sc ks es = true → PA X es (fun _ H Q => Q (ks.map fun kd => V.ty (kdN kd)) H)
  | [], [], _ => PA.imp pa_nil fun _ _ _ q => q
  | [], _ :: _, q => by simp [kdsIs] at q
  | _ :: _, [], q => by simp [kdsIs] at q
  | kd :: ks, e :: es, q => by
    simp only [kdsIs, Bool.and_eq_true] at q
    obtain ⟨h1, h2⟩ := pe_kd C q.1
    exact PA.imp (pa_cons h1 (pa_kds C q.2) (h2 _ _)) fun _ _ _ q => q
theorem cls_kds : ∀ ks : List Kd, Paired ClsV (ks.map fun kd => V.ty (kdN kd)) (ks.map fun kd => Value.type (kdN kd))
  | [] => .nil
  | k :: ks => .cons (.ty _) (cls_kds ks)
theorem ty_repD {K : PySem.W.Frag} {h : Hh} {H : Hp} {μ : Gh} {d : D} {v : V} (s : SimH K μ h H) (r : RepD K H μ h.length d v) : ∃ t, TyX K H v (.type t) ∧ (∀ kd, PySem.W.kitOne K (.type t) (.type (kdN kd)) = some (isiD d [kd])) ∧ ∀ ks : List Kd, PySem.W.kitAny K (.type t) (ks.map fun kd => .type (kdN kd)) = some (isiD d ks) := by
  cases d with
  | p x => exact ⟨_, ty_repP r, fun kd => by rw [kit_P x kd]; simp [isiD], kit_Ps x⟩
  | ref n =>
    obtain ⟨hn, rfl⟩ := r
    obtain ⟨vs, e⟩ := s.cell hn
    exact ⟨"list", .base (.lst e), fun kd => by rw [kit_L kd]; simp [isiD], kit_Ls⟩
theorem snd_isi {a : Code} {ks : List Kd} (ha : SndC lk cv call k a) : SndC lk cv call k (.isi a ks) := SndC.of_plain (fun {N sc e} q => by cases e <;> first | rfl | (simp [chk] at q; done)) fun {N sc X W} e C q => by
  cases e <;> first | (simp [chk] at q; done) | skip
  rename_i fn es kws p1
  cases fn <;> first | (simp [chk] at q; done) | skip
  rename_i x p2
  match es, q with
  | [], q => simp [chk] at q
  | [_], q => simp [chk] at q
  | y :: t :: r, q =>
    simp only [chk, Bool.and_eq_true, List.isEmpty_iff, decide_eq_true_eq] at q
    obtain ⟨⟨⟨⟨⟨rfl, q2⟩, q3⟩, q4⟩, rfl⟩, rfl⟩ := q
    have g := C.gl q2
    have d := okName_dbg (glo_ok q2)
    have nn := okName_nm (glo_ok q2)
    have bm : X.mg "isinstance" = none := C.blt _ (by simp [bNames])
    have one : (∃ kd, ks = [kd] ∧ kdIs sc kd t = true) → PE X (.Call (.Name "isinstance" p2) [y, t] [] p1) (tE X.K cv call W (.isi a ks)) := by
      rintro ⟨kd, rfl, qk⟩
      obtain ⟨h1, h2⟩ := pe_kd C qk
      refine PE.imp (pe_callB call_isi g bm PyProof.Rows.boot_isinstance (pa_cons (ha.pe _ C q3) (pa_cons h1 pa_nil (h2 _ _)) (chk_star q3 _ _)) nn d (chk_star q3 _ _) (by rw [h2]; rfl)) fun σ H Q ⟨μ, h, ρ, s, e, p⟩ => ?_
      simp only [ev] at p
      refine tE.intro s e p.bind fun μ1 h1 H1 d v st s1 e1 r q => ?_
      obtain ⟨t, ty, k1, k2⟩ := ty_repD s1 r
      exact ⟨v, _, _, _, _, rfl, .ty _, ty, k1 kd, q μ1 H1 Step.refl s1 _ rfl⟩
    have many : (∃ ts kk pp, t = .Tuple ts kk pp ∧ (kdsIs sc ks ts && decide (ks.length ≤ 100)) = true) → PE X (.Call (.Name "isinstance" p2) [y, t] [] p1) (tE X.K cv call W (.isi a ks)) := by
      rintro ⟨ts, kk, pp, rfl, qk⟩
      rw [Bool.and_eq_true, decide_eq_true_eq] at qk
      obtain ⟨qk, ql⟩ := qk
      refine PE.imp (pe_callB call_isiT g bm PyProof.Rows.boot_isinstance (pa_cons (ha.pe _ C q3) (pa_cons (pe_tup (pa_kds C qk)) pa_nil) (chk_star q3 _ _)) nn d (chk_star q3 _ _) rfl) fun σ H Q ⟨μ, h, ρ, s, e, p⟩ => ?_
      simp only [ev] at p
      refine tE.intro s e p.bind fun μ1 h1 H1 d v st s1 e1 r q => ?_
      have hz : (ks.map fun kd => V.ty (kdN kd)).length ≤ sizeLine := by
        rw [List.length_map, sizeLine_eq]; omega
      refine ⟨hz, fun z hz => ?_⟩
      have st1 : Step μ1 h1.length H1 μ1 h1.length (upd H1 z (.tup (ks.map fun kd => V.ty (kdN kd)))) := Step.new hz s1
      obtain ⟨t, ty, k1, k2⟩ := ty_repD (s1.new hz) (st1.repD r)
      exact ⟨v, z, _, .type t, _, _, rfl, upd_same, cls_kds ks, ty, k2 ks, q μ1 _ st1 (s1.new hz) _ rfl⟩
    cases t <;> first | (refine one ?_; simp only [kdE] at q4; match ks, q4 with | [kd], q4 => exact ⟨kd, rfl, q4⟩) | exact many ⟨_, _, _, rfl, by simpa only [kdE] using q4⟩
end
end MP

end
section
set_option Elab.async false
set_option maxRecDepth 100000
set_option linter.all false
set_option maxHeartbeats 4000000
/-! Targets, what is walked. -/
namespace MP
open PySem PySem.Spec PyProof.Rows L2
/-- alike but at some slots -/
def Alike (σ σ' : L2.St) (l : List Nat) : Prop := σ'.length = σ.length ∧ ∀ j, j ∉ l → σ'[j]? = σ[j]?
def gT (K : PySem.W.Frag) (tg : Tg) : TG := fun v σ H Q => ∃ (μ : Gh) (h : Hh) (x : P) (ρ ρ' : En), SimH K μ h H ∧ SimE K H μ h.length ρ σ ∧ RepP K H μ h.length x v ∧ asg tg x ρ = some ρ' ∧
  ∀ σ', SimE K H μ h.length ρ' σ' → Alike σ σ' tg.slots → Q σ' H
def gTs (K : PySem.W.Frag) (ts : List Tg) : TGs := fun vs σ H Q => ∃ (μ : Gh) (h : Hh) (xs : List P) (ρ ρ' : En), SimH K μ h H ∧ SimE K H μ h.length ρ σ ∧ RepPs K H μ h.length xs vs ∧ asgs ts xs ρ = some ρ' ∧
  ∀ σ', SimE K H μ h.length ρ' σ' → Alike σ σ' (tgSlots ts) → Q σ' H
section
variable {X : Cx} {N : List Str} {loc : Str → Bool}
theorem chkTgs_each : ∀ {ts : List Tg} {es : List Expr}, chkTgs N loc ts es = true → ∀ env, (assignEach es env).length = ts.length ∧ (assignEach es env).findIdx? (·.1) = none
  | [], [], _, _ => ⟨rfl, rfl⟩
  | [], _ :: _, h, _ => by simp [chkTgs] at h
  | _ :: _, [], h, _ => by simp [chkTgs] at h
  | t :: ts, e :: es, h, env => by
    simp only [chkTgs, Bool.and_eq_true] at h
    obtain ⟨h1, h2⟩ := chkTgs_each h.2 env
    have he : assignEach (e :: es) env = (false, assign e env) :: assignEach es env := by
      cases e <;> first | rfl | (cases t <;> simp [chkTg] at h)
    rw [he]
    refine ⟨by simp [h1], ?_⟩
    rw [List.findIdx?_cons]
    simp [h2]
theorem chkTg_each {t : Tg} {e : Expr} (h : chkTg N loc t e = true) (es : List Expr) (env : Env) : (assignEach (e :: es) env).map (·.2) = assign e env :: (assignEach es env).map (·.2) := by
  cases e <;> first | rfl | (cases t <;> simp [chkTg] at h)
theorem PG.imp {e : Expr} {t t' : TG} (h : PG X e t) (i : ∀ v σ H Q, t' v σ H Q → t v σ H Q) : PG X e t' := ⟨fun pins s σ H v u Q I r q => h.run pins s σ H v u Q I r (i v σ H Q q)⟩
theorem PGs.imp {e : List Expr} {t t' : TGs} (h : PGs X e t) (i : ∀ v σ H Q, t' v σ H Q → t v σ H Q) : PGs X e t' := ⟨fun pins s σ H v u Q I r q => h.run pins s σ H v u Q I r (i v σ H Q q)⟩
mutual
theorem pg_code (hN : X.N = N) (nd : N.Nodup) (hc : X.calm = true) (hL : ∀ x, loc x = true → Loc X.env.scope x ∧ (X.fn x = true ∨ X.env.scope.names.lookup x = some .local)) : ∀ (tg : Tg) (e : Expr), chkTg N loc tg e = true → PG X e (gT X.K tg)
  | .nm i, e, q => by
    cases e <;> first | (simp [chkTg] at q; done) | skip
    rename_i x _
    simp only [chkTg, Bool.and_eq_true, decide_eq_true_eq] at q
    obtain ⟨h1, h2⟩ := hL x q.2
    refine PG.imp (pg_name (by rw [hN]; exact nd) (by rw [hN]; exact q.1) h1 h2) fun v σ H Q ⟨μ, h, x, ρ, ρ', s, e, r, ha, k⟩ => ?_
    simp only [asg, Option.some.injEq] at ha
    subst ha
    refine k _ (e.set i r) ⟨by simp, fun j hj => ?_⟩
    simp only [Tg.slots, List.mem_singleton] at hj
    rw [List.getElem?_set_ne (Ne.symm hj)]
  | .tp ts, e, q => by
    cases e <;> first | (simp [chkTg] at q; done) | skip
    rename_i es _ _
    simp only [chkTg] at q
    obtain ⟨h1, h2⟩ := chkTgs_each q X.env
    refine PG.imp (pg_tup hc (pgs_code hN nd hc hL ts es q) h1 h2) fun v σ H Q ⟨μ, h, x, ρ, ρ', s, e, r, ha, k⟩ => ?_
    cases x <;> simp only [asg] at ha <;> (try (cases ha; done))
    rename_i xs
    simp only [RepP] at r
    obtain ⟨a, vs, rfl, s1, r1, z1⟩ := r
    refine ⟨a, vs, rfl, s1, ?_, μ, h, xs, ρ, ρ', s, e, r1, ha, fun σ' e' al => k σ' e' (by simpa only [Tg.slots] using al)⟩
    rw [r1.length]
    exact (asgs_len ts xs ρ ha).symm
theorem pgs_code (hN : X.N = N) (nd : N.Nodup) (hc : X.calm = true) (hL : ∀ x, loc x = true → Loc X.env.scope x ∧ (X.fn x = true ∨ X.env.scope.names.lookup x = some .local)) : ∀ (ts : List Tg) (es : List Expr), chkTgs N loc ts es = true → PGs X es (gTs X.K ts)
  | [], es, q => by
    cases es with
    | cons _ _ => simp [chkTgs] at q
    | nil =>
      refine PGs.imp pgs_nil fun v σ H Q ⟨μ, h, xs, ρ, ρ', s, e, r, ha, k⟩ => ?_
      cases xs with
      | cons _ _ => simp [asgs] at ha
      | nil =>
        simp only [asgs, Option.some.injEq] at ha
        subst ha
        simp only [RepPs] at r
        exact ⟨r, k σ e ⟨rfl, fun _ _ => rfl⟩⟩
  | t :: ts, es, q => by
    cases es with
    | nil => simp [chkTgs] at q
    | cons e es =>
      simp only [chkTgs, Bool.and_eq_true] at q
      refine PGs.imp (pgs_cons (pg_code hN nd hc hL t e q.1) (pgs_code hN nd hc hL ts es q.2) (chkTg_each q.1 es X.env)) fun v σ H Q ⟨μ, h, xs, ρ, ρ', s, e, r, ha, k⟩ => ?_
      cases xs with
      | nil => simp [asgs] at ha
      | cons x xs =>
        simp only [RepPs] at r
        obtain ⟨v, vr, rfl, r1, r2⟩ := r
        simp only [asgs] at ha
        split at ha
        · rename_i ρ1 h1
          refine ⟨v, vr, rfl, μ, h, x, ρ, ρ1, s, e, r1, h1, fun σ1 e1 al1 => ⟨μ, h, xs, ρ1, ρ', s, e1, r2, ha, fun σ2 e2 al2 => k σ2 e2 ⟨al2.1.trans al1.1, fun j hj => ?_⟩⟩⟩
          simp only [tgSlots, List.mem_append, not_or] at hj
          rw [al2.2 j hj.2, al1.2 j hj.1]
        · cases ha
theorem asgs_len : ∀ (ts : List Tg) (xs : List P) (ρ : En) {ρ' : En}, asgs ts xs ρ = some ρ' → ts.length = xs.length
  | [], [], _, _, _ => rfl
  | [], _ :: _, _, _, h => by simp [asgs] at h
  | _ :: _, [], _, _, h => by simp [asgs] at h
  | t :: ts, x :: xs, ρ, _, h => by
    simp only [asgs] at h
    split at h
    · simp [asgs_len ts xs _ h]
    · cases h
end
end

/-- an iterator over known items -/
structure WkOf (K : PySem.W.Frag) (μ : Gh) (h : Hh) (H : Hp) (J : It) (xs : List P) : Prop where
  len : xs.length ≤ sizeLine
  go : ∀ i μ2 L2 H2, Tr μ h.length H μ2 L2 H2 → i < xs.length → J.go i H2
  stop : ∀ μ2 L2 H2, Tr μ h.length H μ2 L2 H2 → J.stop xs.length H2
  yld : ∀ i μ2 h2 H2 v H3, Tr μ h.length H μ2 h2.length H2 → SimH K μ2 h2 H2 → i < xs.length → J.yld i H2 v H3 → Step μ2 h2.length H2 μ2 h2.length H3 ∧ SimH K μ2 h2 H3 ∧ ∃ x, xs[i]? = some x ∧ RepP K H3 μ2 h2.length x v
section
variable {K : PySem.W.Frag} {μ : Gh} {h : Hh} {H : Hp}
theorem RepPs.at {L : Nat} {xs : List P} {vs : List V} {i : Nat} (r : RepPs K H μ L xs vs) (hi : i < xs.length) : ∃ x v, xs[i]? = some x ∧ vs[i]? = some v ∧ RepP K H μ L x v := by
  obtain ⟨v, h1, h2⟩ := r.get (List.getElem?_eq_getElem hi)
  exact ⟨_, v, List.getElem?_eq_getElem hi, h1, h2⟩
theorem wk_list {a : Addr} {xs : List P} {vs : List V} (f : FzL K H μ h.length a vs) (r : RepPs K H μ h.length xs vs) (hz : vs.length ≤ sizeLine) : WkOf K μ h H (Itl K a) xs where
  len := by rw [← r.length]; exact hz
  go := fun i μ2 L2 H2 t hi => let ⟨x, v, _, h2, _⟩ := r.at hi; ⟨vs, v, (t.fzL f).sq, h2⟩
  stop := fun μ2 L2 H2 t => ⟨vs, (t.fzL f).sq, by rw [r.length]; exact Nat.le_refl _⟩
  yld := fun i μ2 h2 H2 v H3 t s hi y => by
    obtain ⟨x, u, h1, h3, h4⟩ := r.at hi
    obtain ⟨rfl, y2⟩ := y
    have e : vs[i]? = some v := y2 vs (t.fzL f).sq
    rw [h3] at e
    cases e
    exact ⟨Step.refl, s, x, h1, t.repP x _ h4⟩
theorem wk_tup {a : Addr} {xs : List P} {vs : List V} (f : SqT K H a vs) (r : RepPs K H μ h.length xs vs) (hz : vs.length ≤ sizeLine) : WkOf K μ h H (Itt K a) xs where
  len := by rw [← r.length]; exact hz
  go := fun i μ2 L2 H2 t hi => let ⟨x, v, _, h2, _⟩ := r.at hi; ⟨vs, v, t.sqT f, h2⟩
  stop := fun μ2 L2 H2 t => ⟨vs, t.sqT f, by rw [r.length]; exact Nat.le_refl _⟩
  yld := fun i μ2 h2 H2 v H3 t s hi y => by
    obtain ⟨x, u, h1, h3, h4⟩ := r.at hi
    obtain ⟨rfl, y2⟩ := y
    have e : vs[i]? = some v := y2 vs (t.sqT f)
    rw [h3] at e
    cases e
    exact ⟨Step.refl, s, x, h1, t.repP x _ h4⟩
theorem wk_range {a b : Int} (hk : rgOk a b = true) : WkOf K μ h H (Itr a (b - a).toNat) (rangeP a b) := by
  have hl : (rangeP a b).length = (b - a).toNat := by simp [rangeP]
  refine ⟨?_, fun i μ2 L2 H2 t hi => ?_, fun μ2 L2 H2 t => ?_, fun i μ2 h2 H2 v H3 t s hi y => ?_⟩
  · rw [hl, ← rgV_length]; exact rgV_len hk
  · rw [hl] at hi; exact hi
  · rw [hl]; exact Nat.le_refl _
  · obtain ⟨rfl, rfl⟩ := y
    rw [hl] at hi
    refine ⟨Step.refl, s, .int (a + (i : Int)), ?_, by simp only [RepP]⟩
    unfold rangeP
    rw [List.getElem?_map, List.getElem?_range hi]
    rfl
theorem enumP_get {xs : List P} {i : Nat} {x : P} (e : xs[i]? = some x) : (enumP xs)[i]? = some (.tup [.int (i : Nat), x]) := by
  unfold enumP
  rw [List.getElem?_map, List.getElem?_zipIdx, e]
  simp
theorem enumP_length (xs : List P) : (enumP xs).length = xs.length := by simp [enumP]
theorem pair_new {μ2 : Gh} {h2 : Hh} {H2 : Hp} {T : Addr} {i : Nat} {x : P} {v : V} (s : SimH K μ2 h2 H2) (hT : H2 T = none) (r : RepP K H2 μ2 h2.length x v) :
    Step μ2 h2.length H2 μ2 h2.length (upd H2 T (.tup [.int (i : Nat), v])) ∧ SimH K μ2 h2 (upd H2 T (.tup [.int (i : Nat), v])) ∧ RepP K (upd H2 T (.tup [.int (i : Nat), v])) μ2 h2.length (.tup [.int (i : Nat), x]) (.ref T) := by
  have st : Step μ2 h2.length H2 μ2 h2.length (upd H2 T (.tup [.int (i : Nat), v])) := Step.new hT s
  refine ⟨st, s.new hT, ?_⟩
  simp only [RepP, RepPs]
  exact ⟨T, _, rfl, SqT.of upd_same, ⟨_, _, rfl, rfl, v, _, rfl, st.repP x v r, rfl⟩, by show 2 ≤ sizeLine; decide⟩
theorem wk_enumL {a : Addr} {xs : List P} {vs : List V} (f : FzL K H μ h.length a vs) (r : RepPs K H μ h.length xs vs) (hz : vs.length ≤ sizeLine) : WkOf K μ h H (Ite K a) (enumP xs) := by
  have hl := enumP_length xs
  refine ⟨?_, fun i μ2 L2 H2 t hi => ?_, fun μ2 L2 H2 t => ?_, fun i μ2 h2 H2 v H3 t s hi y => ?_⟩
  · rw [hl, ← r.length]; exact hz
  · rw [hl] at hi
    obtain ⟨x, v, _, h2, _⟩ := r.at hi
    exact ⟨vs, v, (t.fzL f).sq, h2⟩
  · rw [hl]
    exact ⟨vs, (t.fzL f).sq, by rw [r.length]; exact Nat.le_refl _⟩
  · rw [hl] at hi
    obtain ⟨x, u, h1, h3, h4⟩ := r.at hi
    obtain ⟨T, w, rfl, hT, rfl, y2⟩ := y
    have e := y2 vs (t.fzL f).sq
    rw [h3] at e
    cases e
    obtain ⟨k1, k2, k3⟩ := pair_new (i := i) s hT (t.repP x _ h4)
    exact ⟨k1, k2, _, enumP_get h1, k3⟩
theorem wk_enumT {a : Addr} {xs : List P} {vs : List V} (f : SqT K H a vs) (r : RepPs K H μ h.length xs vs) (hz : vs.length ≤ sizeLine) : WkOf K μ h H (IteT K a) (enumP xs) := by
  have hl := enumP_length xs
  refine ⟨?_, fun i μ2 L2 H2 t hi => ?_, fun μ2 L2 H2 t => ?_, fun i μ2 h2 H2 v H3 t s hi y => ?_⟩
  · rw [hl, ← r.length]; exact hz
  · rw [hl] at hi
    obtain ⟨x, v, _, h2, _⟩ := r.at hi
    exact ⟨vs, v, t.sqT f, h2⟩
  · rw [hl]
    exact ⟨vs, t.sqT f, by rw [r.length]; exact Nat.le_refl _⟩
  · rw [hl] at hi
    obtain ⟨x, u, h1, h3, h4⟩ := r.at hi
    obtain ⟨T, w, rfl, hT, rfl, y2⟩ := y
    have e := y2 vs (t.sqT f)
    rw [h3] at e
    cases e
    obtain ⟨k1, k2, k3⟩ := pair_new (i := i) s hT (t.repP x _ h4)
    exact ⟨k1, k2, _, enumP_get h1, k3⟩
end
/-- an iterator over a list of one's own -/
structure WkC (K : PySem.W.Frag) (μ : Gh) (L : Nat) (H : Hp) (J : It) (w : Wk) (n : Nat) : Prop where
  go : ∀ i μ2 h2 H2 ds x, Tr μ L H μ2 h2.length H2 → SimH K μ2 h2 H2 → h2[n]? = some ds → ds[i]? = some (.p x) → J.go i H2
  stop : ∀ i μ2 h2 H2 ds, Tr μ L H μ2 h2.length H2 → SimH K μ2 h2 H2 → h2[n]? = some ds → ds[i]? = none → J.stop i H2
  yld : ∀ i μ2 h2 H2 ds x v H3, Tr μ L H μ2 h2.length H2 → SimH K μ2 h2 H2 → h2[n]? = some ds → ds[i]? = some (.p x) → J.yld i H2 v H3 → Step μ2 h2.length H2 μ2 h2.length H3 ∧ SimH K μ2 h2 H3 ∧ RepP K H3 μ2 h2.length (wrapI w i x) v
theorem wkc_list {K : PySem.W.Frag} {μ : Gh} {L : Nat} {H : Hp} {n : Nat} (hn : n < L) : WkC K μ L H (Itl K (μ n)) .seq n where
  go := fun i μ2 h2 H2 ds x t s hd hx => by
    obtain ⟨vs, hv, rv, hz⟩ := s.at_ n ds hd
    rw [t.mu n hn] at hv
    obtain ⟨v, h1, h2⟩ := rv.get hx
    exact ⟨vs, v, SqL.of hv, h1⟩
  stop := fun i μ2 h2 H2 ds t s hd hx => by
    obtain ⟨vs, hv, rv, hz⟩ := s.at_ n ds hd
    rw [t.mu n hn] at hv
    exact ⟨vs, SqL.of hv, by rw [rv.length]; exact List.getElem?_eq_none_iff.mp hx⟩
  yld := fun i μ2 h2 H2 ds x v H3 t s hd hx y => by
    obtain ⟨vs, hv, rv, hz⟩ := s.at_ n ds hd
    rw [t.mu n hn] at hv
    obtain ⟨u, h1, h2⟩ := rv.get hx
    obtain ⟨rfl, y2⟩ := y
    have e := y2 vs (SqL.of hv)
    rw [h1] at e
    cases e
    exact ⟨Step.refl, s, h2⟩
theorem wkc_enum {K : PySem.W.Frag} {μ : Gh} {L : Nat} {H : Hp} {n : Nat} (hn : n < L) : WkC K μ L H (Ite K (μ n)) .enum n where
  go := fun i μ2 h2 H2 ds x t s hd hx => by
    obtain ⟨vs, hv, rv, hz⟩ := s.at_ n ds hd
    rw [t.mu n hn] at hv
    obtain ⟨v, h1, h2⟩ := rv.get hx
    exact ⟨vs, v, SqL.of hv, h1⟩
  stop := fun i μ2 h2 H2 ds t s hd hx => by
    obtain ⟨vs, hv, rv, hz⟩ := s.at_ n ds hd
    rw [t.mu n hn] at hv
    exact ⟨vs, SqL.of hv, by rw [rv.length]; exact List.getElem?_eq_none_iff.mp hx⟩
  yld := fun i μ2 h2 H2 ds x v H3 t s hd hx y => by
    obtain ⟨vs, hv, rv, hz⟩ := s.at_ n ds hd
    rw [t.mu n hn] at hv
    obtain ⟨u, h1, h2⟩ := rv.get hx
    obtain ⟨T, w, rfl, hT, rfl, y2⟩ := y
    have e := y2 vs (SqL.of hv)
    rw [h1] at e
    cases e
    obtain ⟨k1, k2, k3⟩ := pair_new (i := i) s hT h2
    exact ⟨k1, k2, k3⟩
/-- a list or a tuple walked -/
theorem pi_seq {X : Cx} {tg l : Expr} {tl : TE} (hl : PE X l tl) : PI X tg l (fun σ H R => tl σ H fun x H1 => ∃ a, x = .ref a ∧ (((∃ xs, SqL X.K H1 a xs) ∧ R (Itl X.K a) H1) ∨ ((∃ xs, SqT X.K H1 a xs) ∧ R (Itt X.K a) H1))) := by
  refine ⟨fun pins s σ H R I h => ?_⟩
  refine thn (hl.run pins s σ H _ I h) fun v s1 ⟨x, H1, I1, r1, a, e, q1⟩ => ?_
  subst e
  cases r1
  have fr : ∀ b ∈ [s1.heap.objs.size], FpOk X pins H1 b := fun b hb => by
    rw [List.mem_singleton.mp hb]
    exact I1.fpOk (Nat.le_refl _) (I1.hok.fresh (Nat.le_refl _))
  rcases q1 with ⟨⟨xs, hq⟩, q⟩ | ⟨⟨xs, hq⟩, q⟩
  · obtain ⟨its, rv, p, hz⟩ := I1.list hq
    refine wpAny_pyIter_list p.isList ?_
    exact ⟨s1.heap.objs.size, _, _, _, H1, rfl, I1.kept (t' := s1.toks) fun b o e => Heap.get?_push_of_some _ e, turn_list a _, ⟨_, Heap.get?_push_size _ rfl, rfl, rfl⟩, fr, q⟩
  · obtain ⟨its, rv, p, hz⟩ := I1.tuple hq
    refine wpAny_pyIter_tuple (show s1.heap.IsTuple a its.toArray from p) ?_
    exact ⟨s1.heap.objs.size, _, _, _, H1, rfl, I1.kept (t' := s1.toks) fun b o e => Heap.get?_push_of_some _ e, turn_tuple a _, ⟨_, Heap.get?_push_size _ rfl, rfl, rfl⟩, fr, q⟩
theorem PI.imp {X : Cx} {tg l : Expr} {t t' : TI} (h : PI X tg l t) (i : ∀ σ H R, t' σ H R → t σ H R) : PI X tg l t' := ⟨fun pins s σ H R I q => h.run pins s σ H R I (i σ H R q)⟩
def Codes.len : Codes → Nat
  | .nil => 0
  | .cons _ as => as.len + 1
theorem evs_len (call : Nat → List D → Hh → R D) : ∀ (as : Codes) (ρ : En) (h : Hh) {ds : List D} {h' : Hh}, evs call as ρ h = .ok ds h' → ds.length = as.len
  | .nil, _, _, _, _, e => by
    simp only [evs, R.ok.injEq] at e
    rw [← e.1]; rfl
  | .cons a as, ρ, h, _, _, e => by
    simp only [evs] at e
    cases ha : ev call a ρ h with
    | ok x h1 =>
      rw [ha] at e
      simp only [R.bind] at e
      cases hb : evs call as ρ h1 with
      | ok xs h2 =>
        rw [hb] at e
        simp only [R.ok.injEq] at e
        rw [← e.1]
        simp [Codes.len, evs_len call as ρ h1 hb]
      | exc c h2 => rw [hb] at e; cases e
      | stk => rw [hb] at e; cases e
    | exc c h1 => rw [ha] at e; cases e
    | stk => rw [ha] at e; cases e
theorem Post.lenA {K : PySem.W.Frag} {cv : Nat → Value} {call : Nat → List D → Hh → R D} {W : WX} {σ : L2.St} {μ : Gh} {L : Nat} {H : Hp} {as : Codes} {ρ : En} {h : Hh} {Q : Gh → Hh → Hp → List D → Prop} (p : Post K cv W σ μ L H (evs call as ρ h) Q) :
    Post K cv W σ μ L H (evs call as ρ h) fun μ' h' H' ds => ds.length = as.len ∧ Q μ' h' H' ds := by
  cases e : evs call as ρ h with
  | ok ds h1 => rw [e] at p; exact fun μ' H' st s => ⟨evs_len call as ρ h e, p μ' H' st s⟩
  | exc c h1 => rw [e] at p; exact p
  | stk => rw [e] at p; exact p
theorem RepDs.one' {K : PySem.W.Frag} {H : Hp} {μ : Gh} {L : Nat} {d : D} {vs : List V} (r : RepDs K H μ L [d] vs) : ∃ v, vs = [v] ∧ RepD K H μ L d v := by
  obtain ⟨v, u, rfl, h1, h2⟩ := r
  cases h2
  exact ⟨v, rfl, h1⟩
section
variable {lk : Lk} {cv : Nat → Value} {call : Nat → List D → Hh → R D} {k : Nat}
/-- what is walked, its reading -/
def tWk (K : PySem.W.Frag) (cv : Nat → Value) (call : Nat → List D → Hh → R D) (W : WX) (w : Wk) (as : Codes) : TI := fun σ H R => ∃ (μ : Gh) (h : Hh) (ρ : En), SimH K μ h H ∧ SimE K H μ h.length ρ σ ∧
  Post K cv W σ μ h.length H (evs call as ρ h) fun μ' h' H' ds => (∃ xs, itemsOf w ds = some xs ∧ ∀ J, WkOf K μ' h' H' J xs → R J H') ∨ (itemsOf w ds = none ∧ ∃ n, cellOf w ds = some n ∧ ∀ J, WkC K μ' h'.length H' J w n → R J H')
theorem pi_code {N : List Str} {sc : Scope} {X : Cx} {W : WX} {w : Wk} {as : Codes} {it tg : Expr} (has : SndA lk cv call k as) (h1 : ∀ a, as = .cons a .nil → SndC lk cv call k a) (C : Cok lk cv call k N sc X W) (q : chkW lk N w as sc it tg = true) : PI X tg it (tWk X.K cv call W w as) := by
  cases w with
  | seq =>
    match as, q with
    | .nil, q => simp [chkW] at q
    | .cons _ (.cons _ _), q => simp [chkW] at q
    | .cons a .nil, q =>
      simp only [chkW] at q
      refine PI.imp (pi_seq ((h1 a rfl).pe it C q)) fun σ H R ⟨μ, h, ρ, s, e, p⟩ => ?_
      simp only [evs] at p
      refine tE.intro s e p.bind fun μ1 h1 H1 d v st s1 e1 r q => ?_
      have q := q μ1 H1 Step.refl s1
      cases d with
      | ref n =>
        rcases q with ⟨xs, hx, k⟩ | ⟨_, m, hm, k⟩
        · simp [itemsOf] at hx
        · simp only [cellOf, Option.some.injEq] at hm
          subst hm
          obtain ⟨hlt, rfl⟩ := r
          obtain ⟨vs, hv⟩ := s1.cell hlt
          exact ⟨_, rfl, .inl ⟨⟨vs, SqL.of hv⟩, k _ (wkc_list hlt)⟩⟩
      | p x =>
        rcases q with ⟨xs, hx, k⟩ | ⟨_, m, hm, k⟩
        case inr => simp [cellOf] at hm
        cases x <;> simp only [itemsOf, Option.some.injEq] at hx <;> (try (cases hx; done)) <;> simp only [RepD, RepP] at r
        · subst hx
          obtain ⟨a, vs, rfl, s2, r2, z2⟩ := r
          exact ⟨a, rfl, .inr ⟨⟨vs, s2⟩, k _ (wk_tup s2 r2 z2)⟩⟩
        · subst hx
          obtain ⟨a, vs, rfl, s2, r2, z2⟩ := r
          exact ⟨a, rfl, .inl ⟨⟨vs, s2.sq⟩, k _ (wk_list s2 r2 z2)⟩⟩
  | range =>
    cases it <;> first | (simp [chkW] at q; done) | skip
    rename_i fn es kws pp
    cases fn <;> first | (simp [chkW] at q; done) | skip
    rename_i x p2
    simp only [chkW, Bool.and_eq_true, List.isEmpty_iff, decide_eq_true_eq] at q
    obtain ⟨⟨⟨⟨rfl, q2⟩, q3⟩, rfl⟩, q5⟩ := q
    have pa := has.pa es C q3
    have bm : X.mg "range" = none := C.blt _ (by simp [bNames])
    match as, es, q3, pa, q5 with
    | .nil, _, _, _, q5 => simp [oneTwo] at q5
    | .cons _ _, [], q3, pa, _ => simp [chks] at q3
    | .cons a .nil, _ :: _ :: _, q3, pa, _ => simp [chks] at q3
    | .cons a (.cons b _), [_], q3, pa, _ => simp [chks] at q3
    | .cons a .nil, [e1], q3, pa, _ =>
      have c1 : chk lk N a sc e1 = true := by simp only [chks, Bool.and_eq_true] at q3; exact q3.1
      refine PI.imp (pi_range1 (C.gl q2) bm pa (by rw [chk_star c1]; rfl)) fun σ H R ⟨μ, h, ρ, s, e, p⟩ => ?_
      refine tA.intro s e p.lenA fun μ1 h1 H1 d v st s1 e1 r q => ?_
      obtain ⟨hl, q⟩ := q
      rcases q with ⟨xs, hx, k⟩ | ⟨_, m, hm, k⟩
      case inr => simp [cellOf] at hm
      match d, hl, hx, r with
      | [.ref _], _, hx, r => simp [itemsOf] at hx
      | [.p x], hl, hx, r =>
        clear hl
        cases x <;> simp only [itemsOf] at hx <;> (try (cases hx; done))
        rename_i n
        obtain ⟨v1, rfl, r1⟩ := RepDs.one' r
        simp only [RepD, RepP] at r1
        subst r1
        split at hx
        · rename_i hk
          cases hx
          have ⟨b1, b2, b3, b4, _⟩ := rgOk_ok hk
          refine ⟨n, rfl, b3, b4, ?_⟩
          have := k _ (wk_range hk)
          simpa using this
        · cases hx
    | .cons a (.cons b .nil), [e1, e2], q3, pa, _ =>
      have c1 : chk lk N a sc e1 = true ∧ chk lk N b sc e2 = true := by simp only [chks, Bool.and_eq_true] at q3; exact ⟨q3.1, q3.2.1⟩
      refine PI.imp (pi_range2 (C.gl q2) bm pa (by rw [chk_star c1.1, chk_star c1.2]; rfl) (by rw [chk_star c1.2]; rfl)) fun σ H R ⟨μ, h, ρ, s, e, p⟩ => ?_
      refine tA.intro s e p.lenA fun μ1 h1 H1 d v st s1 e1 r q => ?_
      obtain ⟨hl, q⟩ := q
      rcases q with ⟨xs, hx, k⟩ | ⟨_, m, hm, k⟩
      case inr => simp [cellOf] at hm
      match d, hl, hx, r with
      | [.ref _, _], _, hx, r => simp [itemsOf] at hx
      | [.p _, .ref _], _, hx, r => simp [itemsOf] at hx
      | [.p x, .p y], hl, hx, r =>
        clear hl
        cases x <;> simp only [itemsOf] at hx <;> (try (cases hx; done))
        cases y <;> simp only [itemsOf] at hx <;> (try (cases hx; done))
        rename_i n m
        obtain ⟨v1, v2, rfl, r1, r2⟩ := r
        obtain ⟨v3, rfl, r3⟩ := RepDs.one' r2
        simp only [RepD, RepP] at r1 r3
        subst r1
        subst r3
        split at hx
        · rename_i hk
          cases hx
          have ⟨b1, b2, b3, b4, _⟩ := rgOk_ok hk
          exact ⟨n, m, rfl, ⟨b1, b2, b3, b4⟩, k _ (wk_range hk)⟩
        · cases hx
    | .cons a (.cons b .nil), _ :: _ :: _ :: _, q3, pa, _ => simp [chks] at q3
    | .cons a (.cons b (.cons c r)), _, _, _, q5 => simp [oneTwo] at q5
  | enum =>
    obtain ⟨a, rfl⟩ : ∃ a, as = .cons a .nil := by
      cases as with
      | nil => simp [chkW] at q
      | cons a r => cases r with
        | nil => exact ⟨a, rfl⟩
        | cons _ _ => simp [chkW] at q
    cases it <;> first | (simp [chkW] at q; done) | skip
    rename_i fn es kws pp
    cases fn <;> first | (simp [chkW] at q; done) | skip
    rename_i x p2
    cases es with
    | nil => simp [chkW] at q
    | cons y r =>
      cases tg <;> first | (simp [chkW] at q; done) | skip
      simp only [chkW, Bool.and_eq_true, List.isEmpty_iff, decide_eq_true_eq, and_true] at q
      obtain ⟨⟨⟨⟨rfl, q2⟩, q3⟩, rfl⟩, rfl⟩ := q
      have bm : X.mg "enumerate" = none := C.blt _ (by simp [bNames])
      have pa := has.pa [y] C (by simp [chks, q3])
      refine PI.imp (pi_enT (C.gl q2) bm pa (by rw [chk_star q3]; rfl)) fun σ H R ⟨μ, h, ρ, s, e, p⟩ => ?_
      refine tA.intro s e p.lenA fun μ1 h1 H1 d v st s1 e1 r q => ?_
      obtain ⟨hl, q⟩ := q
      match d, hl, q, r with
      | [.ref n], _, q, r =>
        rcases q with ⟨xs, hx, k⟩ | ⟨_, m, hm, k⟩
        · simp [itemsOf] at hx
        · simp only [cellOf, Option.some.injEq] at hm
          subst hm
          obtain ⟨v1, rfl, r1⟩ := RepDs.one' r
          obtain ⟨hlt, rfl⟩ := r1
          obtain ⟨vs, hv⟩ := s1.cell hlt
          exact ⟨_, vs, rfl, .inl ⟨SqL.of hv, k _ (wkc_enum hlt)⟩⟩
      | [.p x], _, q, r =>
        rcases q with ⟨xs, hx, k⟩ | ⟨_, m, hm, k⟩
        case inr => simp [cellOf] at hm
        obtain ⟨v1, rfl, r1⟩ := RepDs.one' r
        cases x <;> simp only [itemsOf, Option.some.injEq] at hx <;> first | (cases hx; done) | simp only [RepD, RepP] at r1
        · subst hx
          obtain ⟨a, vs, rfl, s2, r2, z2⟩ := r1
          exact ⟨a, vs, rfl, .inr ⟨s2, k _ (wk_enumT s2 r2 z2)⟩⟩
        · subst hx
          obtain ⟨a, vs, rfl, s2, r2, z2⟩ := r1
          exact ⟨a, vs, rfl, .inl ⟨s2.sq, k _ (wk_enumL s2 r2 z2)⟩⟩
end
end MP

end
section
set_option Elab.async false
set_option maxRecDepth 100000
set_option linter.all false
set_option maxHeartbeats 4000000
/-! Comprehensions; t[::-1]. -/
namespace MP
open PySem PySem.Spec PyProof.Rows L2
section
variable {lk : Lk} {cv : Nat → Value} {call : Nat → List D → Hh → R D} {k : Nat}
theorem snd_rev {a : Code} (ha : SndC lk cv call k a) : SndC lk cv call k (.rev a) := SndC.of_plain (fun {N sc e} q => by cases e <;> first | rfl | (simp [chk] at q; done)) fun {N sc X W} e C q => by
  cases e <;> first | (simp [chk] at q; done) | skip
  rename_i x i _
  cases i <;> first | (simp [chk] at q; done) | skip
  rename_i l u st _
  cases l <;> first | (simp [chk] at q; done) | skip
  cases u <;> first | (simp [chk] at q; done) | skip
  cases st <;> first | (simp [chk] at q; done) | skip
  rename_i st
  cases st <;> first | (simp [chk] at q; done) | skip
  rename_i op e1 _
  cases op <;> first | (simp [chk] at q; done) | skip
  cases e1 <;> first | (simp [chk] at q; done) | skip
  rename_i c _ _
  cases c <;> first | (simp [chk] at q; done) | skip
  simp only [chk, Bool.and_eq_true, decide_eq_true_eq] at q
  obtain ⟨rfl, q⟩ := q
  refine PE.imp (pe_revT (ha.pe _ C q)) fun σ H Q ⟨μ, h, ρ, s, e, p⟩ => ?_
  simp only [ev] at p
  refine tE.intro s e p.bind fun μ1 h1 H1 d v st s1 e1 r q => ?_
  cases d with
  | ref n => exact q.elim
  | p x =>
    cases x <;> try exact q.elim
    rename_i xs
    simp only [RepD, RepP] at r
    obtain ⟨a, vs, rfl, s2, r2, z2⟩ := r
    exact ⟨a, vs, rfl, s2, fun p hp => Post.tup s1 q r2.rev (by simpa using z2) hp⟩
end
/-- a code in a block -/
theorem Cok.blk {lk : Lk} {cv : Nat → Value} {call : Nat → List D → Hh → R D} {k : Nat} {N : List Str} {sc : Scope} {X : Cx} {W : WX} (C : Cok lk cv call k N sc X W) (s : Shared) (H : Hp) (scp : Scope) (L : Addr) (cl : List (Str × Addr)) (fp : List Addr) :
    Cok lk cv call k N (relS scp sc) (X.blk s H scp (compEnvC scp cl L X.env) fp) (fun _ _ _ _ => False) where
  eN := C.eN
  esc := by
    have := C.esc
    subst this
    rfl
  nd := C.nd
  calm := C.calm
  room := C.room
  tk := takes0
  fns := C.fns
  blt := C.blt
  ar := C.ar
  cls := C.cls
theorem wipe_get : ∀ (vs : List Nat) (σ : L2.St) (j : Nat), (wipe σ vs)[j]? = if j ∈ vs then (if j < σ.length then some none else none) else σ[j]?
  | [], σ, j => by simp [wipe]
  | v :: vs, σ, j => by
    unfold wipe
    by_cases hj : v = j
    · subst hj
      rw [List.getElem?_set_self', wipe_get vs σ v]
      simp only [List.mem_cons_self, if_true]
      by_cases h : v < σ.length
      · rw [if_pos h]
        by_cases h2 : v ∈ vs
        · simp [h, h2]
        · rw [if_neg h2, List.getElem?_eq_getElem h]; rfl
      · rw [if_neg h]
        by_cases h2 : v ∈ vs
        · simp [h, h2]
        · rw [if_neg h2, List.getElem?_eq_none (Nat.le_of_not_lt h)]; rfl
    · rw [List.getElem?_set_ne hj, wipe_get vs σ j]
      by_cases h2 : j ∈ vs
      · rw [if_pos h2, if_pos (List.mem_cons_of_mem _ h2)]
      · rw [if_neg h2, if_neg (by simp only [List.mem_cons, not_or]; exact ⟨fun e => hj e.symm, h2⟩)]
theorem wipe_alike {σ σ' : L2.St} {vs : List Nat} (a : Alike (wipe σ vs) σ' vs) : wipe σ' vs = wipe σ vs := by
  have hl : σ'.length = σ.length := by rw [a.1, wipe_length]
  apply List.ext_getElem?
  intro j
  by_cases h : j ∈ vs
  · rw [wipe_get, wipe_get, if_pos h, if_pos h, hl]
  · rw [wipe_get, if_neg h, a.2 j h]
theorem SimE.wipe {K : PySem.W.Frag} {H : Hp} {μ : Gh} {L : Nat} {ρ : En} {σ : L2.St} (e : SimE K H μ L ρ σ) : ∀ vs : List Nat, SimE K H μ L (wipeE ρ vs) (L2.wipe σ vs)
  | [] => e
  | v :: vs => (e.wipe vs).unset v
theorem SimE.tr {K : PySem.W.Frag} {H H' : Hp} {μ μ' : Gh} {L L' : Nat} {ρ : En} {σ : L2.St} (e : SimE K H μ L ρ σ) (s : Tr μ L H μ' L' H') : SimE K H' μ' L' ρ σ :=
  ⟨e.1, fun i d h => let ⟨v, h1, h2⟩ := e.2 i d h; ⟨v, h1, s.repD h2⟩⟩
theorem Step.toBar {μ μ' : Gh} {L L' : Nat} {H H' : Hp} {a : Addr} (s : Step μ L H μ' L' H') (h0 : H a = none) : Tr μ L H (μ'.bar a) L' H' where
  le := s.le
  mu := s.mu
  imm := s.imm
  keep := fun b o e n => let ⟨e1, n1⟩ := s.keep b o e n; ⟨e1, n1.mkBar (ne_of_none e h0)⟩
theorem Gh.bar_eta {μ μ' : Gh} {a : Addr} (e : μ'.B = (μ.bar a).B) : μ' = (⟨μ.B, μ'.f⟩ : Gh).bar a := by
  cases μ' with
  | mk B f =>
    have e : B = (μ.bar a).B := e
    subst e
    rfl
mutual
theorem chkTg_slots {N : List Str} {loc : Str → Bool} : ∀ {t : Tg} {e : Expr}, chkTg N loc t e = true → ∀ i ∈ t.slots, ∃ x, N[i]? = some x
  | .nm i, e, q, j, hj => by
    cases e <;> first | (simp [chkTg] at q; done) | skip
    simp only [chkTg, Bool.and_eq_true, decide_eq_true_eq] at q
    simp only [Tg.slots, List.mem_singleton] at hj
    subst hj
    exact ⟨_, q.1⟩
  | .tp ts, e, q, j, hj => by
    cases e <;> first | (simp [chkTg] at q; done) | skip
    simp only [chkTg] at q
    exact chkTgs_slots q j (by simpa only [Tg.slots] using hj)
theorem chkTgs_slots {N : List Str} {loc : Str → Bool} : ∀ {ts : List Tg} {es : List Expr}, chkTgs N loc ts es = true → ∀ i ∈ tgSlots ts, ∃ x, N[i]? = some x
  | [], _, _, j, hj => by simp [tgSlots] at hj
  | t :: ts, [], q, _, _ => by simp [chkTgs] at q
  | t :: ts, e :: es, q, j, hj => by
    simp only [chkTgs, Bool.and_eq_true] at q
    simp only [tgSlots, List.mem_append] at hj
    rcases hj with hj | hj
    · exact chkTg_slots q.1 j hj
    · exact chkTgs_slots q.2 j hj
end
theorem own_slots {N : List Str} : ∀ {l : List Nat}, (∀ i ∈ l, ∃ x, N[i]? = some x) → ((l.filterMap fun i => N[i]?.map fun x => (x, i)).map (·.2)) = l
  | [], _ => rfl
  | i :: l, h => by
    obtain ⟨x, hx⟩ := h i List.mem_cons_self
    simp only [List.filterMap_cons, hx, Option.map_some, List.map_cons, own_slots fun j hj => h j (List.mem_cons_of_mem i hj)]
def relOne (env : Env) (y : Str × NameKind) : Str × NameKind := if (y.2 == .free && env.scope.kind == .function && env.kindOf y.1 == some .cell) then (y.1, .cell) else y
theorem relOne_fst (env : Env) (y : Str × NameKind) : (relOne env y).1 = y.1 := by unfold relOne; split <;> rfl
theorem relOne_cell {env : Env} {n : Str} : relOne env (n, .cell) = (n, .cell) := by
  unfold relOne
  rw [if_neg]
  intro h
  simp only [Bool.and_eq_true] at h
  exact absurd h.1.1 (by decide)
theorem lookup_relOne {env : Env} : ∀ {names : List (Str × NameKind)} {x : Str}, names.lookup x = some .cell → (names.map (relOne env)).lookup x = some .cell
  | [], _, h => by cases h
  | y :: r, x, h => by
    have e2 : (relOne env y :: r.map (relOne env)).lookup x = if (x == y.1) = true then some (relOne env y).2 else (r.map (relOne env)).lookup x := by
      rw [← relOne_fst env y]
      cases hx : x == (relOne env y).1 <;> simp [List.lookup, hx]
    rw [List.map_cons, e2]
    cases hx : x == y.1 with
    | true =>
      simp only [List.lookup, hx, Option.some.injEq] at h
      obtain ⟨n, k⟩ := y
      simp only at h
      subst h
      rw [if_pos rfl, relOne_cell]
    | false =>
      simp only [List.lookup, hx] at h
      rw [if_neg (by simp)]
      exact lookup_relOne h
/-- the target in a block -/
theorem loc_blk {X : Cx} {scp : Scope} {sc : Scope} (s : Shared) (H : Hp) (L : Addr) (cl : List (Str × Addr)) (fp : List Addr) (hs : X.env.scope = sc) {x : Str} (h : locD scp x = true) :
    Loc (X.blk s H scp (compEnvC scp cl L X.env) fp).env.scope x ∧ ((X.blk s H scp (compEnvC scp cl L X.env) fp).fn x = true ∨ (X.blk s H scp (compEnvC scp cl L X.env) fp).env.scope.names.lookup x = some .local) := by
  unfold locD at h
  split at h
  · rename_i hl
    have e := lookup_relabel_local (env := X.env) hl
    exact ⟨.inl e, .inr e⟩
  · rename_i hl
    have e : (X.blk s H scp (compEnvC scp cl L X.env) fp).env.scope.names.lookup x = some .cell := lookup_relOne (env := X.env) hl
    refine ⟨.inr e, .inl ?_⟩
    show (scp.names.lookup x == some .cell) = true
    rw [hl]
    rfl
  · cases h
section
variable {lk : Lk} {cv : Nat → Value} {call : Nat → List D → Hh → R D} {k : Nat}
/-- one item of a comprehension -/
def item (call : Nat → List D → Hh → R D) (ρ : En) (tg : Tg) (cond : Codes) (elt : Code) : P → Hh → R (Option D) := fun x h2 => match asg tg x (wipeE ρ tg.slots) with
  | none => .stk
  | some ρ' => match evc call cond ρ' h2 with
    | .ok true h3 => match ev call elt ρ' h3 with
      | .ok y h4 => .ok (some y) h4
      | _ => .stk
    | .ok false h3 => .ok none h3
    | _ => .stk
theorem item_ok {ρ : En} {tg : Tg} {cond : Codes} {elt : Code} {x : P} {h h' : Hh} {o : Option D} (e : item call ρ tg cond elt x h = .ok o h') : ∃ ρ', asg tg x (wipeE ρ tg.slots) = some ρ' ∧ ∃ b h3, evc call cond ρ' h = .ok b h3 ∧
    ((b = true ∧ ∃ y, ev call elt ρ' h3 = .ok y h' ∧ o = some y) ∨ (b = false ∧ o = none ∧ h' = h3)) := by
  unfold item at e
  split at e
  · cases e
  · rename_i ρ' ha
    refine ⟨ρ', ha, ?_⟩
    split at e
    · rename_i h3 hc
      split at e
      · rename_i y h4 hy
        simp only [R.ok.injEq] at e
        obtain ⟨rfl, rfl⟩ := e
        exact ⟨true, h3, hc, .inl ⟨rfl, y, hy, rfl⟩⟩
      · cases e
    · rename_i h3 hc
      simp only [R.ok.injEq] at e
      obtain ⟨rfl, rfl⟩ := e
      exact ⟨false, _, hc, .inr ⟨rfl, rfl, rfl⟩⟩
    · cases e
theorem compL_cons {f : P → Hh → R (Option D)} {x : P} {xs : List P} {h h' : Hh} {r : List D} (e : compL f (x :: xs) h = .ok r h') : ∃ o h1 r1, f x h = .ok o h1 ∧ compL f xs h1 = .ok r1 h' ∧ r = (match o with | none => r1 | some y => y :: r1) := by
  simp only [compL] at e
  split at e
  · rename_i o h1 ho
    split at e
    · rename_i r1 h2 hr
      simp only [R.ok.injEq] at e
      obtain ⟨e1, rfl⟩ := e
      exact ⟨o, h1, r1, ho, hr, e1.symm⟩
    · cases e
  · cases e
/-- a comprehension's test -/
def tCond (K : PySem.W.Frag) (cv : Nat → Value) (call : Nat → List D → Hh → R D) (cond : Codes) : TT := match cond with
  | .nil => tYes
  | .cons a _ => tTest (tE K cv call (fun _ _ _ _ => False) a)
theorem tCond_of {K : PySem.W.Frag} {cond : Codes} (hc : condOk cond = true) {μ : Gh} {h h3 : Hh} {H : Hp} {ρ : En} {σ : L2.St} {b : Bool} {Q : Bool → Hp → Prop} (s : SimH K μ h H) (e : SimE K H μ h.length ρ σ) (hv : evc call cond ρ h = .ok b h3)
    (hq : ∀ μ' H', Step μ h.length H μ' h3.length H' → SimH K μ' h3 H' → Q b H') : tCond K cv call cond σ H Q := by
  match cond, hc with
  | .nil, _ =>
    simp only [evc, R.ok.injEq] at hv
    obtain ⟨rfl, rfl⟩ := hv
    exact hq μ H Step.refl s
  | .cons a .nil, _ =>
    simp only [evc] at hv
    split at hv
    · rename_i x h1 hx
      split at hv
      · rename_i b' hb
        simp only [R.ok.injEq] at hv
        obtain ⟨rfl, rfl⟩ := hv
        refine ⟨μ, h, ρ, s, e, ?_⟩
        rw [hx]
        exact fun μ' H' st s' v r => ⟨b', truth_rep hb r, hq μ' H' st s'⟩
      · cases hv
    · cases hv
  | .cons _ (.cons _ _), hc => simp [condOk] at hc
theorem Step.upTo {K : PySem.W.Frag} {μ0 μ μ' : Gh} {L0 L L' : Nat} {H0 H H' : Hp} {a : Addr} {ys : List V} (s : Step μ0 L0 H0 μ L H) (t : Step (μ.bar a) L H (μ'.bar a) L' H') (eB : μ'.B = μ.B) (h0 : H0 a = none) (hb : ∀ b, μ0.B b → b ≠ a) :
    Step μ0 L0 H0 μ' L' (upd H' a (.lst ys)) := (s.seen t eB h0).updOut h0 hb
theorem comp_go {X : Cx} {W : WX} {w : Wk} {as : Codes} {tg : Tg} {cond : Codes} {elt : Code} {c : Bool} {σ : L2.St} {H : Hp} {Q : VK} {own : List (Str × Nat)} (ho : own.map (·.2) = tg.slots) (hc : condOk cond = true)
    (h : tE X.K cv call W (.comp c w as tg cond elt) σ H Q) : tLc (tWk X.K cv call W w as) (gT X.K tg) (tCond X.K cv call cond) (tE X.K cv call (fun _ _ _ _ => False) elt) (own.map (·.2)) σ H Q := by
  obtain ⟨μ, h, ρ, s, e, p⟩ := h
  rw [ho]
  simp only [ev] at p
  refine ⟨μ, h, ρ, s, e, p.bind.mono fun μ1 h1 H1 ds st s1 p1 => ?_⟩
  have e1 := e.step st
  cases hx : itemsOf w ds with
  | none =>
    rw [hx] at p1
    simp only at p1
    cases hcw : cellOf w ds with
    | none => rw [hcw] at p1; exact p1.elim
    | some n =>
    refine .inr ⟨rfl, n, rfl, fun J wk Da hD => ?_⟩
    rw [hcw] at p1
    have p1 : Post X.K cv W σ μ1 h1.length H1 (match compR (item call ρ tg cond elt) w n turns 0 h1 with
      | .ok r h2 => mkL c r h2
      | _ => .stk) fun μ' h' H' d => ∀ v, RepD X.K H' μ' h'.length d v → Q v H' := p1
    cases hcl : compR (item call ρ tg cond elt) w n turns 0 h1 with
    | exc _ _ => rw [hcl] at p1; exact p1.elim
    | stk => rw [hcl] at p1; exact p1.elim
    | ok tot hf =>
    rw [hcl] at p1
    have nB : ∀ b, μ1.B b → b ≠ Da := fun b hb => s1.bne hD hb
    refine ⟨fun i m H' => i + m = turns ∧ ∃ (μ2 : Gh) (h2 : Hh) (acc : List D) (av : List V) (rest : List D), Step μ1 h1.length H1 μ2 h2.length H' ∧ SimH X.K (μ2.bar Da) h2 H' ∧ H' Da = some (.lst av) ∧ RepDs X.K H' (μ2.bar Da) h2.length acc av ∧
      acc.length ≤ i ∧ compR (item call ρ tg cond elt) w n m i h2 = .ok rest hf ∧ acc ++ rest = tot, ⟨turns, Nat.zero_add _, μ1, h1, [], [], tot, Step.refl.updOut hD nB, s1.newBar hD, upd_same, rfl, Nat.le_refl _, hcl, rfl⟩, ?_⟩
    rintro i m H2 ⟨hm, μ2, h2, acc, av, rest, st2, s2, hDv, ra, hal, hcr, htot⟩
    have t2 := st2.toBar hD
    have hav : av.length = acc.length := ra.length
    have hls : turns ≤ sizeLine := line_le
    cases m with
    | zero => simp [compR] at hcr
    | succ m =>
    simp only [compR] at hcr
    cases hn : h2[n]? with
    | none => rw [hn] at hcr; cases hcr
    | some es =>
    rw [hn] at hcr
    simp only at hcr
    cases hxi : es[i]? with
    | none =>
      rw [hxi] at hcr
      simp only [R.ok.injEq] at hcr
      obtain ⟨rfl, rfl⟩ := hcr
      rw [List.append_nil] at htot
      subst htot
      exact .inl ⟨wk.stop i _ _ _ _ t2 s2 hn hxi, Post.lstAt s2 st2 p1 ra (by omega) hD hDv (by rw [st2.eB]; exact fun hb => nB Da hb rfl)⟩
    | some d0 =>
    rw [hxi] at hcr
    cases d0 with
    | ref _ => cases hcr
    | p x0 =>
    simp only at hcr
    cases hit : item call ρ tg cond elt (wrapI w i x0) h2 with
    | exc _ _ => rw [hit] at hcr; cases hcr
    | stk => rw [hit] at hcr; cases hcr
    | ok o h4 =>
    rw [hit] at hcr
    simp only at hcr
    cases hrest : compR (item call ρ tg cond elt) w n m (i + 1) h4 with
    | exc _ _ => rw [hrest] at hcr; cases hcr
    | stk => rw [hrest] at hcr; cases hcr
    | ok r1 h6 =>
    rw [hrest] at hcr
    simp only [R.ok.injEq] at hcr
    obtain ⟨hr, rfl⟩ := hcr
    refine .inr ⟨wk.go i _ _ _ _ _ t2 s2 hn hxi, fun H' => ∃ m', m' < m + 1 ∧ (i + 1 + m' = turns ∧ ∃ (μ2 : Gh) (h2 : Hh) (acc : List D) (av : List V) (rest : List D), Step μ1 h1.length H1 μ2 h2.length H' ∧ SimH X.K (μ2.bar Da) h2 H' ∧ H' Da = some (.lst av) ∧ RepDs X.K H' (μ2.bar Da) h2.length acc av ∧
      acc.length ≤ i + 1 ∧ compR (item call ρ tg cond elt) w n m' (i + 1) h2 = .ok rest h6 ∧ acc ++ rest = tot), fun H' hh => hh, fun v H3 y => ?_⟩
    obtain ⟨st3, s3, rx⟩ := wk.yld i _ _ _ _ _ _ _ t2 s2 hn hxi y
    obtain ⟨ρ', ha, b, h5, hcond, hb⟩ := item_ok hit
    have e3 : SimE X.K H3 (μ2.bar Da) h2.length ρ σ := (e1.tr t2).step st3
    refine ⟨μ2.bar Da, h2, wrapI w i x0, wipeE ρ tg.slots, ρ', s3, e3.wipe _, rx, ha, fun σ' e' al => ⟨wipe_alike al, ?_⟩⟩
    refine tCond_of hc s3 e' hcond fun μ5 H5 st5 s5 => ?_
    have e5 := e'.step st5
    have st35 := st3.trans st5
    rcases hb with ⟨rfl, yd, hy, rfl⟩ | ⟨rfl, rfl, rfl⟩
    · rw [if_pos rfl]
      refine ⟨μ5, h5, ρ', s5, e5, ?_⟩
      rw [hy]
      intro μ6 H6 st6 s6 yv ry
      have st36 := st35.trans st6
      have hD6 : H6 Da = some (.lst av) := (st36.bar Da (.inr rfl)).trans hDv
      have hz : av.length < sizeLine := by omega
      have eta := Gh.bar_eta st36.eB
      rw [eta] at st36 s6 ry
      refine ⟨av, hD6, hz, m, Nat.lt_succ_self _, by omega, ⟨μ2.B, μ6.f⟩, h4, acc ++ [yd], av ++ [yv], r1, st2.upTo (K := X.K) st36 rfl hD nB, s6.updBar hD6, upd_same, ?_, by simp; omega, hrest, by rw [← htot, ← hr]; simp⟩
      exact (Tr.updBar hD6).repDs ((st36.repDs ra).app ⟨yv, [], rfl, ry, rfl⟩)
    · rw [if_neg (by simp)]
      have hD5 : H5 Da = some (.lst av) := (st35.bar Da (.inr rfl)).trans hDv
      have eta := Gh.bar_eta st35.eB
      rw [eta] at st35 s5
      exact ⟨m, Nat.lt_succ_self _, by omega, ⟨μ2.B, μ5.f⟩, h4, acc, av, r1, st2.seen st35 rfl hD, s5, hD5, st35.repDs ra, by omega, hrest, by rw [← htot, ← hr]⟩
  | some xs =>
    refine .inl ⟨xs, rfl, fun J wk Da hD => ?_⟩
    rw [hx] at p1
    have p1 : Post X.K cv W σ μ1 h1.length H1 (match compL (item call ρ tg cond elt) xs h1 with
      | .ok r h2 => mkL c r h2
      | _ => .stk) fun μ' h' H' d => ∀ v, RepD X.K H' μ' h'.length d v → Q v H' := p1
    cases hcl : compL (item call ρ tg cond elt) xs h1 with
    | exc _ _ => rw [hcl] at p1; exact p1.elim
    | stk => rw [hcl] at p1; exact p1.elim
    | ok tot hf =>
    rw [hcl] at p1
    have nB : ∀ b, μ1.B b → b ≠ Da := fun b hb => s1.bne hD hb
    refine ⟨fun i m H' => m = xs.length - i ∧ i ≤ xs.length ∧ ∃ (μ2 : Gh) (h2 : Hh) (acc : List D) (av : List V) (rest : List D), Step μ1 h1.length H1 μ2 h2.length H' ∧ SimH X.K (μ2.bar Da) h2 H' ∧ H' Da = some (.lst av) ∧ RepDs X.K H' (μ2.bar Da) h2.length acc av ∧
      acc.length ≤ i ∧ compL (item call ρ tg cond elt) (xs.drop i) h2 = .ok rest hf ∧ acc ++ rest = tot, ⟨_, rfl, Nat.zero_le _, μ1, h1, [], [], tot, Step.refl.updOut hD nB, s1.newBar hD, upd_same, rfl, Nat.le_refl _, hcl, rfl⟩, ?_⟩
    rintro i m H2 ⟨rfl, hi, μ2, h2, acc, av, rest, st2, s2, hDv, ra, hal, hcr, htot⟩
    have t2 := st2.toBar hD
    rcases Nat.lt_or_ge i xs.length with hlt | hge
    · refine .inr ⟨wk.go i _ _ _ t2 hlt, fun H' => ∃ m', m' < xs.length - i ∧ (m' = xs.length - (i + 1) ∧ i + 1 ≤ xs.length ∧ ∃ (μ2 : Gh) (h2 : Hh) (acc : List D) (av : List V) (rest : List D), Step μ1 h1.length H1 μ2 h2.length H' ∧ SimH X.K (μ2.bar Da) h2 H' ∧ H' Da = some (.lst av) ∧ RepDs X.K H' (μ2.bar Da) h2.length acc av ∧
      acc.length ≤ i + 1 ∧ compL (item call ρ tg cond elt) (xs.drop (i + 1)) h2 = .ok rest hf ∧ acc ++ rest = tot), fun H' hh => hh, fun v H3 y => ?_⟩
      obtain ⟨st3, s3, x, hxi, rx⟩ := wk.yld i _ _ _ _ _ t2 s2 hlt y
      have hdr : xs.drop i = x :: xs.drop (i + 1) := by
        rw [List.getElem?_eq_getElem hlt] at hxi
        cases hxi
        exact List.drop_eq_getElem_cons hlt
      rw [hdr] at hcr
      obtain ⟨o, h4, r1, hit, hrest, hr⟩ := compL_cons hcr
      obtain ⟨ρ', ha, b, h5, hcond, hb⟩ := item_ok hit
      have e3 : SimE X.K H3 (μ2.bar Da) h2.length ρ σ := (e1.tr t2).step st3
      refine ⟨μ2.bar Da, h2, x, wipeE ρ tg.slots, ρ', s3, e3.wipe _, rx, ha, fun σ' e' al => ⟨wipe_alike al, ?_⟩⟩
      refine tCond_of hc s3 e' hcond fun μ5 H5 st5 s5 => ?_
      have e5 := e'.step st5
      have st35 := st3.trans st5
      rcases hb with ⟨rfl, yd, hy, rfl⟩ | ⟨rfl, rfl, rfl⟩
      · rw [if_pos rfl]
        refine ⟨μ5, h5, ρ', s5, e5, ?_⟩
        rw [hy]
        intro μ6 H6 st6 s6 yv ry
        have st36 := st35.trans st6
        have hD6 : H6 Da = some (.lst av) := (st36.bar Da (.inr rfl)).trans hDv
        have hav : av.length = acc.length := ra.length
        have hz : av.length < sizeLine := by
          have := wk.len
          omega
        have eta := Gh.bar_eta st36.eB
        rw [eta] at st36 s6 ry
        refine ⟨av, hD6, hz, xs.length - (i + 1), by omega, rfl, hlt, ⟨μ2.B, μ6.f⟩, h4, acc ++ [yd], av ++ [yv], r1, st2.upTo (K := X.K) st36 rfl hD nB, s6.updBar hD6, upd_same, ?_, by simp; omega, hrest, by rw [← htot, hr]; simp⟩
        exact (Tr.updBar hD6).repDs ((st36.repDs ra).app ⟨yv, [], rfl, ry, rfl⟩)
      · rw [if_neg (by simp)]
        have hD5 : H5 Da = some (.lst av) := (st35.bar Da (.inr rfl)).trans hDv
        have eta := Gh.bar_eta st35.eB
        rw [eta] at st35 s5
        exact ⟨xs.length - (i + 1), by omega, rfl, hlt, ⟨μ2.B, μ5.f⟩, h4, acc, av, r1, st2.seen st35 rfl hD, s5, hD5, st35.repDs ra, by omega, hrest, by rw [← htot, hr]⟩
    · have hie : i = xs.length := by omega
      subst hie
      rw [List.drop_length] at hcr
      simp only [compL, R.ok.injEq] at hcr
      obtain ⟨rfl, rfl⟩ := hcr
      rw [List.append_nil] at htot
      subst htot
      refine .inl ⟨wk.stop _ _ _ t2, ?_⟩
      have hav : av.length = acc.length := ra.length
      have := wk.len
      exact Post.lstAt s2 st2 p1 ra (by omega) hD hDv (by rw [st2.eB]; exact fun hb => nB Da hb rfl)
theorem it_plain {N : List Str} {sc : Scope} {w : Wk} {as : Codes} {it t : Expr} {env : Env} (q1 : chkW lk N w as sc it t = true) : ∀ x, foldedSetIterable it env x = pure x := by
  intro x
  cases it <;> first | rfl | skip
  exfalso
  cases w <;> (try (simp [chkW] at q1; done))
  match as, q1 with
  | .nil, q1 => simp [chkW] at q1
  | .cons _ (.cons _ _), q1 => simp [chkW] at q1
  | .cons a .nil, q1 =>
    simp only [chkW] at q1
    cases a <;> simp [chk] at q1
theorem pts_code {N : List Str} {sc : Scope} {X : Cx} {cond : Codes} {ifs : List Expr} (hc1 : ∀ a, cond = .cons a .nil → SndC lk cv call k a) (C : Cok lk cv call k N sc X (fun _ _ _ _ => False)) (q4 : chks lk N cond sc ifs = true) (q6 : condOk cond = true) :
    PTs X ifs (tCond X.K cv call cond) := by
  match cond, ifs, q4, q6 with
  | .nil, [], _, _ => exact pts_nil
  | .nil, _ :: _, q4, _ => simp [chks] at q4
  | .cons a .nil, [], q4, _ => simp [chks] at q4
  | .cons a .nil, _ :: _ :: _, q4, _ => simp [chks] at q4
  | .cons a .nil, [e1], q4, _ =>
    simp only [chks, Bool.and_eq_true, and_true] at q4
    exact pts_one ((hc1 a rfl).pt e1 C q4)
  | .cons _ (.cons _ _), _, _, q6 => simp [condOk] at q6
theorem snd_comp {c : Bool} {w : Wk} {as : Codes} {tg : Tg} {cond : Codes} {elt : Code} (has : SndA lk cv call k as) (h1 : ∀ a, as = .cons a .nil → SndC lk cv call k a) (hc1 : ∀ a, cond = .cons a .nil → SndC lk cv call k a) (he : SndC lk cv call k elt) :
    SndC lk cv call k (.comp c w as tg cond elt) := SndC.of_plain (fun {N sc e} q => by cases e <;> first | rfl | (simp [chk] at q; done)) fun {N sc X W} e C q => by
  cases e <;> first | (simp [chk] at q; done) | skip
  rename_i el gs scp pos
  match gs, q with
  | [], q => simp [chk] at q
  | ⟨t, it, ifs, n⟩ :: r, q =>
    simp only [chk, Bool.and_eq_true, List.isEmpty_iff, decide_eq_true_eq] at q
    obtain ⟨⟨⟨⟨⟨⟨⟨rfl, rfl⟩, q1⟩, q2⟩, q3⟩, q4⟩, q5⟩, q6⟩ := q
    rw [chkWw_eq] at q1
    refine PE.imp (pe_lc C.calm (by rw [C.eN]; exact C.nd) (pi_code has h1 C q1) (blkOk_by (by rw [C.eN, C.esc]; exact q2))
      (fun s H L cl fp => pg_code (X := X.blk s H scp (compEnvC scp cl L X.env) fp) C.eN C.nd C.calm (fun x hx => loc_blk s H L cl fp C.esc hx) tg t q3) (tt := tCond X.K cv call cond) (fun s H L cl fp => pts_code hc1 (C.blk s H scp L cl fp) q4 q6)
      (fun s H L cl fp => he.pe el (C.blk s H scp L cl fp) q5) (it_plain q1)) fun σ H Q p => comp_go (own_slots (chkTg_slots q3)) q6 p
end
section
variable (lk : Lk) (cv : Nat → Value) (call : Nat → List D → Hh → R D) (k : Nat)
mutual
theorem snd_all : ∀ c : Code, SndC lk cv call k c
  | .var i => snd_var i
  | .cint i => snd_cint i
  | .cbl i => snd_cbl i
  | .cnon => snd_cnon
  | .cstr s => snd_cstr s
  | .bin o a b => snd_bin (snd_all a) (snd_all b)
  | .neg a => snd_neg (snd_all a)
  | .cmp o a b => snd_cmp (snd_all a) (snd_all b)
  | .andC a b => snd_and (snd_all a) (snd_all b)
  | .orC a b => snd_or (snd_all a) (snd_all b)
  | .notC a => snd_not (snd_all a)
  | .ite c a b => snd_ite (snd_all c) (snd_all a) (snd_all b)
  | .tup as => snd_tup (snds_all as).1
  | .lst c as => snd_lst (snds_all as).1
  | .rep c as b => snd_rep (snds_all as).1 (snd_all b)
  | .edc => snd_edc
  | .ix a i => snd_ix (snd_all a) (snd_all i)
  | .sl a lo hi => snd_sl (snd_all a) (snds_all lo).2 (snds_all hi).2
  | .rev a => snd_rev (snd_all a)
  | .call f as => snd_call (snds_all as).1
  | .isi a ks => snd_isi (snd_all a)
  | .bi b as => snd_bi (snds_all as).1
  | .listOf c a => snd_listOf (snd_all a)
  | .listRg c a => snd_listRg (snd_all a)
  | .comp c w as tg cond elt => snd_comp (snds_all as).1 (snds_all as).2 (snds_all cond).2 (snd_all elt)
theorem snds_all : ∀ c : Codes, SndA lk cv call k c ∧ ∀ a, c = .cons a .nil → SndC lk cv call k a
  | .nil => ⟨snd_nil, fun _ h => by cases h⟩
  | .cons a as => ⟨snd_cons (snd_all a) (snds_all as).1, fun b h => by
      cases h
      exact snd_all a⟩
end
end
end MP

end
section
set_option Elab.async false
set_option maxRecDepth 100000
set_option linter.all false
set_option maxHeartbeats 4000000
/-! Statements: which text, what is wanted behind. -/
namespace MP
open PySem PySem.Spec PyProof.Rows L2

def clsIs (lk : Lk) (c : Nat) (x : Str) : Bool := if c < lk.cls.length then decide (lk.cls[c]? = some x) else decide (lk.bcl[c - lk.cls.length]? = some x)
def swB (sc : Scope) (v : Expr) (x : Str) (px : Pos) : Bool := match v with
  | .ListComp _ _ scp pos => (sc.names.lookup x == some .local) && px.line == pos.line && !(scp.names.any fun (n, k) => n == x && (k == .local || k == .cell))
  | _ => false
def noComp : Expr → Bool
  | .SetComp _ _ _ _ => false
  | .DictComp _ _ _ _ _ => false
  | _ => true
def chkSC (lk : Lk) (N : List Str) (sc : Scope) (n : Option Nat) : SC → Expr → Bool
  | .cst (.str i), .Constant (.str j) _ _ => decide (i = j)
  | .cst (.bl i), .Constant (.bool j) _ _ => decide (i = j)
  | .cst (.int i), .Constant (.int j) _ _ => decide (i = j)
  | .cst .non, .Constant .none _ _ => true
  | .isE c, .Call (.Name f _) [.Name e _, .Name x _] [] _ => decide (f = "isinstance") && glo sc f && decide (n.bind (fun m => N[m]?) = some e) && vis sc e && okName e && clsIs lk c x && glo sc x
  | .andS a b, .BoolOp .And (x :: y :: r) p => match r with
    | [] => chkSC lk N sc n a x && chkSC lk N sc n b y
    | z :: r => chkSC lk N sc n a x && chkSC lk N sc n b (.BoolOp .And (y :: z :: r) p)
  | .notS a, .UnaryOp .Not x _ => plainE x && chkSC lk N sc n a x
  | _, _ => false
def isStrC : Expr → Bool
  | .Constant (.str _) _ _ => true
  | _ => false
def isStr1 : List Expr → Bool
  | [e] => isStrC e
  | _ => false
def chkR1 (lk : Lk) (sc : Scope) (c : Nat) : Expr → Bool
  | .Call (.Name x _) es kws _ => decide (lk.cls[c]? = some x) && glo sc x && isStr1 es && kws.isEmpty
  | _ => false
def chkR (lk : Lk) (sc : Scope) (c : Nat) : Option Expr → Option Expr → Bool
  | some e, none => chkR1 lk sc c e
  | _, _ => false
def setOne (lk : Lk) (N : List Str) (sc : Scope) (n : Option Nat) (i : Nat) (e : SC) : Stmt → Bool
  | .Assign [.Name z _] v _ => decide (N[i]? = some z) && locD sc z && chkSC lk N sc n e v
  | _ => false
def chkH1 (lk : Lk) (N : List Str) (sc : Scope) (c i : Nat) (e : SC) : ExceptHandler → Bool
  | .ExceptHandler (some (.Name x _)) none [st] _ => clsIs lk c x && glo sc x && setOne lk N sc none i e st
  | _ => false
def chkH (lk : Lk) (N : List Str) (sc : Scope) : List (Nat × Nat × SC) → List ExceptHandler → Bool
  | [], [] => true
  | (c, i, e) :: r, h :: hs => chkH1 lk N sc c i e h && chkH lk N sc r hs
  | _, _ => false
def chkAs1 (lk : Lk) (N : List Str) (sc : Scope) (c n i : Nat) (e : SC) : ExceptHandler → Bool
  | .ExceptHandler (some (.Name x _)) (some y) [st] _ => clsIs lk c x && glo sc x && decide (N[n]? = some y) && (sc.names.lookup y == some .local) && setOne lk N sc (some n) i e st
  | _ => false
def chkAs (lk : Lk) (N : List Str) (sc : Scope) (c n i : Nat) (e : SC) : List ExceptHandler → Bool
  | [h] => chkAs1 lk N sc c n i e h
  | _ => false
section
variable (lk : Lk) (N : List Str) (sc : Scope)
mutual
def chkS : Stm → Stmt → Bool
  | .set i e, .Assign [.Name x px] v _ => decide (N[i]? = some x) && locD sc x && noComp v && chk lk N e sc v && (match sc.kind with | .function => true | _ => false)
  | .unp t e, .Assign [.Tuple ts k p] v _ => chkTg N (locD sc) t (.Tuple ts k p) && chk lk N e sc v && noComp v && (match v with | .Tuple _ _ _ => false | _ => true)
  | .put a i e, .Assign [.Subscript o j _] v _ => chk lk N a sc o && chk lk N i sc j && chk lk N e sc v && noComp v
  | .app a e, .Expr (.Call (.Attribute o m apos) (v :: r) kws cpos) _ => chk lk N a sc o && decide (m = "append") && chk lk N e sc v && r.isEmpty && kws.isEmpty && (apos.endLine == cpos.line)
  | .iff c t e, .If x a b _ => chk lk N c sc x && chkSs t a && chkSs e b
  | .forS w as tg body, .For t it b els _ => chkW lk N w as sc it t && chkTg N (locD sc) tg t && chkSs body b && els.isEmpty
  | .whl c body, .While x b els _ => chk lk N c sc x && chkSs body b && els.isEmpty
  | .ret e, .Return (some v) _ => chk lk N e sc v
  | .raise c, .Raise o cause _ => chkR lk sc c o cause
  | .tryM body hs, .Try b (h :: hds) els fin _ => chkSs body b && chkH lk N sc hs (h :: hds) && els.isEmpty && fin.isEmpty
  | .tryAs body c n i e, .Try b hs els fin _ => chkSs body b && chkAs lk N sc c n i e hs && decide (i ≠ n) && els.isEmpty && fin.isEmpty
  | .expr e, .Expr (.Call f es kws p) _ => chk lk N e sc (.Call f es kws p)
  | .pass, .Pass _ => true
  | _, _ => false
def chkSs : Stms → List Stmt → Bool
  | .nil, [] => true
  | .cons a as, s :: ss => chkS a s && chkSs as ss
  | _, _ => false
end
end

/-- what is wanted behind statements -/
def PostS (K : PySem.W.Frag) (cv : Nat → Value) (W : WX) (Z : Ends) (μ : Gh) (L : Nat) (H : Hp) : X → Prop
  | .nx ρ h => ∀ μ' H' σ', Step μ L H μ' h.length H' → SimH K μ' h H' → SimE K H' μ' h.length ρ σ' → Z.nx σ' H'
  | .brk ρ h => ∀ μ' H' σ', Step μ L H μ' h.length H' → SimH K μ' h H' → SimE K H' μ' h.length ρ σ' → Z.bk σ' H'
  | .ct ρ h => ∀ μ' H' σ', Step μ L H μ' h.length H' → SimH K μ' h H' → SimE K H' μ' h.length ρ σ' → Z.ct σ' H'
  | .ret d h => ∀ μ' H' v, Step μ L H μ' h.length H' → SimH K μ' h H' → RepD K H' μ' h.length d v → Z.rt v H'
  | .exc c ρ h => ∀ μ' H' σ', Step μ L H μ' h.length H' → SimH K μ' h H' → SimE K H' μ' h.length ρ σ' → W (cv c) none σ' H'
  | .stk => False
section
variable {K : PySem.W.Frag} {cv : Nat → Value} {W : WX} {Z : Ends} {σ : L2.St} {μ μ1 : Gh} {L L1 : Nat} {H H1 : Hp}
theorem PostS.rebase {x : X} (st : Step μ L H μ1 L1 H1) (h : PostS K cv W Z μ L H x) : PostS K cv W Z μ1 L1 H1 x := by
  cases x with
  | nx ρ h1 => exact fun μ' H' σ' s e r => h μ' H' σ' (st.trans s) e r
  | brk ρ h1 => exact fun μ' H' σ' s e r => h μ' H' σ' (st.trans s) e r
  | ct ρ h1 => exact fun μ' H' σ' s e r => h μ' H' σ' (st.trans s) e r
  | ret d h1 => exact fun μ' H' σ' s e r => h μ' H' σ' (st.trans s) e r
  | exc c ρ h1 => exact fun μ' H' σ' s e r => h μ' H' σ' (st.trans s) e r
  | stk => exact h
/-- a code's value, then more -/
theorem PostS.ofR {ρ : En} {m : R MP.D} {f : MP.D → Hh → X} (e : SimE K H μ L ρ σ) (p : PostS K cv W Z μ L H (MP.ofR ρ m f)) : Post K cv W σ μ L H m fun μ' h' H' d => PostS K cv W Z μ' h'.length H' (f d h') := by
  cases m with
  | ok d h1 => exact fun μ' H' st s => PostS.rebase st p
  | exc c h1 => exact fun μ' H' st s => p μ' H' σ st s (e.step st)
  | stk => exact p
end
/-- where a statement stands -/
structure Sok (lk : Lk) (cv : Nat → Value) (call : Nat → List D → Hh → R D) (sub : Nat → Nat → Option Bool) (k : Nat) (N : List Str) (sc : Scope) (X : Cx) (W : WX) : Prop extends Cok lk cv call k N sc X W where
  fnt : ∀ x, X.fn x = true
  stk : X.stack = X.env :: X.outer
  frm : X.env.frame = some X.env.locals
  po : PassesOwn (model X.prog X.w) X.A X.env X.xe
  bcl : ∀ (j : Nat) (x : Str), lk.bcl[j]? = some x → ∃ T, cv (lk.cls.length + j) = .type T ∧ X.mg x = none ∧ bootBuiltins x = some (.type T)
  sub : ∀ (c d : Nat) (b : Bool), sub c d = some b → ∃ C : Addr, cv c = .ref C ∧ ExcC X.K C ∧ PySem.W.exmOne X.K (.ref C) (cv d) = some b ∧ PySem.W.kitOne X.K (.ref C) (cv d) = some b
theorem Sok.tr {lk : Lk} {cv : Nat → Value} {call : Nat → List D → Hh → R D} {sub : Nat → Nat → Option Bool} {k : Nat} {N : List Str} {sc : Scope} {X : Cx} {W W' : WX} (C : Sok lk cv call sub k N sc X W) {pn : List (Addr × Obj)} {xe : Value → Shared → Prop}
    (tk : Takes (X.tr pn xe) W') (po : PassesOwn (model X.prog X.w) X.A X.env xe) : Sok lk cv call sub k N sc (X.tr pn xe) W' where
  eN := C.eN
  esc := C.esc
  nd := C.nd
  calm := C.calm
  room := C.room
  tk := tk
  fns := C.fns
  blt := C.blt
  ar := C.ar
  cls := C.cls
  fnt := C.fnt
  stk := C.stk
  frm := C.frm
  po := po
  bcl := C.bcl
  sub := C.sub
section
variable (K : PySem.W.Frag) (cv : Nat → Value) (call : Nat → List D → Hh → R D) (sub : Nat → Nat → Option Bool) (W : WX)
def tS (st : Stm) : TS := fun Z σ H => ∃ μ h ρ, SimH K μ h H ∧ SimE K H μ h.length ρ σ ∧ PostS K cv W Z μ h.length H (ex call sub st ρ h)
def tSs (st : Stms) : TS := fun Z σ H => ∃ μ h ρ, SimH K μ h H ∧ SimE K H μ h.length ρ σ ∧ PostS K cv W Z μ h.length H (exs call sub st ρ h)
end
structure SndS (lk : Lk) (cv : Nat → Value) (call : Nat → List D → Hh → R D) (sub : Nat → Nat → Option Bool) (k : Nat) (st : Stm) : Prop where
  ps : ∀ {N : List Str} {sc : Scope} {X : Cx} {W : WX} (s : Stmt), Sok lk cv call sub k N sc X W → chkS lk N sc st s = true → PS X s (tS X.K cv call sub W st)
structure SndSs (lk : Lk) (cv : Nat → Value) (call : Nat → List D → Hh → R D) (sub : Nat → Nat → Option Bool) (k : Nat) (st : Stms) : Prop where
  ps : ∀ {N : List Str} {sc : Scope} {X : Cx} {W : WX} (s : List Stmt), Sok lk cv call sub k N sc X W → chkSs lk N sc st s = true → PSs X s (tSs X.K cv call sub W st)
theorem PS.imp {X : Cx} {e : Stmt} {t t' : TS} (h : PS X e t) (i : ∀ Z σ H, t' Z σ H → t Z σ H) : PS X e t' := ⟨fun pins s σ H Z I q => h.run pins s σ H Z I (i Z σ H q)⟩
theorem PSs.imp {X : Cx} {e : List Stmt} {t t' : TS} (h : PSs X e t) (i : ∀ Z σ H, t' Z σ H → t Z σ H) : PSs X e t' := ⟨fun pins s σ H Z I q => h.run pins s σ H Z I (i Z σ H q)⟩
section
variable {lk : Lk} {cv : Nat → Value} {call : Nat → List D → Hh → R D} {sub : Nat → Nat → Option Bool} {k : Nat}
theorem Sok.loc {N : List Str} {sc : Scope} {X : Cx} {W : WX} (C : Sok lk cv call sub k N sc X W) {x : Str} (h : locD sc x = true) : L2.Loc X.env.scope x ∧ (X.fn x = true ∨ X.env.scope.names.lookup x = some .local) := by
  refine ⟨?_, .inl (C.fnt x)⟩
  unfold locD at h
  unfold L2.Loc
  rw [C.esc]
  split at h
  · exact .inl (by assumption)
  · exact .inr (by assumption)
  · cases h
theorem snds_nil : SndSs lk cv call sub k .nil := ⟨fun {N sc X W} s C q => by
  cases s with
  | cons _ _ => simp [chkSs] at q
  | nil =>
    refine PSs.imp pss_nil fun Z σ H ⟨μ, h, ρ, s, e, p⟩ => ?_
    simp only [exs] at p
    exact p μ H σ Step.refl s e⟩
theorem snds_cons {a : Stm} {as : Stms} (ha : SndS lk cv call sub k a) (has : SndSs lk cv call sub k as) : SndSs lk cv call sub k (.cons a as) := ⟨fun {N sc X W} s C q => by
  cases s with
  | nil => simp [chkSs] at q
  | cons s ss =>
    simp only [chkSs, Bool.and_eq_true] at q
    refine PSs.imp (pss_cons (ha.ps s C q.1) (has.ps ss C q.2)) fun Z σ H ⟨μ, h, ρ, s, e, p⟩ => ?_
    simp only [exs] at p
    refine ⟨μ, h, ρ, s, e, ?_⟩
    cases hx : ex call sub a ρ h with
    | nx ρ1 h1 =>
      rw [hx] at p
      exact fun μ' H' σ' st s' e' => ⟨μ', h1, ρ1, s', e', PostS.rebase st p⟩
    | brk ρ1 h1 => rw [hx] at p; exact p
    | ct ρ1 h1 => rw [hx] at p; exact p
    | ret d h1 => rw [hx] at p; exact p
    | exc c ρ1 h1 => rw [hx] at p; exact p
    | stk => rw [hx] at p; exact p⟩
theorem snd_pass : SndS lk cv call sub k .pass := ⟨fun {N sc X W} s C q => by
  cases s <;> first | (simp [chkS] at q; done) | skip
  refine PS.imp ps_pass fun Z σ H ⟨μ, h, ρ, s, e, p⟩ => ?_
  simp only [ex] at p
  exact p μ H σ Step.refl s e⟩
theorem snd_ret {e : Code} (he : SndC lk cv call k e) : SndS lk cv call sub k (.ret e) := ⟨fun {N sc X W} s C q => by
  cases s <;> first | (simp [chkS] at q; done) | skip
  rename_i o _
  cases o <;> first | (simp [chkS] at q; done) | skip
  simp only [chkS] at q
  refine PS.imp (ps_ret (he.pe _ C.toCok q)) fun Z σ H ⟨μ, h, ρ, s, e, p⟩ => ?_
  simp only [ex] at p
  exact tE.intro s e (PostS.ofR e p) fun μ1 h1 H1 d v st s1 e1 r q => q μ1 H1 v Step.refl s1 r⟩
theorem snd_expr {e : Code} (he : SndC lk cv call k e) : SndS lk cv call sub k (.expr e) := ⟨fun {N sc X W} s C q => by
  cases s <;> first | (simp [chkS] at q; done) | skip
  rename_i o _
  cases o <;> first | (simp [chkS] at q; done) | skip
  simp only [chkS] at q
  refine PS.imp (ps_expr (he.pe _ C.toCok q)) fun Z σ H ⟨μ, h, ρ, s, e, p⟩ => ?_
  simp only [ex] at p
  exact tE.intro s e (PostS.ofR e p) fun μ1 h1 H1 d v st s1 e1 r q => q μ1 H1 σ Step.refl s1 e1⟩
theorem snd_iff {c : Code} {a b : Stms} (hc : SndC lk cv call k c) (ha : SndSs lk cv call sub k a) (hb : SndSs lk cv call sub k b) : SndS lk cv call sub k (.iff c a b) := ⟨fun {N sc X W} s C q => by
  cases s <;> first | (simp [chkS] at q; done) | skip
  simp only [chkS, Bool.and_eq_true] at q
  refine PS.imp (ps_if (hc.pt _ C.toCok q.1.1) (ha.ps _ C q.1.2) (hb.ps _ C q.2)) fun Z σ H ⟨μ, h, ρ, s, e, p⟩ => ?_
  simp only [ex] at p
  refine tE.intro s e (PostS.ofR e p) fun μ1 h1 H1 d v st s1 e1 r q => ?_
  cases ht : truth d with
  | none => rw [ht] at q; exact q.elim
  | some b' =>
    rw [ht] at q
    refine ⟨b', truth_rep ht r, ?_⟩
    cases b' with
    | true => exact ⟨μ1, h1, ρ, s1, e1, q⟩
    | false => exact ⟨μ1, h1, ρ, s1, e1, q⟩⟩
theorem sw_of {sc : Scope} {v : Expr} {x : Str} {px : Pos} {l : Nat} {env : Env} (q : noComp v = true) (hs : env.scope = sc) (hk : sc.kind = .function) : swapsWith v (some (.Name x px)) l env = pure (swB sc v x px) := by
  subst hs
  have hb : env.blockKind = .function := by unfold Env.blockKind; rw [hk]; rfl
  cases v <;> first | (simp [noComp] at q; done) | rfl | skip
  unfold swapsWith swB Env.kindOf
  simp only [hb, Expr.pos]
  rfl
theorem snd_set {i : Nat} {e : Code} (he : SndC lk cv call k e) (hcomp : ∀ c w as tg cond elt, e = .comp c w as tg cond elt → SndA lk cv call k as ∧ (∀ a, as = .cons a .nil → SndC lk cv call k a) ∧ (∀ a, cond = .cons a .nil → SndC lk cv call k a) ∧ SndC lk cv call k elt) :
    SndS lk cv call sub k (.set i e) := ⟨fun {N sc X W} s C q => by
  cases s <;> first | (simp [chkS] at q; done) | skip
  rename_i ts v pos
  cases ts with
  | nil => simp [chkS] at q
  | cons t r =>
  cases r with
  | cons t2 r =>
    exfalso
    cases t <;> simp [chkS] at q
  | nil =>
  cases t <;> first | (simp [chkS] at q; done) | skip
  rename_i x px
  simp only [chkS, Bool.and_eq_true, decide_eq_true_eq] at q
  obtain ⟨⟨⟨⟨q1, q2⟩, q3⟩, q4⟩, q5⟩ := q
  have hk : sc.kind = .function := by
    split at q5
    · assumption
    · cases q5
  obtain ⟨hl, hf⟩ := C.loc q2
  have sw := sw_of (v := v) (x := x) (px := px) (l := pos.line) (env := X.env) q3 C.esc hk
  have go : ∀ Z σ H, tS X.K cv call sub W (.set i e) Z σ H → tE X.K cv call W e σ H fun v H1 => Z.nx (σ.set i (some v)) H1 := fun Z σ H ⟨μ, h, ρ, s, e', p⟩ => by
    simp only [ex] at p
    exact tE.intro s e' (PostS.ofR e' p) fun μ1 h1 H1 d v st s1 e1 r q => q μ1 H1 _ Step.refl s1 (e1.set i r)
  cases hb : swB sc v x px with
  | false =>
    rw [hb] at sw
    exact PS.imp (ps_set (by rw [C.eN]; exact C.nd) (by rw [C.eN]; exact q1) hl (he.pe v C.toCok q4) sw hf) go
  | true =>
    rw [hb] at sw
    cases v <;> first | (simp [swB] at hb; done) | skip
    rename_i el gs scp cpos
    have hxl : X.env.scope.names.lookup x = some .local := by
      rw [C.esc]
      simp only [swB, Bool.and_eq_true] at hb
      exact beq_iff_eq.mp hb.1.1
    cases e <;> first | (simp [chk] at q4; done) | skip
    rename_i c w as tg cond elt
    obtain ⟨has, h1, hc1, helt⟩ := hcomp c w as tg cond elt rfl
    match gs, q4, sw with
    | [], q, _ => simp [chk] at q
    | ⟨t, it, ifs, n⟩ :: r, q, sw =>
      simp only [chk, Bool.and_eq_true, List.isEmpty_iff, decide_eq_true_eq] at q
      obtain ⟨⟨⟨⟨⟨⟨⟨rfl, rfl⟩, q1'⟩, q2'⟩, q3'⟩, q4'⟩, q5'⟩, q6'⟩ := q
      rw [chkWw_eq] at q1'
      refine PS.imp (ps_setLc C.calm (by rw [C.eN]; exact C.nd) (by rw [C.eN]; exact q1) hxl sw (pi_code has h1 C.toCok q1') (blkOk_by (by rw [C.eN, C.esc]; exact q2'))
        (fun s H L cl fp => pg_code (X := X.blk s H scp (compEnvC scp cl L X.env) fp) C.eN C.nd C.calm (fun x hx => loc_blk s H L cl fp C.esc hx) tg t q3') (tt := tCond X.K cv call cond) (fun s H L cl fp => pts_code hc1 (C.toCok.blk s H scp L cl fp) q4' q6')
        (fun s H L cl fp => helt.pe el (C.toCok.blk s H scp L cl fp) q5') (it_plain q1')) fun Z σ H p => comp_go (own_slots (chkTg_slots q3')) q6' (go Z σ H p)⟩
end
end MP

end
section
set_option Elab.async false
set_option maxRecDepth 100000
set_option linter.all false
set_option maxHeartbeats 4000000
/-! Statements: targets, lists, loops. -/
namespace MP
open PySem PySem.Spec PyProof.Rows L2
section
variable {lk : Lk} {cv : Nat → Value} {call : Nat → List D → Hh → R D} {sub : Nat → Nat → Option Bool} {k : Nat}
theorem snd_unp {t : Tg} {e : Code} (he : SndC lk cv call k e) : SndS lk cv call sub k (.unp t e) := ⟨fun {N sc X W} s C q => by
  cases s <;> first | (simp [chkS] at q; done) | skip
  rename_i ts v pos
  cases ts with
  | nil => simp [chkS] at q
  | cons tx r =>
  cases r with
  | cons t2 r =>
    exfalso
    cases tx <;> simp [chkS] at q
  | nil =>
  cases tx <;> first | (simp [chkS] at q; done) | skip
  rename_i es kk tp
  simp only [chkS, Bool.and_eq_true] at q
  obtain ⟨⟨⟨q1, q2⟩, q3⟩, q4⟩ := q
  refine PS.imp (ps_asg (he.pe v C.toCok q2) (pg_code C.eN C.nd C.calm (fun x hx => C.loc hx) t _ q1) (by cases v <;> first | rfl | (simp [noComp] at q3; done)) (by cases v <;> first | rfl | (simp at q4; done)) (chkTg_each q1 [] X.env)) fun Z σ H ⟨μ, h, ρ, s, e, p⟩ => ?_
  simp only [ex] at p
  refine tE.intro s e (PostS.ofR e p) fun μ1 h1 H1 d v st s1 e1 r q => ?_
  cases d with
  | ref n => exact q.elim
  | p x =>
    simp only at q
    cases ha : asg t x ρ with
    | none => rw [ha] at q; exact q.elim
    | some ρ1 =>
      rw [ha] at q
      exact ⟨μ1, h1, x, ρ, ρ1, s1, e1, r, ha, fun σ' e' _ => q μ1 H1 σ' Step.refl s1 e'⟩⟩
theorem ixN_in {n : Nat} {i : Int} (h0 : 0 ≤ i) (h : i < n) : ixN n i = some i.toNat := by
  unfold ixN
  rw [if_pos h0, if_pos h]
theorem put_step {K : PySem.W.Frag} {μ : Gh} {h : Hh} {H : Hp} {n : Nat} {ds ds' : List D} {vs' : List V} (s : SimH K μ h H) (hn : h[n]? = some ds) (r : RepDs K H μ h.length ds' vs') (hz : vs'.length ≤ sizeLine) :
    Step μ h.length H μ (h.set n ds').length (upd H (μ n) (.lst vs')) ∧ SimH K μ (h.set n ds') (upd H (μ n) (.lst vs')) := by
  have hlt := lt_of_get hn
  obtain ⟨us, hu⟩ := s.cell hlt
  have hl : (h.set n ds').length = h.length := List.length_set
  have tr : Tr μ h.length H μ h.length (upd H (μ n) (.lst vs')) := by
    refine ⟨Nat.le_refl _, fun _ _ => rfl, fun a o e no => ?_, fun a o e nc => ⟨?_, nc⟩⟩
    · rw [upd_ne]
      · exact e
      · rintro rfl
        rw [hu] at e
        cases e
        simp [isLst] at no
    · rw [upd_ne (fun z => nc.2 n hlt z.symm)]
      exact e
  refine ⟨by rw [hl]; exact ⟨tr, rfl, fun b hb => upd_ne fun z => s.nb n hlt (z ▸ hb)⟩, ⟨fun m hm => s.nb m (by rwa [hl] at hm), fun b hb => ?_, fun i j hi hj => s.inj i j (by rwa [hl] at hi) (by rwa [hl] at hj), fun m es e => ?_⟩⟩
  · have ne : b ≠ μ n := fun z => s.nb n hlt (z ▸ hb)
    rw [upd_ne ne]
    exact s.tr b hb
  · rw [hl]
    by_cases hm : n = m
    · subst hm
      rw [List.getElem?_set_self hlt] at e
      cases e
      exact ⟨vs', upd_same, tr.repDs r, hz⟩
    · rw [List.getElem?_set_ne hm] at e
      obtain ⟨ws, h1, h2, h3⟩ := s.at_ m es e
      exact ⟨ws, by rw [upd_ne fun z => hm (s.inj n m hlt (lt_of_get e) z.symm)]; exact h1, tr.repDs h2, h3⟩
theorem snd_put {a i e : Code} (ha : SndC lk cv call k a) (hi : SndC lk cv call k i) (he : SndC lk cv call k e) : SndS lk cv call sub k (.put a i e) := ⟨fun {N sc X W} s C q => by
  cases s <;> first | (simp [chkS] at q; done) | skip
  rename_i ts v pos
  cases ts with
  | nil => simp [chkS] at q
  | cons tx r =>
  cases r with
  | cons t2 r =>
    exfalso
    cases tx <;> simp [chkS] at q
  | nil =>
  cases tx <;> first | (simp [chkS] at q; done) | skip
  rename_i o j tp
  simp only [chkS, Bool.and_eq_true] at q
  obtain ⟨⟨⟨q1, q2⟩, q3⟩, q4⟩ := q
  have hj : ∀ v, assign (.Subscript o j tp) X.env v = (do
      let ov ← holding [v] (eval o X.env)
      let iv ← holding [v, ov] (eval j X.env)
      standAt tp
      holding [v, ov, iv] (setItem ov iv v)
      release [v, ov, iv] []) := by
    intro v
    cases j <;> first | rfl | skip
    exfalso
    cases i <;> simp [chk] at q2
  refine PS.imp (ps_asg (he.pe v C.toCok q3) (pg_sub (ha.pe o C.toCok q1) (hi.pe j C.toCok q2) set_list hj) (by cases v <;> first | rfl | (simp [noComp] at q4; done)) (by cases v <;> rfl)) fun Z σ H ⟨μ, h, ρ, s, e, p⟩ => ?_
  simp only [ex] at p
  refine tE.intro s e (PostS.ofR e p) fun μ1 h1 H1 d v st s1 e1 r q => ?_
  refine tE.intro s1 e1 (PostS.ofR e1 q) fun μ2 h2 H2 d2 v2 st2 s2 e2 r2 q => ?_
  refine tE.intro s2 e2 (PostS.ofR e2 q) fun μ3 h3 H3 d3 v3 st3 s3 e3 r3 q => ?_
  have r2 := st3.repD r2
  have r := (st2.trans st3).repD r
  cases d2 with
  | p x => exact q.elim
  | ref n =>
    cases d3 with
    | ref n => exact q.elim
    | p y =>
      cases y <;> try exact q.elim
      rename_i kk
      simp only at q
      cases hn : h3[n]? with
      | none => rw [hn] at q; exact q.elim
      | some ds =>
        rw [hn] at q
        simp only at q
        obtain ⟨hlt, rfl⟩ := r2
        simp only [RepD, RepP] at r3
        subst r3
        obtain ⟨vs, hv, rv, hz⟩ := s3.at_ n ds hn
        split at q
        · rename_i hk
          simp only [Bool.and_eq_true, decide_eq_true_eq] at hk
          obtain ⟨st4, s4⟩ := put_step s3 hn (rv.set kk.toNat r) (by rw [List.length_set]; exact hz)
          exact ⟨_, vs, kk, kk.toNat, rfl, rfl, hv, ixN_in hk.1 (by rw [rv.length]; exact hk.2), q μ3 _ σ st4 s4 (e3.step st4)⟩
        · exact q.elim⟩
theorem no_args {as : Codes} {N : List Str} {sc : Scope} (h : as.isNil = false) (q : chks lk N as sc [] = true) : False := by
  cases as with
  | nil => simp [Codes.isNil] at h
  | cons _ _ => simp [chks] at q
theorem snd_app {a e : Code} (ha : SndC lk cv call k a) (he : SndC lk cv call k e) : SndS lk cv call sub k (.app a e) := ⟨fun {N sc X W} s C q => by
  cases s <;> first | (simp [chkS] at q; done) | skip
  rename_i x pos
  cases x <;> first | (simp [chkS] at q; done) | skip
  rename_i fn es kws cpos
  cases fn <;> first | (simp [chkS] at q; done) | skip
  rename_i o m apos
  cases es with
  | nil => simp [chkS] at q
  | cons v r =>
  simp only [chkS, Bool.and_eq_true, List.isEmpty_iff, decide_eq_true_eq] at q
  obtain ⟨⟨⟨⟨⟨q1, rfl⟩, q3⟩, rfl⟩, rfl⟩, q4⟩ := q
  have st := chk_star q3 [] X.env
  refine PS.imp (ps_expr (pe_bm PySem.F.plainAttrs_list PySem.F.slot_list_append PySem.F.type_list_append mt_append (ha.pe o C.toCok q1) (pa_cons (he.pe v C.toCok q3) pa_nil st) ?_ ?_ q4 st rfl)) fun Z σ H ⟨μ, h, ρ, s, e, p⟩ => ?_
  · cases o <;> first | rfl | skip
    rename_i f es kws _
    cases f <;> first | rfl | skip
    cases es with
    | cons _ _ => rfl
    | nil =>
      exfalso
      cases a <;> simp [chk] at q1
      all_goals exact no_args q1.1.2 q1.1.1.2
  · rw [st]; rfl
  · simp only [ex] at p
    refine tE.intro s e (PostS.ofR e p) fun μ1 h1 H1 d v st s1 e1 r q => ?_
    cases d with
    | p x => exact q.elim
    | ref n =>
    obtain ⟨hlt, rfl⟩ := r
    obtain ⟨us, hu⟩ := s1.cell hlt
    refine ⟨.inl ⟨rfl, us, SqL.of hu⟩, ?_⟩
    refine tE.intro s1 e1 (PostS.ofR e1 q) fun μ2 h2 H2 d2 v2 st2 s2 e2 r2 q => ?_
    cases hn : h2[n]? with
    | none => rw [hn] at q; exact q.elim
    | some ds =>
      rw [hn] at q
      simp only at q
      obtain ⟨vs, hv, rv, hz⟩ := s2.at_ n ds hn
      split at q
      · rename_i hk
        have hl : vs.length < sizeLine := by
          have := line_le
          rw [rv.length]
          exact Nat.lt_of_lt_of_le hk this
        have ra : RepDs X.K H2 μ2 h2.length (ds ++ [d2]) (vs ++ [v2]) := rv.app ⟨v2, [], rfl, r2, rfl⟩
        obtain ⟨st4, s4⟩ := put_step s2 hn ra (by rw [List.length_append]; exact hl)
        rw [← st2.mu n hlt]
        exact ⟨_, vs, v2, rfl, rfl, hv, hl, q μ2 _ σ st4 s4 (e2.step st4)⟩
      · exact q.elim⟩
end
end MP

end
section
set_option Elab.async false
set_option maxRecDepth 100000
set_option linter.all false
set_option maxHeartbeats 4000000
/-! Loops, errors. -/
namespace MP
open PySem PySem.Spec PyProof.Rows L2
section
variable {lk : Lk} {cv : Nat → Value} {call : Nat → List D → Hh → R D} {sub : Nat → Nat → Option Bool} {k : Nat}
/-- the rest of a loop behind its body -/
theorem PostS.turn {K : PySem.W.Frag} {W : WX} {Z : Ends} {μ : Gh} {L : Nat} {H : Hp} {x : X} {f : En → Hh → X} {Nx : L2.St → Hp → Prop}
    (p : PostS K cv W Z μ L H (match x with
      | .nx ρ2 h2 => f ρ2 h2
      | .ct ρ2 h2 => f ρ2 h2
      | .brk ρ2 h2 => .nx ρ2 h2
      | r => r)) (hn : ∀ μ' h' H' σ' ρ', Step μ L H μ' h'.length H' → SimH K μ' h' H' → SimE K H' μ' h'.length ρ' σ' → PostS K cv W Z μ' h'.length H' (f ρ' h') → Nx σ' H') :
    PostS K cv W { Z with nx := Nx, ct := Nx, bk := Z.nx } μ L H x := by
  cases x with
  | nx ρ1 h1 => exact fun μ' H' σ' st s e => hn _ _ _ _ _ st s e (PostS.rebase st p)
  | ct ρ1 h1 => exact fun μ' H' σ' st s e => hn _ _ _ _ _ st s e (PostS.rebase st p)
  | brk ρ1 h1 => exact p
  | ret d h1 => exact p
  | exc c ρ1 h1 => exact p
  | stk => exact p
theorem snd_for {w : Wk} {as : Codes} {tg : Tg} {body : Stms} (has : SndA lk cv call k as) (h1 : ∀ a, as = .cons a .nil → SndC lk cv call k a) (hb : SndSs lk cv call sub k body) : SndS lk cv call sub k (.forS w as tg body) := ⟨fun {N sc X W} s C q => by
  cases s <;> first | (simp [chkS] at q; done) | skip
  rename_i t it b els pos
  simp only [chkS, Bool.and_eq_true, List.isEmpty_iff] at q
  obtain ⟨⟨⟨q1, q2⟩, q3⟩, rfl⟩ := q
  refine PS.imp (ps_for C.po C.calm (pi_code has h1 C.toCok q1) (pg_code C.eN C.nd C.calm (fun x hx => C.loc hx) tg t q2) (hb.ps b C q3) (it_plain q1)) fun Z σ H ⟨μ, h, ρ, s, e, p⟩ => ?_
  simp only [ex] at p
  have p' : Post X.K cv W σ μ h.length H (evs call as ρ h) fun μ1 h1 H1 ds => (∃ xs, itemsOf w ds = some xs ∧ PostS X.K cv W Z μ1 h1.length H1 (forL (exs call sub body) tg xs ρ h1)) ∨ (itemsOf w ds = none ∧ ∃ n, cellOf w ds = some n ∧ PostS X.K cv W Z μ1 h1.length H1 (forR (exs call sub body) tg w n turns 0 ρ h1)) := by
    cases hev : evs call as ρ h with
    | ok ds h1 =>
      rw [hev] at p
      simp only at p
      cases hx : itemsOf w ds with
      | none =>
        rw [hx] at p
        simp only at p
        cases hcw : cellOf w ds with
        | none => rw [hcw] at p; exact p.elim
        | some n =>
          rw [hcw] at p
          exact fun μ' H' st s => .inr ⟨hx, n, hcw, PostS.rebase st p⟩
      | some xs =>
        rw [hx] at p
        exact fun μ' H' st s => .inl ⟨xs, hx, PostS.rebase st p⟩
    | exc c h1 => rw [hev] at p; exact fun μ' H' st s => p μ' H' σ st s (e.step st)
    | stk => rw [hev] at p; exact p.elim
  refine ⟨μ, h, ρ, s, e, p'.mono fun μ1 h1 H1 ds st s1 p1 => ?_⟩
  have e1 := e.step st
  rcases p1 with ⟨xs, hx, p1⟩ | ⟨hx, n, hcw, p1⟩
  case inr =>
    refine .inr ⟨hx, n, hcw, fun J wk => ?_⟩
    refine ⟨fun i m σ' H' => i + m = turns ∧ ∃ (μ2 : Gh) (h2 : Hh) (ρ2 : En), Step μ1 h1.length H1 μ2 h2.length H' ∧ SimH X.K μ2 h2 H' ∧ SimE X.K H' μ2 h2.length ρ2 σ' ∧ PostS X.K cv W Z μ2 h2.length H' (forR (exs call sub body) tg w n m i ρ2 h2),
      ⟨turns, Nat.zero_add _, μ1, h1, ρ, Step.refl, s1, e1, p1⟩, ?_⟩
    rintro i m σ2 H2 ⟨hm, μ2, h2, ρ2, st2, s2, e2, p2⟩
    cases m with
    | zero => exact p2.elim
    | succ m =>
    simp only [forR] at p2
    cases hn : h2[n]? with
    | none => rw [hn] at p2; exact p2.elim
    | some es =>
    rw [hn] at p2
    simp only at p2
    cases hxi : es[i]? with
    | none =>
      rw [hxi] at p2
      exact .inl ⟨wk.stop i _ _ _ _ st2.toTr s2 hn hxi, p2 μ2 H2 σ2 Step.refl s2 e2⟩
    | some d0 =>
    rw [hxi] at p2
    cases d0 with
    | ref _ => exact p2.elim
    | p x0 =>
    simp only at p2
    refine .inr ⟨wk.go i _ _ _ _ _ st2.toTr s2 hn hxi, fun σ' H' => ∃ m', m' < m + 1 ∧ (i + 1 + m' = turns ∧ ∃ (μ2 : Gh) (h2 : Hh) (ρ2 : En), Step μ1 h1.length H1 μ2 h2.length H' ∧ SimH X.K μ2 h2 H' ∧ SimE X.K H' μ2 h2.length ρ2 σ' ∧
      PostS X.K cv W Z μ2 h2.length H' (forR (exs call sub body) tg w n m' (i + 1) ρ2 h2)), fun σ' H' hh => hh, fun v H3 y => ?_⟩
    obtain ⟨st3, s3, rx⟩ := wk.yld i _ _ _ _ _ _ _ st2.toTr s2 hn hxi y
    cases ha : asg tg (wrapI w i x0) ρ2 with
    | none => rw [ha] at p2; exact p2.elim
    | some ρ3 =>
      rw [ha] at p2
      refine ⟨μ2, h2, wrapI w i x0, ρ2, ρ3, s3, e2.step st3, rx, ha, fun σ' e' _ => ⟨μ2, h2, ρ3, s3, e', ?_⟩⟩
      refine PostS.turn (PostS.rebase st3 p2) fun μ' h' H' σ'' ρ' st' s' e'' p' => ?_
      exact ⟨m, Nat.lt_succ_self _, by omega, μ', h', ρ', (st2.trans st3).trans st', s', e'', p'⟩
  refine .inl ⟨xs, hx, fun J wk => ?_⟩
  refine ⟨fun i m σ' H' => m = xs.length - i ∧ i ≤ xs.length ∧ ∃ (μ2 : Gh) (h2 : Hh) (ρ2 : En), Step μ1 h1.length H1 μ2 h2.length H' ∧ SimH X.K μ2 h2 H' ∧ SimE X.K H' μ2 h2.length ρ2 σ' ∧ PostS X.K cv W Z μ2 h2.length H' (forL (exs call sub body) tg (xs.drop i) ρ2 h2),
    ⟨_, rfl, Nat.zero_le _, μ1, h1, ρ, Step.refl, s1, e1, p1⟩, ?_⟩
  rintro i m σ2 H2 ⟨rfl, hi, μ2, h2, ρ2, st2, s2, e2, p2⟩
  rcases Nat.lt_or_ge i xs.length with hlt | hge
  · refine .inr ⟨wk.go i _ _ _ st2.toTr hlt, fun σ' H' => ∃ m', m' < xs.length - i ∧ (m' = xs.length - (i + 1) ∧ i + 1 ≤ xs.length ∧ ∃ (μ2 : Gh) (h2 : Hh) (ρ2 : En), Step μ1 h1.length H1 μ2 h2.length H' ∧ SimH X.K μ2 h2 H' ∧ SimE X.K H' μ2 h2.length ρ2 σ' ∧
      PostS X.K cv W Z μ2 h2.length H' (forL (exs call sub body) tg (xs.drop (i + 1)) ρ2 h2)), fun σ' H' hh => hh, fun v H3 y => ?_⟩
    obtain ⟨st3, s3, x, hxi, rx⟩ := wk.yld i _ _ _ _ _ st2.toTr s2 hlt y
    have hdr : xs.drop i = x :: xs.drop (i + 1) := by
      rw [List.getElem?_eq_getElem hlt] at hxi
      cases hxi
      exact List.drop_eq_getElem_cons hlt
    rw [hdr] at p2
    simp only [forL] at p2
    cases ha : asg tg x ρ2 with
    | none => rw [ha] at p2; exact p2.elim
    | some ρ3 =>
      rw [ha] at p2
      refine ⟨μ2, h2, x, ρ2, ρ3, s3, e2.step st3, rx, ha, fun σ' e' _ => ⟨μ2, h2, ρ3, s3, e', ?_⟩⟩
      refine PostS.turn (PostS.rebase st3 p2) fun μ' h' H' σ'' ρ' st' s' e'' p' => ?_
      exact ⟨xs.length - (i + 1), by omega, rfl, hlt, μ', h', ρ', (st2.trans st3).trans st', s', e'', p'⟩
  · have hie : i = xs.length := by omega
    subst hie
    rw [List.drop_length] at p2
    simp only [forL] at p2
    exact .inl ⟨wk.stop _ _ _ st2.toTr, p2 μ2 H2 σ2 Step.refl s2 e2⟩⟩
theorem snd_whl {c : Code} {body : Stms} (hc : SndC lk cv call k c) (hb : SndSs lk cv call sub k body) : SndS lk cv call sub k (.whl c body) := ⟨fun {N sc X W} s C q => by
  cases s <;> first | (simp [chkS] at q; done) | skip
  rename_i x b els pos
  simp only [chkS, Bool.and_eq_true, List.isEmpty_iff] at q
  obtain ⟨⟨q1, q2⟩, rfl⟩ := q
  refine PS.imp (ps_while C.po (hc.pt x C.toCok q1) (hb.ps b C q2)) fun Z σ H ⟨μ, h, ρ, s, e, p⟩ => ?_
  simp only [ex] at p
  refine ⟨fun m σ' H' => ∃ (μ2 : Gh) (h2 : Hh) (ρ2 : En), SimH X.K μ2 h2 H' ∧ SimE X.K H' μ2 h2.length ρ2 σ' ∧ PostS X.K cv W Z μ2 h2.length H' (whlL (ev call c) (exs call sub body) m ρ2 h2), ⟨turns, μ, h, ρ, s, e, p⟩, ?_⟩
  rintro m σ2 H2 ⟨μ2, h2, ρ2, s2, e2, p2⟩
  cases m with
  | zero => exact p2.elim
  | succ m =>
    simp only [whlL] at p2
    have p3 : Post X.K cv W σ2 μ2 h2.length H2 (ev call c ρ2 h2) fun μ3 h3 H3 d => PostS X.K cv W Z μ3 h3.length H3 (match truth d with
        | some true => (match exs call sub body ρ2 h3 with
          | .nx ρ2 h2 => whlL (ev call c) (exs call sub body) m ρ2 h2
          | .ct ρ2 h2 => whlL (ev call c) (exs call sub body) m ρ2 h2
          | .brk ρ2 h2 => .nx ρ2 h2
          | r => r)
        | some false => .nx ρ2 h3
        | none => .stk) := by
      cases hev : ev call c ρ2 h2 with
      | ok d h3 => rw [hev] at p2; exact fun μ' H' st s => PostS.rebase st p2
      | exc c h1 => rw [hev] at p2; exact fun μ' H' st s => p2 μ' H' σ2 st s (e2.step st)
      | stk => rw [hev] at p2; exact p2.elim
    refine tE.intro s2 e2 p3 fun μ3 h3 H3 d v st3 s3 e3 r q => ?_
    cases ht : truth d with
    | none => rw [ht] at q; exact q.elim
    | some b' =>
      rw [ht] at q
      refine ⟨b', truth_rep ht r, ?_⟩
      cases b' with
      | false => exact q μ3 H3 σ2 Step.refl s3 e3
      | true =>
        refine ⟨fun σ' H' => ∃ m', m' < m + 1 ∧ ∃ (μ2 : Gh) (h2 : Hh) (ρ2 : En), SimH X.K μ2 h2 H' ∧ SimE X.K H' μ2 h2.length ρ2 σ' ∧ PostS X.K cv W Z μ2 h2.length H' (whlL (ev call c) (exs call sub body) m' ρ2 h2), fun σ' H' hh => hh, ⟨μ3, h3, ρ2, s3, e3, ?_⟩⟩
        exact PostS.turn q fun μ' h' H' σ'' ρ' st' s' e'' p' => ⟨m, Nat.lt_succ_self _, μ', h', ρ', s', e'', p'⟩⟩
theorem snd_raise (c : Nat) : SndS lk cv call sub k (.raise c) := ⟨fun {N sc X W} s C q => by
  cases s <;> first | (simp [chkS] at q; done) | skip
  rename_i o cause pos
  simp only [chkS] at q
  cases o <;> first | (simp [chkR] at q; done) | skip
  cases cause <;> first | (simp [chkR] at q; done) | skip
  simp only [chkR] at q
  rename_i x
  cases x <;> first | (simp [chkR1] at q; done) | skip
  rename_i fn es kws _
  cases fn <;> first | (simp [chkR1] at q; done) | skip
  rename_i x _
  simp only [chkR1, Bool.and_eq_true, decide_eq_true_eq, List.isEmpty_iff] at q
  obtain ⟨⟨q, q3⟩, rfl⟩ := q
  cases es with
  | nil => simp [isStr1] at q3
  | cons v r =>
  cases r with
  | cons _ _ => simp [isStr1] at q3
  | nil =>
  simp only [isStr1] at q3
  cases v <;> first | (simp [isStrC] at q3; done) | skip
  rename_i cst _ _
  cases cst <;> first | (simp [isStrC] at q3; done) | skip
  obtain ⟨Ca, c1, c2, c3, c4, c5⟩ := C.cls c x q.1
  refine PS.imp (ps_raise C.calm C.tk (pmk_own PySem.F.excBase_ValueError c5 c2 c3 c4 (C.toCok.gl q.2) (okName_dbg (glo_ok q.2)))) fun Z σ H ⟨μ, h, ρ, s, e, p⟩ => ?_
  simp only [ex] at p
  have := p μ H σ Step.refl s e
  rw [c1] at this
  exact this⟩
end
end MP

end
section
set_option Elab.async false
set_option maxRecDepth 100000
set_option linter.all false
set_option maxHeartbeats 4000000
/-! try. -/
namespace MP
open PySem PySem.Spec PyProof.Rows L2
section
variable {lk : Lk} {cv : Nat → Value} {call : Nat → List D → Hh → R D} {sub : Nat → Nat → Option Bool} {k : Nat}
def scV : P → Option V
  | .non => some .non
  | .bl b => some (.bl b)
  | .int i => some (.int i)
  | .str s => some (.str s)
  | _ => none
/-- a suite's value -/
def tSC (sub : Nat → Nat → Option Bool) (a : Addr) (cls : Value) (d : Option Addr) (cv : Nat → Value) (n : Option Nat) (e : SC) : TE := fun σ H Q => d = none ∧ ∃ cur x v, cls = cv cur ∧ (∀ m, n = some m → m < σ.length → σ[m]? = some (some (.ref a))) ∧ evS sub cur e = some x ∧ scV x = some v ∧ Q v H
theorem names_of {N : List Str} {sc : Scope} {X : Cx} {W : WX} (C : Sok lk cv call sub k N sc X W) {c : Nat} {x : Str} (h : clsIs lk c x = true) (g : glo sc x = true) : Names X x (cv c) := by
  refine ⟨C.toCok.gl g, okName_dbg (glo_ok g), ?_⟩
  unfold clsIs at h
  split at h
  · rename_i hlt
    simp only [decide_eq_true_eq] at h
    obtain ⟨Ca, c1, c2, _⟩ := C.cls c x h
    exact .inl (by rw [c1]; exact c2)
  · rename_i hge
    simp only [decide_eq_true_eq] at h
    obtain ⟨T, c1, c2, c3⟩ := C.bcl _ x h
    have e : lk.cls.length + (c - lk.cls.length) = c := by omega
    rw [e] at c1
    exact .inr ⟨c2, by rw [c1]; exact c3, okName_nm (glo_ok g)⟩
theorem cls_v {N : List Str} {sc : Scope} {X : Cx} {W : WX} (C : Sok lk cv call sub k N sc X W) {c : Nat} {x : Str} (h : clsIs lk c x = true) : ∃ v : V, RelV v (cv c) ∧ ∀ u, RelV v u → u = cv c := by
  unfold clsIs at h
  split at h
  · rename_i hlt
    simp only [decide_eq_true_eq] at h
    obtain ⟨Ca, c1, c2, _⟩ := C.cls c x h
    rw [c1]
    exact ⟨.ref Ca, rfl, fun u r => r⟩
  · rename_i hge
    simp only [decide_eq_true_eq] at h
    obtain ⟨T, c1, c2, c3⟩ := C.bcl _ x h
    have e : lk.cls.length + (c - lk.cls.length) = c := by omega
    rw [e] at c1
    rw [c1]
    exact ⟨.ty T, rfl, fun u r => r⟩
theorem evS_bl {sub : Nat → Nat → Option Bool} {cur : Nat} {e : SC} {b : Bool} {v : V} (h : evS sub cur e = some (.bl b)) (hv : scV (.bl b) = some v) : v = .bl b := by
  simp only [scV, Option.some.injEq] at hv
  exact hv.symm
theorem pe_sc {N : List Str} {sc : Scope} {X : Cx} {W : WX} (C : Sok lk cv call sub k N sc X W) {n : Option Nat} {a : Addr} {oe : Obj} {cls : Value} {d : Option Addr} {pn : List (Addr × Obj)} (hz : Zc cls d oe) (hf : ∃ vs, oe.data = .fields vs) :
    ∀ (e : SC) (x : Expr), chkSC lk N sc n e x = true → PE (X.suite a ((a, oe) :: pn)) x (tSC sub a cls d cv n e)
  | .cst p, x, q => by
    cases x <;> first | (cases p <;> simp [chkSC] at q; done) | skip
    rename_i c _ _
    cases p <;> cases c <;> simp [chkSC] at q
    · exact PE.imp pe_non fun σ H Q ⟨_, cur, x, v, _, _, h1, h2, h3⟩ => by
        simp only [evS, Option.some.injEq] at h1
        subst h1
        simp only [scV, Option.some.injEq] at h2
        subst h2
        exact h3
    · subst q
      exact PE.imp pe_bl fun σ H Q ⟨_, cur, x, v, _, _, h1, h2, h3⟩ => by
        simp only [evS, Option.some.injEq] at h1
        subst h1
        simp only [scV, Option.some.injEq] at h2
        subst h2
        exact h3
    · subst q
      exact PE.imp pe_int fun σ H Q ⟨_, cur, x, v, _, _, h1, h2, h3⟩ => by
        simp only [evS, Option.some.injEq] at h1
        subst h1
        simp only [scV, Option.some.injEq] at h2
        subst h2
        exact h3
    · subst q
      exact PE.imp pe_str fun σ H Q ⟨_, cur, x, v, _, _, h1, h2, h3⟩ => by
        simp only [evS, Option.some.injEq] at h1
        subst h1
        simp only [scV, Option.some.injEq] at h2
        subst h2
        exact h3
  | .isE c, x, q => by
    cases x <;> first | (simp [chkSC] at q; done) | skip
    rename_i fn es kws pos
    cases fn <;> first | (simp [chkSC] at q; done) | skip
    rename_i f _
    match es, kws, q with
    | [.Name y py, .Name z pz], [], q =>
      simp only [chkSC, Bool.and_eq_true, decide_eq_true_eq] at q
      obtain ⟨⟨⟨⟨⟨⟨rfl, q1⟩, q2⟩, q3⟩, q4⟩, q5⟩, q6⟩ := q
      obtain ⟨hg, hdb, hm⟩ := names_of C q5 q6
      refine ⟨fun pins s σ H Q I h => ?_⟩
      obtain ⟨rfl, cur, x, v, rfl, hσ, h1, h2, h3⟩ := h
      cases n with
      | none => cases q2
      | some n =>
      have q2 : N[n]? = some y := q2
      have hlt : n < σ.length := by
        have e2 : X.N.length = N.length := by rw [C.eN]
        have := lt_of_get q2
        have : σ.length = X.N.length := I.len
        omega
      have hσ := hσ n rfl hlt
      simp only [evS] at h1
      cases hs : sub cur c with
      | none => rw [hs] at h1; cases h1
      | some b =>
        rw [hs] at h1
        simp only [Option.map_some, Option.some.injEq] at h1
        subst h1
        simp only [scV, Option.some.injEq] at h2
        subst h2
        obtain ⟨Ca, c1, cE, _, ck⟩ := C.sub cur c b hs
        rw [c1] at hz
        have pc : ∃ cvv : V, (∀ u, RelV cvv u → u = cv c) ∧ PE (X.suite a ((a, oe) :: pn)) (.Name z pz) (tC cvv) := by
          obtain ⟨cvv, r1, r2⟩ := cls_v C q5
          rcases hm with hm | ⟨hm, hb, hn⟩
          · exact ⟨cvv, r2, pe_glob hg hm r1 hdb⟩
          · exact ⟨cvv, r2, pe_bltn hg hm hb r1 hn hdb⟩
        obtain ⟨cvv, hcv, pc⟩ := pc
        have pv : PE (X.suite a ((a, oe) :: pn)) (.Name y py) (tVar n) := pe_var (by show X.N[n]? = some y; rw [C.eN]; exact q2) (C.toCok.vis q3) (okName_dbg q4) (okName_cd q4)
        refine (pe_callB (X := X.suite a ((a, oe) :: pn)) (call_isE cE hz hf) (C.toCok.gl q1) (C.blt _ (by simp [bNames])) PyProof.Rows.boot_isinstance (pa_cons pv (pa_cons pc pa_nil (by rfl)) (by rfl)) (okName_nm (glo_ok q1)) (okName_dbg (glo_ok q1)) rfl rfl).run pins s σ H Q I ?_
        exact ⟨.ref a, hσ, cvv, cv c, b, rfl, hcv, ck, h3⟩
  | .andS e1 e2, x, q => by
    have go : ∀ σ H Q, tSC sub a cls d cv n (.andS e1 e2) σ H Q → tAndV (tSC sub a cls d cv n e1) (tSC sub a cls d cv n e2) σ H Q := fun σ H Q ⟨hd, cur, x, v, hc, hσ, h1, h2, h3⟩ => by
      simp only [evS] at h1
      split at h1
      · rename_i he
        exact ⟨hd, cur, _, _, hc, hσ, he, rfl, true, rfl, hd, cur, x, v, hc, hσ, h1, h2, h3⟩
      · rename_i he
        simp only [Option.some.injEq] at h1
        subst h1
        simp only [scV, Option.some.injEq] at h2
        subst h2
        exact ⟨hd, cur, _, _, hc, hσ, he, rfl, false, rfl, h3⟩
      · cases h1
    cases x <;> first | (simp [chkSC] at q; done) | skip
    rename_i op es pos
    cases op <;> first | (simp [chkSC] at q; done) | skip
    match es, q with
    | [], q => simp [chkSC] at q
    | [_], q => simp [chkSC] at q
    | [x, y], q =>
      simp only [chkSC, Bool.and_eq_true] at q
      exact PE.imp (pe_and (pe_sc C hz hf e1 x q.1) (pe_one (pe_sc C hz hf e2 y q.2))) go
    | x :: y :: z :: r, q =>
      simp only [chkSC, Bool.and_eq_true] at q
      exact PE.imp (pe_and (pe_sc C hz hf e1 x q.1) (pe_sc C hz hf e2 _ q.2)) go
  | .notS e1, x, q => by
    cases x <;> first | (simp [chkSC] at q; done) | skip
    rename_i op y _
    cases op <;> first | (simp [chkSC] at q; done) | skip
    simp only [chkSC, Bool.and_eq_true] at q
    refine PE.imp (pe_not (pe_sc C hz hf e1 y q.2)) fun σ H Q ⟨hd, cur, x, v, hc, hσ, h1, h2, h3⟩ => ?_
    simp only [evS] at h1
    split at h1
    · rename_i b he
      simp only [Option.some.injEq] at h1
      subst h1
      simp only [scV, Option.some.injEq] at h2
      subst h2
      exact ⟨hd, cur, _, _, hc, hσ, he, rfl, b, rfl, h3⟩
    · cases h1
theorem sc_val {N : List Str} {sc : Scope} {n : Option Nat} {cur : Nat} : ∀ {e : SC} {t : Expr} {x : P}, chkSC lk N sc n e t = true → evS sub cur e = some x → ∃ v, scV x = some v
  | .cst p, t, x, q, h => by
    simp only [evS, Option.some.injEq] at h
    subst h
    cases p <;> first | exact ⟨_, rfl⟩ | (cases t <;> simp [chkSC] at q)
  | .isE c, t, x, q, h => by
    simp only [evS] at h
    cases hs : sub cur c with
    | none => rw [hs] at h; cases h
    | some b =>
      rw [hs] at h
      simp only [Option.map_some, Option.some.injEq] at h
      subst h
      exact ⟨_, rfl⟩
  | .andS a b, t, x, q, h => by
    simp only [evS] at h
    split at h
    · cases t <;> first | (simp [chkSC] at q; done) | skip
      rename_i op es pos
      cases op <;> first | (simp [chkSC] at q; done) | skip
      match es, q with
      | [], q => simp [chkSC] at q
      | [_], q => simp [chkSC] at q
      | [x, y], q =>
        simp only [chkSC, Bool.and_eq_true] at q
        exact sc_val q.2 h
      | x :: y :: z :: r, q =>
        simp only [chkSC, Bool.and_eq_true] at q
        exact sc_val q.2 h
    · simp only [Option.some.injEq] at h
      subst h
      exact ⟨_, rfl⟩
    · cases h
  | .notS a, t, x, q, h => by
    simp only [evS] at h
    split at h
    · simp only [Option.some.injEq] at h
      subst h
      exact ⟨_, rfl⟩
    · cases h
theorem scV_rep {K : PySem.W.Frag} {H : Hp} {μ : Gh} {L : Nat} {x : P} {v : V} (h : scV x = some v) : RepP K H μ L x v := by
  cases x <;> simp only [scV, Option.some.injEq] at h <;> first | (cases h; done) | (subst h; simp only [RepP])
theorem setOne_sc {N : List Str} {sc : Scope} {n : Option Nat} {i : Nat} {e : SC} {st : Stmt} (q : setOne lk N sc n i e st = true) : ∃ v, chkSC lk N sc n e v = true := by
  cases st <;> first | (simp [setOne] at q; done) | skip
  rename_i ts v pos
  cases ts with
  | nil => simp [setOne] at q
  | cons t r =>
  cases r with
  | cons t2 r =>
    exfalso
    cases t <;> simp [setOne] at q
  | nil =>
  cases t <;> first | (simp [setOne] at q; done) | skip
  simp only [setOne, Bool.and_eq_true] at q
  exact ⟨v, q.2⟩
theorem chkH1_sc {N : List Str} {sc : Scope} {c i : Nat} {e : SC} {h : ExceptHandler} (q1 : chkH1 lk N sc c i e h = true) : ∃ v, chkSC lk N sc none e v = true := by
  cases h
  rename_i ty nm su pos
  cases ty <;> first | (simp [chkH1] at q1; done) | skip
  rename_i tx
  cases tx <;> first | (simp [chkH1] at q1; done) | skip
  cases nm <;> first | (simp [chkH1] at q1; done) | skip
  cases su with
  | nil => simp [chkH1] at q1
  | cons st r2 =>
  cases r2 with
  | cons _ _ => simp [chkH1] at q1
  | nil =>
  simp only [chkH1, Bool.and_eq_true] at q1
  exact setOne_sc q1.2
/-- a suite of one line -/
theorem pss_one_sc {N : List Str} {sc : Scope} {X : Cx} {W : WX} (C : Sok lk cv call sub k N sc X W) {n : Option Nat} {i : Nat} {a : Addr} {oe : Obj} {cls : Value} {d : Option Addr} {pn : List (Addr × Obj)} (hz : Zc cls d oe) (hf : ∃ vs, oe.data = .fields vs) {e : SC} {st : Stmt} (q : setOne lk N sc n i e st = true) :
    PSs (X.suite a ((a, oe) :: pn)) [st] (tAsg (tSC sub a cls d cv n e) (gName i)) := by
  cases st <;> first | (simp [setOne] at q; done) | skip
  rename_i ts v pos
  cases ts with
  | nil => simp [setOne] at q
  | cons t r =>
  cases r with
  | cons t2 r =>
    exfalso
    cases t <;> simp [setOne] at q
  | nil =>
  cases t <;> first | (simp [setOne] at q; done) | skip
  simp only [setOne, Bool.and_eq_true, decide_eq_true_eq] at q
  obtain ⟨⟨q1, q2⟩, q3⟩ := q
  obtain ⟨hl, hfn⟩ := C.loc q2
  exact pss_one (ps_set (X := X.suite a ((a, oe) :: pn)) (by show X.N.Nodup; rw [C.eN]; exact C.nd) (by show X.N[i]? = _; rw [C.eN]; exact q1) hl (pe_sc C hz hf e v q3)
    (by cases v <;> first | rfl | (exfalso; cases e <;> first | (simp [chkSC] at q3; done) | (rename_i p; cases p <;> simp [chkSC] at q3))) hfn)
/-- the clauses -/
def tcl (sub : Nat → Nat → Option Bool) (cv : Nat → Value) (n : Option Nat) : List (Nat × Nat × SC) → List (Value × (Addr → Value → Option Addr → TS))
  | [] => []
  | (c, i, e) :: r => (cv c, fun a cls d => tAsg (tSC sub a cls d cv n e) (gName i)) :: tcl sub cv n r
theorem hds_ok {N : List Str} {sc : Scope} {X : Cx} {W : WX} (C : Sok lk cv call sub k N sc X W) : ∀ {l : List (Nat × Nat × SC)} {hs : List ExceptHandler}, chkH lk N sc l hs = true → HdsOk X hs (tcl sub cv none l)
  | [], [], _ => .nil
  | [], _ :: _, q => by simp [chkH] at q
  | _ :: _, [], q => by simp [chkH] at q
  | (c, i, e) :: r, h :: hs, q => by
    simp only [chkH, Bool.and_eq_true] at q
    obtain ⟨q1, q2⟩ := q
    have ih := hds_ok C q2
    cases h
    rename_i ty nm su pos
    cases ty <;> first | (simp [chkH1] at q1; done) | skip
    rename_i tx
    cases tx <;> first | (simp [chkH1] at q1; done) | skip
    cases nm <;> first | (simp [chkH1] at q1; done) | skip
    cases su with
    | nil => simp [chkH1] at q1
    | cons st r2 =>
    cases r2 with
    | cons _ _ => simp [chkH1] at q1
    | nil =>
    simp only [chkH1, Bool.and_eq_true] at q1
    exact .cons (names_of C q1.1.1 q1.1.2) (fun a oe cls d pn hz hf => pss_one_sc C hz hf q1.2) ih
theorem wMany_of {K : PySem.W.Frag} {W : WX} {Z : Ends} {N : List Str} {sc : Scope} {X : Cx} {W' : WX} (C : Sok lk cv call sub k N sc X W') (hK : X.K = K) {c : Nat} {μ : Gh} {h : Hh} {H : Hp} {ρ : En} {σ : L2.St} (s : SimH K μ h H) (e : SimE K H μ h.length ρ σ) : ∀ {l : List (Nat × Nat × SC)} {hs : List ExceptHandler}, chkH lk N sc l hs = true →
    PostS K cv W Z μ h.length H (handle sub c ρ h l) → wMany K W Z (tcl sub cv none l) (cv c) none σ H
  | [], _, _, p => p μ H σ Step.refl s e
  | (c', i, ee) :: r, [], q, p => by simp [chkH] at q
  | (c', i, ee) :: r, hd :: hs, q, p => by
    simp only [chkH, Bool.and_eq_true] at q
    simp only [handle] at p
    cases hs : sub c c' with
    | none => rw [hs] at p; exact p.elim
    | some b =>
      rw [hs] at p
      obtain ⟨Ca, c1, cE, ce, ck⟩ := C.sub c c' b hs
      rw [hK] at ce
      refine ⟨b, by rw [c1]; exact ce, fun hb a na => ?_, fun hb => ?_⟩
      · subst hb
        simp only at p
        cases hx : evS sub c ee with
        | none => rw [hx] at p; exact p.elim
        | some x =>
          rw [hx] at p
          obtain ⟨v, hv⟩ := sc_val (chkH1_sc q.1).choose_spec hx
          refine ⟨rfl, c, x, v, rfl, fun m hm => ?_, hx, hv, p μ H _ Step.refl s (e.set (d := .p x) i (scV_rep hv))⟩
          cases hm
      · subst hb
        exact wMany_of C hK s e q.2 p
theorem snd_tryM {body : Stms} {l : List (Nat × Nat × SC)} (hb : SndSs lk cv call sub k body) : SndS lk cv call sub k (.tryM body l) := ⟨fun {N sc X W} s C q => by
  cases s <;> first | (simp [chkS] at q; done) | skip
  rename_i b hds els fin pos
  cases hds with
  | nil => simp [chkS] at q
  | cons hd hds =>
  simp only [chkS, Bool.and_eq_true, List.isEmpty_iff] at q
  obtain ⟨⟨⟨q1, q2⟩, rfl⟩, rfl⟩ := q
  refine PS.imp (ps_try_many C.stk C.frm C.tk (tb := fun W' => tSs X.K cv call sub W' body) (fun W' pn xe tk po => hb.ps b (C.tr tk po) q1) (hds_ok C q2)) fun Z σ H ⟨μ, h, ρ, s, e, p⟩ => ?_
  simp only [ex] at p
  refine ⟨μ, h, ρ, s, e, ?_⟩
  cases hx : exs call sub body ρ h with
  | exc c ρ1 h1 =>
    rw [hx] at p
    exact fun μ' H' σ' st s' e' => wMany_of C rfl s' e' q2 (PostS.rebase st p)
  | nx ρ1 h1 => rw [hx] at p; exact p
  | brk ρ1 h1 => rw [hx] at p; exact p
  | ct ρ1 h1 => rw [hx] at p; exact p
  | ret d h1 => rw [hx] at p; exact p
  | stk => rw [hx] at p; exact p⟩
theorem snd_tryAs {body : Stms} {c n i : Nat} {ee : SC} (hb : SndSs lk cv call sub k body) : SndS lk cv call sub k (.tryAs body c n i ee) := ⟨fun {N sc X W} s C q => by
  cases s <;> first | (simp [chkS] at q; done) | skip
  rename_i b hds els fin pos
  simp only [chkS, Bool.and_eq_true, List.isEmpty_iff, decide_eq_true_eq] at q
  obtain ⟨⟨⟨⟨q1, q2⟩, hin⟩, rfl⟩, rfl⟩ := q
  cases hds with
  | nil => simp [chkAs] at q2
  | cons hd hds =>
  cases hds with
  | cons _ _ => simp [chkAs] at q2
  | nil =>
  simp only [chkAs] at q2
  cases hd
  rename_i ty nm su pos
  cases ty <;> first | (simp [chkAs1] at q2; done) | skip
  rename_i tx
  cases tx <;> first | (simp [chkAs1] at q2; done) | skip
  cases nm <;> first | (simp [chkAs1] at q2; done) | skip
  cases su with
  | nil => simp [chkAs1] at q2
  | cons st r2 =>
  cases r2 with
  | cons _ _ => simp [chkAs1] at q2
  | nil =>
  simp only [chkAs1, Bool.and_eq_true, decide_eq_true_eq] at q2
  obtain ⟨⟨⟨⟨q3, q4⟩, q5⟩, q6⟩, q7⟩ := q2
  have hloc := beq_iff_eq.mp q6
  refine PS.imp (ps_try_as C.stk C.frm (by rw [C.eN]; exact C.nd) (by rw [C.eN]; exact q5) (by unfold Env.kindOf; rw [C.esc]; exact hloc) (names_of C q3 q4) C.tk (tb := fun W' => tSs X.K cv call sub W' body)
    (fun W' pn xe tk po => hb.ps b (C.tr tk po) q1) (fun a oe cls d pn hz hf => pss_one_sc C hz hf q7)) fun Z σ H ⟨μ, h, ρ, s, e, p⟩ => ?_
  simp only [ex] at p
  refine ⟨μ, h, ρ, s, e, ?_⟩
  cases hx : exs call sub body ρ h with
  | exc c' ρ1 h1 =>
    rw [hx] at p
    simp only at p
    intro μ' H' σ' st s' e'
    cases hs : sub c' c with
    | none => rw [hs] at p; exact p.elim
    | some bb =>
      rw [hs] at p
      obtain ⟨Ca, c1, cE, ce, ck⟩ := C.sub c' c bb hs
      refine ⟨bb, by rw [c1]; exact ce, fun hb a na => ?_, fun hb => ?_⟩
      · subst hb
        simp only at p
        cases hx : evS sub c' ee with
        | none => rw [hx] at p; exact p.elim
        | some x =>
          rw [hx] at p
          obtain ⟨z, hz⟩ := setOne_sc q7
          obtain ⟨v, hv⟩ := sc_val hz hx
          refine ⟨rfl, c', x, v, rfl, fun m hm hlt => ?_, hx, hv, ?_⟩
          · cases hm
            exact List.getElem?_set_self (by simpa using hlt)
          · refine p μ' H' _ st s' ?_
            have e1 := (e'.set (d := .p x) i (scV_rep (K := X.K) (H := H') (μ := μ') (L := h1.length) hv)).unset n
            have e2 : ((σ'.set n (some (.ref a))).set i (some v)).set n none = (σ'.set i (some v)).set n none := by
              rw [List.set_comm _ _ hin, List.set_set, ← List.set_comm _ _ hin]
            show SimE X.K H' μ' h1.length _ (((σ'.set n (some (.ref a))).set i (some v)).set n none)
            rw [e2]
            exact e1
      · subst hb
        exact p μ' H' σ' st s' e'
  | nx ρ1 h1 => rw [hx] at p; exact p
  | brk ρ1 h1 => rw [hx] at p; exact p
  | ct ρ1 h1 => rw [hx] at p; exact p
  | ret d h1 => rw [hx] at p; exact p
  | stk => rw [hx] at p; exact p⟩
end
section
variable (lk : Lk) (cv : Nat → Value) (call : Nat → List D → Hh → R D) (sub : Nat → Nat → Option Bool) (k : Nat)
mutual
theorem snd_stm : ∀ s : Stm, SndS lk cv call sub k s
  | .set i e => snd_set (snd_all lk cv call k e) fun c w as tg cond elt _ => ⟨(snds_all lk cv call k as).1, (snds_all lk cv call k as).2, (snds_all lk cv call k cond).2, snd_all lk cv call k elt⟩
  | .unp t e => snd_unp (snd_all lk cv call k e)
  | .put a i e => snd_put (snd_all lk cv call k a) (snd_all lk cv call k i) (snd_all lk cv call k e)
  | .app a e => snd_app (snd_all lk cv call k a) (snd_all lk cv call k e)
  | .iff c t e => snd_iff (snd_all lk cv call k c) (snd_stms t) (snd_stms e)
  | .forS w as tg body => snd_for (snds_all lk cv call k as).1 (snds_all lk cv call k as).2 (snd_stms body)
  | .whl c body => snd_whl (snd_all lk cv call k c) (snd_stms body)
  | .ret e => snd_ret (snd_all lk cv call k e)
  | .raise c => snd_raise c
  | .tryM body hs => snd_tryM (snd_stms body)
  | .tryAs body c n i e => snd_tryAs (snd_stms body)
  | .expr e => snd_expr (snd_all lk cv call k e)
  | .pass => snd_pass
theorem snd_stms : ∀ s : Stms, SndSs lk cv call sub k s
  | .nil => snds_nil
  | .cons a as => snds_cons (snd_stm a) (snd_stms as)
end
end
end MP

end
section
set_option Elab.async false
set_option maxRecDepth 100000
set_option linter.all false
set_option maxHeartbeats 4000000
/-! Defs: each keeps the promise that run tells. -/
namespace MP
open PySem PySem.Spec PyProof.Rows L2
/-! ### a def of plain data, run apart -/
section
variable {K : PySem.W.Frag} {μ μ' : Gh} {L L' : Nat} {H H' : Hp}
mutual
theorem RepP.map (hf : ∀ a xs, FzL K H μ L a xs → FzL K H' μ' L' a xs) (ht : ∀ a xs, SqT K H a xs → SqT K H' a xs) (he : ∀ a, H a = some (.dK []) → H' a = some (.dK [])) : ∀ (x : P) (v : V), RepP K H μ L x v → RepP K H' μ' L' x v
  | .non, _, h => by simpa only [RepP] using h
  | .bl _, _, h => by simpa only [RepP] using h
  | .int _, _, h => by simpa only [RepP] using h
  | .str _, _, h => by simpa only [RepP] using h
  | .tup xs, _, h => by
    simp only [RepP] at h ⊢
    obtain ⟨a, vs, e, h1, h2, h3⟩ := h
    exact ⟨a, vs, e, ht _ _ h1, RepPs.map hf ht he xs vs h2, h3⟩
  | .lst xs, _, h => by
    simp only [RepP] at h ⊢
    obtain ⟨a, vs, e, h1, h2, h3⟩ := h
    exact ⟨a, vs, e, hf _ _ h1, RepPs.map hf ht he xs vs h2, h3⟩
  | .edc, _, h => by
    simp only [RepP] at h ⊢
    obtain ⟨a, e, h1⟩ := h
    exact ⟨a, e, he a h1⟩
theorem RepPs.map (hf : ∀ a xs, FzL K H μ L a xs → FzL K H' μ' L' a xs) (ht : ∀ a xs, SqT K H a xs → SqT K H' a xs) (he : ∀ a, H a = some (.dK []) → H' a = some (.dK [])) : ∀ (xs : List P) (vs : List V), RepPs K H μ L xs vs → RepPs K H' μ' L' xs vs
  | [], _, h => by simpa only [RepPs] using h
  | x :: xs, _, h => by
    simp only [RepPs] at h ⊢
    obtain ⟨v, r, e, h1, h2⟩ := h
    exact ⟨v, r, e, RepP.map hf ht he x v h1, RepPs.map hf ht he xs r h2⟩
end
end
/-- the ghost of a run apart -/
def Gh.apart (μ : Gh) (L : Nat) : Gh := ⟨fun b => μ.B b ∨ ∃ n, n < L ∧ μ n = b, μ.f⟩
theorem nc_apart {μ : Gh} {L : Nat} {a : Addr} (n : NC μ L a) : NC (μ.apart L) 0 a := ⟨fun h => h.elim n.1 fun ⟨i, hi, e⟩ => n.2 i hi e, fun i hi => absurd hi (Nat.not_lt_zero i)⟩
theorem nc_back {μ μ1 : Gh} {L L1 : Nat} {a : Addr} (e : μ1.B = (μ.apart L).B) (n : NC μ1 L1 a) : NC μ L a := by
  have h := n.1
  rw [e] at h
  exact ⟨fun z => h (.inl z), fun i hi q => h (.inr ⟨i, hi, q⟩)⟩
section
variable {K : PySem.W.Frag} {μ μ1 : Gh} {h h1 : Hh} {H H1 : Hp}
theorem SimH.apart (s : SimH K μ h H) : SimH K (μ.apart h.length) [] H where
  nb := fun n hn => absurd hn (Nat.not_lt_zero n)
  tr := fun b hb => hb.elim (s.tr b) fun ⟨n, hn, e⟩ => by
    obtain ⟨vs, q⟩ := s.cell hn
    rw [← e]
    exact ⟨_, q⟩
  inj := fun i j hi => absurd hi (Nat.not_lt_zero i)
  at_ := fun n ds e => by simp at e
theorem rep_apart {x : P} {v : V} (r : RepP K H μ h.length x v) : RepP K H (μ.apart h.length) 0 x v :=
  RepP.map (fun a xs f => f.elim (fun ⟨q, n⟩ => .inl ⟨q, nc_apart n⟩) .inr) (fun _ _ q => q) (fun _ q => q) x v r
theorem reps_apart : ∀ {ds : List D} {xs : List P} {vs : List V}, allP ds = some xs → RepDs K H μ h.length ds vs → RepDs K H (μ.apart h.length) 0 (xs.map D.p) vs
  | [], _, _, e, r => by
    simp only [allP, Option.some.injEq] at e
    subst e
    exact r
  | .p x :: ds, _, _, e, ⟨v, u, e2, r1, r2⟩ => by
    simp only [allP] at e
    split at e
    · rename_i ys hy
      cases e
      exact ⟨v, u, e2, rep_apart r1, reps_apart hy r2⟩
    · cases e
  | .ref _ :: _, _, _, e, _ => by simp [allP] at e
theorem step_apart (s : SimH K μ h H) (st : Step (μ.apart h.length) 0 H μ1 h1.length H1) : Step μ h.length H μ h.length H1 where
  le := Nat.le_refl _
  mu := fun _ _ => rfl
  imm := st.imm
  keep := fun a o e n => ⟨(st.keep a o e (nc_apart n)).1, n⟩
  eB := rfl
  bar := fun b hb => st.bar b (.inl hb)
theorem sim_apart (s : SimH K μ h H) (st : Step (μ.apart h.length) 0 H μ1 h1.length H1) : SimH K μ h H1 :=
  s.step (step_apart s st) fun n hn => st.bar (μ n) (.inr ⟨n, hn, rfl⟩)
theorem back_apart {x : P} {v : V} (e : μ1.B = (μ.apart h.length).B) (r : RepP K H1 μ1 h1.length x v) : RepP K H1 μ h.length x v :=
  RepP.map (fun a xs f => f.elim (fun ⟨q, n⟩ => .inl ⟨q, nc_back e n⟩) .inr) (fun _ _ q => q) (fun _ q => q) x v r
theorem mapO_deref {m : Nat} (ih : ∀ (d : D) (x : P) (v : V), deref m h1 d = some x → RepD K H1 μ1 h1.length d v → RepP K H1 μ h.length x v) : ∀ {ds : List D} {xs : List P} {vs : List V}, mapO (deref m h1) ds = some xs → RepDs K H1 μ1 h1.length ds vs → RepPs K H1 μ h.length xs vs
  | [], _, _, e, r => by
    simp only [mapO, Option.some.injEq] at e
    subst e
    simp only [RepPs]
    exact r
  | d :: ds, _, _, e, ⟨v, u, e2, r1, r2⟩ => by
    simp only [mapO] at e
    split at e
    · rename_i y ys hy hys
      cases e
      simp only [RepPs]
      exact ⟨v, u, e2, ih d y v hy r1, mapO_deref ih hys r2⟩
    · cases e
theorem deref_apart (e : μ1.B = (μ.apart h.length).B) (s1 : SimH K μ1 h1 H1) : ∀ (m : Nat) (d : D) (x : P) (v : V), deref m h1 d = some x → RepD K H1 μ1 h1.length d v → RepP K H1 μ h.length x v
  | m, .p y, x, v, q, r => by
    have : y = x := by cases m <;> simpa [deref] using q
    subst this
    exact back_apart e r
  | 0, .ref n, x, v, q, r => by simp [deref] at q
  | m + 1, .ref n, x, v, q, r => by
    simp only [deref] at q
    cases hn : h1[n]? with
    | none => rw [hn] at q; cases q
    | some ds =>
      rw [hn] at q
      simp only at q
      obtain ⟨hlt, rfl⟩ := r
      obtain ⟨vs, hv, rv, hz⟩ := s1.at_ n ds hn
      cases hm : mapO (deref m h1) ds with
      | none => rw [hm] at q; cases q
      | some xs =>
        rw [hm] at q
        simp only [Option.map_some, Option.some.injEq] at q
        subst q
        simp only [RepP]
        have nc : NC μ h.length (μ1 n) := by
          have hb := s1.nb n hlt
          rw [e] at hb
          exact ⟨fun z => hb (.inl z), fun i hi z => hb (.inr ⟨i, hi, z⟩)⟩
        exact ⟨μ1 n, vs, rfl, .inl ⟨.inl hv, nc⟩, mapO_deref (deref_apart e s1 m) hm rv, hz⟩
end
theorem SimE.start {K : PySem.W.Frag} {H : Hp} {μ : Gh} {L : Nat} {ds : List D} {vs : List V} {N : List Str} (r : RepDs K H μ L ds vs) : SimE K H μ L (MP.start N.length ds) (L2.start N vs) := by
  have hl := r.length
  refine ⟨by simp [MP.start, L2.start, hl], fun i d e => ?_⟩
  unfold MP.start at e
  have hi : i < ds.length := by
    rcases Nat.lt_or_ge i ds.length with q | q
    · exact q
    · rw [List.getElem?_append_right (by simpa using q), List.getElem?_replicate] at e
      split at e <;> cases e
  rw [List.getElem?_append_left (by simpa using hi), List.getElem?_map] at e
  cases hd : ds[i]? with
  | none => rw [hd] at e; cases e
  | some d' =>
    rw [hd] at e
    cases e
    obtain ⟨v, h1, h2⟩ := r.get hd
    refine ⟨v, ?_, h2⟩
    unfold L2.start
    rw [List.getElem?_append_left (by simpa [hl] using hi), List.getElem?_map, h1]
    rfl
/-! ### the defs -/
def BindOk (params : Arguments) (ps : List Str) : Prop := ∀ (x qual : Str) (body : List Stmt) (scope : Scope) (kV doc pm : Value) (an : Option Addr) (cdv ct : Value) (us : List Value), us.length = ps.length → bindArgs (PySem.W.fnOf x qual params body scope .none kV doc pm an cdv ct) ⟨us, []⟩ = pure (ps.zip us)
def scOk (N ps : List Str) (sc : Scope) : Bool := (match sc.kind with | .function => true | _ => false) && !sc.isCoroutine && !sc.isGenerator && decide N.Nodup && decide (N.take ps.length = ps) &&
  (ps.all fun x => decide (sc.names.lookup x = some .local) || decide (sc.names.lookup x = some .cell)) && (sc.names.all fun y => decide (y.2 ≠ .free))
theorem scOk_of {N ps : List Str} {sc : Scope} (h : scOk N ps sc = true) : FnScope N ps sc := by
  unfold scOk at h
  simp only [Bool.and_eq_true, Bool.not_eq_true', List.all_eq_true, Bool.or_eq_true, decide_eq_true_eq] at h
  obtain ⟨⟨⟨⟨⟨⟨h1, h2⟩, h3⟩, h4⟩, h5⟩, h6⟩, h7⟩ := h
  refine ⟨?_, h2, h3, h4, h5, h6, h7⟩
  split at h1
  · assumption
  · cases h1
/-- what a row of the table must be -/
def ftOk (lk : Lk) (ft : FT) : Bool := scOk ft.N ft.ps (defScope ft.st) && decide (ft.fn.np = ft.ps.length) && decide (ft.fn.ns = ft.N.length) && chkSs lk ft.N (defScope ft.st) ft.fn.body (defBody ft.st)
/-- what the written part says -/
structure Said (P : Program) (w : World) (lk : Lk) (K : PySem.W.Frag) (mg : Str → Option Value) (base : Heap) (cv : Nat → Value) (sub : Nat → Nat → Option Bool) : Prop where
  ok : ∀ ft ∈ lk.fns, ftOk lk ft = true
  bnd : ∀ ft ∈ lk.fns, BindOk (defArgs ft.st) ft.ps
  fns : ∀ ft ∈ lk.fns, ∃ (fa : Addr) (fd : FuncData), FunD K ft.nm ft.nm (defArgs ft.st) (defBody ft.st) (defScope ft.st) [] [] fa fd ∧ mg ft.nm = some (.ref fa)
  blt : ∀ x ∈ bNames, mg x = none
  cls : ∀ (c : Nat) (x : Str), lk.cls[c]? = some x → ∃ C : Addr, cv c = .ref C ∧ mg x = some (.ref C) ∧ PySem.W.keepIn K (.ref C) = true ∧ PySem.W.subIn K (.ref C) (.type "BaseException") = some true ∧ PySem.W.typeIn K (.ref C) = some (.type "type") ∧
    PySem.W.excIn K C [.type "ValueError", .type "Exception", .type "BaseException", .type "object"] "ValueError.__new__" = true
  bcl : ∀ (j : Nat) (x : Str), lk.bcl[j]? = some x → ∃ T, cv (lk.cls.length + j) = .type T ∧ mg x = none ∧ bootBuiltins x = some (.type T)
  sub : ∀ (c d : Nat) (b : Bool), sub c d = some b → ∃ C : Addr, cv c = .ref C ∧ ExcC K C ∧ PySem.W.exmOne K (.ref C) (cv d) = some b ∧ PySem.W.kitOne K (.ref C) (cv d) = some b
section
variable {P : Program} {w : World} {lk : Lk} {K : PySem.W.Frag} {mg : Str → Option Value} {base : Heap} {cv : Nat → Value} {sub : Nat → Nat → Option Bool}
abbrev Lk.pg (lk : Lk) : List Fn := lk.fns.map (·.fn)
theorem run_ar (S : Said P w lk K mg base cv sub) (k : Nat) {f : Nat} {ft : FT} (h : lk.fns[f]? = some ft) (ds : List D) (hh : Hh) (hl : ds.length ≠ ft.ps.length) : run lk.pg sub k f ds hh = .stk := by
  cases k with
  | zero => rfl
  | succ k =>
    have ok := S.ok ft (List.mem_of_getElem? h)
    unfold ftOk at ok
    simp only [Bool.and_eq_true, decide_eq_true_eq] at ok
    simp only [run, Lk.pg, List.getElem?_map, h, Option.map_some]
    rw [if_neg (by rw [ok.1.1.2]; exact hl)]
theorem fn_all (S : Said P w lk K mg base cv sub) : ∀ (k : Nat) (f : Nat) (ft : FT), lk.fns[f]? = some ft → ∃ (fa : Addr) (fd : FuncData), FunD K ft.nm ft.nm (defArgs ft.st) (defBody ft.st) (defScope ft.st) [] [] fa fd ∧ FnOk P w K mg base (L2.CX P w) k fa fd ft.ps (spF K cv (run lk.pg sub k) f ft.ps.length) ∧ mg ft.nm = some (.ref fa) ∧
    PySem.W.keepIn K (.ref fa) = true ∧ Binds K fd ft.ps []
  | 0, f, ft, h => by
    have hm := List.mem_of_getElem? h
    obtain ⟨fa, fd, F, hg⟩ := S.fns ft hm
    refine ⟨fa, fd, F, ⟨fun vs H Q E q => q.1, fun A outer s H args us vs Q E _ _ _ _ q => ?_⟩, hg, F.kp, F.bindsN fun kV doc pm an cdv ct us hl => S.bnd ft hm _ _ _ _ _ _ _ _ _ _ us hl⟩
    obtain ⟨_, μ, h, ds, s, r, p⟩ := q
    exact p.elim
  | k + 1, f, ft, h => by
    have hm := List.mem_of_getElem? h
    obtain ⟨fa, fd, F, hg⟩ := S.fns ft hm
    have ok := S.ok ft hm
    unfold ftOk at ok
    simp only [Bool.and_eq_true, decide_eq_true_eq] at ok
    obtain ⟨⟨⟨k1, k2⟩, k3⟩, k4⟩ := ok
    have sc := scOk_of k1
    refine ⟨fa, fd, F, F.ok sc (fun vs H Q E q => q.1) (fun cdv A outer s H vs Q E hr q => ⟨tSs K cv (run lk.pg sub k) sub (fun cls d _ H => E cls d H) ft.fn.body, ?_, ?_⟩), hg, F.kp, F.bindsN fun kV doc pm an cdv ct us hl => S.bnd ft hm _ _ _ _ _ _ _ _ _ _ us hl⟩
    · refine (snd_stms lk cv (run lk.pg sub k) sub k ft.fn.body).ps (defBody ft.st) (N := ft.N) (sc := defScope ft.st) ?_ k4
      exact {
        eN := rfl
        esc := rfl
        nd := sc.nd
        calm := rfl
        room := hr
        tk := takes_of rfl rfl rfl rfl
        fns := fun f ft h => let ⟨fa, fd, _, h1, h2, h3, h4⟩ := fn_all S k f ft h; ⟨fa, fd, h1, h2, h3, h4⟩
        blt := S.blt
        ar := fun f ft ds hh h hl => run_ar S k h ds hh hl
        cls := fun c x hc => let ⟨C, c1, c2, c3, c4, c5, c6⟩ := S.cls c x hc; ⟨C, c1, c2, c3, raises_own c4 c5, c6⟩
        fnt := fun _ => rfl
        stk := rfl
        frm := rfl
        po := passes_of rfl
        bcl := S.bcl
        sub := S.sub }
    · obtain ⟨hl, μ, h0, ds, s, r, p⟩ := q
      simp only [run, Lk.pg, List.getElem?_map, h, Option.map_some] at p
      rw [if_pos (by rw [k2, ← r.length]; exact hl)] at p
      have hN : ft.fn.ns = ft.N.length := k3
      cases hgc : ft.fn.gc with
      | false =>
        rw [hgc] at p
        simp only [Bool.false_eq_true, if_false] at p
        refine ⟨μ, h0, _, s, hN ▸ SimE.start (N := ft.N) r, ?_⟩
        cases hx : exs (run lk.pg sub k) sub ft.fn.body (MP.start ft.fn.ns ds) h0 with
        | nx ρ1 h1 => rw [hx] at p; exact fun μ' H' σ' st s' e' => p μ' H' st s' _ rfl
        | ret d h1 => rw [hx] at p; exact fun μ' H' v st s' r' => p μ' H' st s' v r'
        | exc c ρ1 h1 => rw [hx] at p; exact fun μ' H' σ' st s' e' => p μ' H' st s'
        | brk ρ1 h1 => rw [hx] at p; exact p.elim
        | ct ρ1 h1 => rw [hx] at p; exact p.elim
        | stk => rw [hx] at p; exact p.elim
      | true =>
        rw [hgc] at p
        simp only [if_true] at p
        cases ha : allP ds with
        | none => rw [ha] at p; exact p.elim
        | some xs =>
          rw [ha] at p
          simp only at p
          have r0 := reps_apart ha r
          refine ⟨μ.apart h0.length, [], _, s.apart, hN ▸ SimE.start (N := ft.N) r0, ?_⟩
          cases hx : exs (run lk.pg sub k) sub ft.fn.body (MP.start ft.fn.ns (xs.map D.p)) [] with
          | nx ρ1 h1 => rw [hx] at p; exact fun μ' H' σ' st s' e' => p μ H' (step_apart s st) (sim_apart s st) _ rfl
          | ret d h1 =>
            rw [hx] at p
            simp only at p
            intro μ' H' v st s' r'
            cases hd : deref 4 h1 d with
            | none => rw [hd] at p; exact p.elim
            | some x =>
              rw [hd] at p
              exact p μ H' (step_apart s st) (sim_apart s st) _ (deref_apart st.eB s' 4 d x v hd r')
          | exc c ρ1 h1 => rw [hx] at p; exact fun μ' H' σ' st s' e' => p μ H' (step_apart s st) (sim_apart s st)
          | brk ρ1 h1 => rw [hx] at p; exact p.elim
          | ct ρ1 h1 => rw [hx] at p; exact p.elim
          | stk => rw [hx] at p; exact p.elim
end
end MP

end
section
set_option Elab.async false
set_option maxRecDepth 100000
set_option linter.all false
set_option maxHeartbeats 4000000
/-! A row: the table, the head's facts, the law. -/
namespace MP
open PySem PySem.Spec PyProof.Rows L2
def dOf (ft : FT) : He.DefD := ⟨(ft.nm, none), ft.nm, ft.nm, defArgs ft.st, defBody ft.st, defScope ft.st, [], []⟩
def faOf (lk : Lk) : List He.Fa := (lk.fns.map fun ft => .glo ft.nm) ++ (lk.cls.map He.Fa.glo ++ (lk.cls.map He.Fa.exc ++ (bNames.map He.Fa.free ++ lk.bcl.map He.Fa.free)))
def cvOf (lk : Lk) (K : PySem.W.Frag) (c : Nat) : Value := match lk.cls[c]? with
  | some x => .ref (He.ga K x)
  | none => match lk.bcl[c - lk.cls.length]? with
    | some x => (bootBuiltins x).getD .none
    | none => .none
def subT (tab : List (List Bool)) (c d : Nat) : Option Bool := (tab[c]?).bind fun r => r[d]?
def excCB (K : PySem.W.Frag) (C : Addr) : Bool := He.eqO (PySem.W.findIn K (.ref C) "__getattribute__") (some (some (.builtin "BaseException.__getattribute__"))) && (He.eqO (PySem.W.findIn K (.ref C) "__getattr__") (some none) &&
  (decide (PySem.W.subIn K (.ref C) (.type "BaseException") = some true) && (PySem.W.hasDictIn K C && (He.eqO (PySem.W.findIn K (.ref C) "__class__") (some (some (.builtin "object.__class__"))) &&
  (He.eqO (PySem.W.specialIn K (.builtin "object.__class__") "__get__") (some (some (.builtin "getset_descriptor.__get__"))) && (decide (PySem.W.takesIn K (.builtin "object.__class__") = some true) && decide (PySem.W.mroIn K C (.type "object") = some true)))))))
theorem excCB_ok {K : PySem.W.Frag} {C : Addr} (h : excCB K C = true) : ExcC K C := by
  obtain ⟨h1, h⟩ := He.ba h
  obtain ⟨h2, h⟩ := He.ba h
  obtain ⟨h3, h⟩ := He.ba h
  obtain ⟨h4, h⟩ := He.ba h
  obtain ⟨h5, h⟩ := He.ba h
  obtain ⟨h6, h⟩ := He.ba h
  obtain ⟨h7, h8⟩ := He.ba h
  exact ⟨He.eqO_ok h1, He.eqO_ok h2, of_decide_eq_true h3, h4, He.eqO_ok h5, He.eqO_ok h6, of_decide_eq_true h7, of_decide_eq_true h8⟩
def subB (lk : Lk) (K : PySem.W.Frag) (c : Nat) (C : Addr) : Nat → List Bool → Bool
  | _, [] => true
  | d, b :: r => decide (PySem.W.exmOne K (.ref C) (cvOf lk K d) = some b) && (decide (PySem.W.kitOne K (.ref C) (cvOf lk K d) = some b) && subB lk K c C (d + 1) r)
def exRows (lk : Lk) (K : PySem.W.Frag) : Nat → List (List Bool) → Bool
  | _, [] => true
  | c, r :: t => (match lk.cls[c]? with
    | some x => excCB K (He.ga K x) && subB lk K c (He.ga K x) 0 r
    | none => false) && exRows lk K (c + 1) t
def exOf (lk : Lk) (tab : List (List Bool)) (K : PySem.W.Frag) : Bool := exRows lk K 0 tab
theorem subB_ok {lk : Lk} {K : PySem.W.Frag} {c : Nat} {C : Addr} : ∀ {r : List Bool} {d0 : Nat}, subB lk K c C d0 r = true → ∀ {d : Nat} {b : Bool}, r[d]? = some b → PySem.W.exmOne K (.ref C) (cvOf lk K (d0 + d)) = some b ∧ PySem.W.kitOne K (.ref C) (cvOf lk K (d0 + d)) = some b
  | [], d0, _, d, b, e => by simp at e
  | b0 :: r, d0, h, 0, b, e => by
    obtain ⟨h1, h⟩ := He.ba h
    obtain ⟨h2, h3⟩ := He.ba h
    simp only [List.getElem?_cons_zero, Option.some.injEq] at e
    subst e
    exact ⟨of_decide_eq_true h1, of_decide_eq_true h2⟩
  | b0 :: r, d0, h, d + 1, b, e => by
    obtain ⟨h1, h⟩ := He.ba h
    obtain ⟨h2, h3⟩ := He.ba h
    have := subB_ok (d0 := d0 + 1) h3 (d := d) (b := b) (by simpa using e)
    rw [show d0 + (d + 1) = d0 + 1 + d by omega]
    exact this
theorem exRows_ok {lk : Lk} {K : PySem.W.Frag} : ∀ {t : List (List Bool)} {c0 : Nat}, exRows lk K c0 t = true → ∀ {c : Nat} {r : List Bool}, t[c]? = some r → ∃ x, lk.cls[c0 + c]? = some x ∧ ExcC K (He.ga K x) ∧ ∀ {d : Nat} {b : Bool}, r[d]? = some b →
    PySem.W.exmOne K (.ref (He.ga K x)) (cvOf lk K d) = some b ∧ PySem.W.kitOne K (.ref (He.ga K x)) (cvOf lk K d) = some b
  | [], c0, _, c, r, e => by simp at e
  | r0 :: t, c0, h, 0, r, e => by
    obtain ⟨h1, h2⟩ := He.ba h
    simp only [List.getElem?_cons_zero, Option.some.injEq] at e
    subst e
    cases hx : lk.cls[c0]? with
    | none => rw [hx] at h1; cases h1
    | some x =>
      rw [hx] at h1
      obtain ⟨h3, h4⟩ := He.ba h1
      exact ⟨x, rfl, excCB_ok h3, fun {d b} hd => by simpa using subB_ok h4 hd⟩
  | r0 :: t, c0, h, c + 1, r, e => by
    obtain ⟨h1, h2⟩ := He.ba h
    rw [show c0 + (c + 1) = c0 + 1 + c by omega]
    exact exRows_ok (c0 := c0 + 1) h2 (c := c) (by simpa using e)
/-- the built-in classes that are named -/
def bclOk (lk : Lk) : Bool := lk.bcl.all fun x => match bootBuiltins x with
  | some (.type _) => true
  | _ => false
theorem said {P : Program} {w : World} {lk : Lk} {tab : List (List Bool)} {K : PySem.W.Frag} {h : Heap} {mg : Str → Option Value} (base : Heap) (X : K.In h) (G : h.Ns mainGlobals mg) (c : He.SaysX (faOf lk) (lk.fns.map dOf) [] [] (exOf lk tab) w h K)
    (ok : ∀ ft ∈ lk.fns, ftOk lk ft = true) (bnd : ∀ ft ∈ lk.fns, BindOk (defArgs ft.st) ft.ps) (hb : bclOk lk = true) : Said P w lk K mg base (cvOf lk K) (subT tab) := by
  have cD := c.t.d
  have fact : ∀ f ∈ faOf lk, f.ok K = true := fun f hf => cD.facts hf
  have cvO : ∀ c x, lk.cls[c]? = some x → cvOf lk K c = .ref (He.ga K x) := fun c x hc => by unfold cvOf; rw [hc]
  have cM := c.more
  refine ⟨ok, bnd, fun ft hm => ?_, fun x hx => ?_, fun c x hc => ?_, fun j x hj => ?_, fun c d b hs => ?_⟩
  · obtain ⟨fd, F⟩ := cD.defs (d := dOf ft) (List.mem_map_of_mem hm)
    refine ⟨He.ga K ft.nm, fd, F, He.glo_ok X G (fact (.glo ft.nm) ?_)⟩
    unfold faOf
    exact List.mem_append_left _ (List.mem_map.mpr ⟨ft, hm, rfl⟩)
  · refine He.free_ok X G (fact (.free x) ?_)
    unfold faOf
    exact List.mem_append_right _ (List.mem_append_right _ (List.mem_append_right _ (List.mem_append_left _ (List.mem_map.mpr ⟨x, hx, rfl⟩))))
  · have hm := List.mem_of_getElem? hc
    have g := He.glo_ok X G (fact (.glo x) (by
      unfold faOf
      exact List.mem_append_right _ (List.mem_append_left _ (List.mem_map.mpr ⟨x, hm, rfl⟩))))
    obtain ⟨e1, e2, e3, e4⟩ := He.exc_ok (fact (.exc x) (by
      unfold faOf
      exact List.mem_append_right _ (List.mem_append_right _ (List.mem_append_left _ (List.mem_map.mpr ⟨x, hm, rfl⟩)))))
    exact ⟨He.ga K x, cvO c x hc, g, e2, e3, e4, e1⟩
  · have hm := List.mem_of_getElem? hj
    have g := He.free_ok X G (fact (.free x) (by
      unfold faOf
      exact List.mem_append_right _ (List.mem_append_right _ (List.mem_append_right _ (List.mem_append_right _ (List.mem_map.mpr ⟨x, hm, rfl⟩))))))
    have hb2 := List.all_eq_true.mp hb x hm
    split at hb2
    · rename_i T hT
      refine ⟨T, ?_, g, hT⟩
      unfold cvOf
      rw [List.getElem?_eq_none (Nat.le_add_right _ _), Nat.add_sub_cancel_left, hj]
      simp [hT]
    · cases hb2
  · unfold subT at hs
    cases ht : tab[c]? with
    | none => rw [ht] at hs; cases hs
    | some r =>
      rw [ht] at hs
      obtain ⟨x, hx, hE, hr⟩ := exRows_ok (c0 := 0) cM ht
      rw [Nat.zero_add] at hx
      obtain ⟨h1, h2⟩ := hr hs
      exact ⟨He.ga K x, cvO c x hx, hE, h1, h2⟩
/-- the script -/
theorem ints_rep {K : PySem.W.Frag} {H : Hp} {μ : Gh} {L : Nat} : ∀ ns : List Int, RepPs K H μ L (ns.map P.int) (ns.map V.int)
  | [] => by simp only [List.map_nil, RepPs]
  | n :: ns => by
    simp only [List.map_cons, RepPs]
    exact ⟨_, _, rfl, by simp only [RepP], ints_rep ns⟩
theorem fz_of {K : PySem.W.Frag} {H : Hp} {μ : Gh} {a : Addr} {xs : List V} (hB : ∀ b, ¬ μ.B b) (s : SqL K H a xs) : FzL K H μ 0 a xs := by
  rcases s with s | s
  · exact .inl ⟨s, hB a, fun n hn => absurd hn (Nat.not_lt_zero n)⟩
  · exact .inr s
theorem law_sp {lk : Lk} {K : PySem.W.Frag} {cv : Nat → Value} {sub : Nat → Nat → Option Bool} {k fL m : Nat} (hm : m ≤ 1000000) (law : ∀ ns : List Int, ns.length ≤ m → ∃ h', run lk.pg sub k fL [.p (.lst (ns.map P.int))] [] = .ok (.p (.bl true)) h')
    (H : Hp) (a : Addr) (ns : List Int) (hl : ns.length ≤ m) (hS : SqL K H a (ns.map V.int)) : spF K cv (run lk.pg sub k) fL 1 [.ref a] H (fun v _ => v = .bl true) fun _ _ _ => False := by
  have hz : (ns.map V.int).length ≤ sizeLine := by
    rw [List.length_map]
    exact Nat.le_trans (Nat.le_trans hl hm) line_le
  refine ⟨rfl, ⟨fun _ => False, fun _ => 0⟩, [], [.p (.lst (ns.map P.int))], ⟨fun n hn => absurd hn (Nat.not_lt_zero n), fun b hb => hb.elim, fun i j hi => absurd hi (Nat.not_lt_zero i), fun n ds e => by simp at e⟩, ⟨.ref a, [], rfl, ?_, rfl⟩, ?_⟩
  · simp only [RepD, RepP]
    exact ⟨a, _, rfl, fz_of (fun b hb => hb) hS, ints_rep ns, hz⟩
  · obtain ⟨h', e⟩ := law ns hl
    rw [e]
    intro μ' H' st s v r
    simpa only [RepD, RepP] using r
theorem noCX {P : Program} {w : World} {H : Hp} {s : Shared} {e : Value} {s' : Shared} (h : L2.CX P w [] H s (fun _ _ _ => False) e s') : False := by
  obtain ⟨_, _, _, _, _, _, _, _, _, _, _, _, z⟩ := h
  exact z.elim
theorem funD_one {K : PySem.W.Frag} {x qual x' qual' : Str} {params params' : Arguments} {body body' : List Stmt} {scope scope' : Scope} {dvs dvs' : List V} {kws kws' : List (Str × V)} {f : Addr} {fd fd' : FuncData} (F : FunD K x qual params body scope dvs kws f fd) (F' : FunD K x' qual' params' body' scope' dvs' kws' f fd') : fd = fd' := by
  obtain ⟨_, _, _, _, _, _, _, _, _, _, _, l1, _⟩ := F.ex
  obtain ⟨_, _, _, _, _, _, _, _, _, _, _, l2, _⟩ := F'.ex
  rw [l1] at l2
  cases l2
  rfl
/-- the law's walk over the head -/
theorem walk_mp {l : PySem.W.OpenLaw} {n k fL : Nat} {q : Program} {loose : List Str} {XP : (Str → Option Value) → Heap → Prop} {d : DefRec} {x : Str} {lk : Lk} {tab : List (List Bool)} {ft : FT}
    (hn : l.most = some n) (hn2 : n ≤ 1000000) (hdf : d.params.defaults = []) (hr : Room k callerA) (hft : lk.fns[fL]? = some ft) (hps : ft.ps = [x]) (hnm : d.name = ft.nm)
    (ok : ∀ ft ∈ lk.fns, ftOk lk ft = true) (bnd : ∀ ft ∈ lk.fns, BindOk (defArgs ft.st) ft.ps) (hb : bclOk lk = true)
    (law : ∀ ns : List Int, ns.length ≤ n → ∃ h', run lk.pg (subT tab) k fL [.p (.lst (ns.map P.int))] [] = .ok (.p (.bl true)) h') :
    PySem.W.WalkO q loose XP (fun w h => ∃ K : PySem.W.Frag, K.In h ∧ He.SaysX (faOf lk) (lk.fns.map dOf) [] [] (exOf lk tab) w h K) l.row.toRowW d [] (fun f vs => PySem.call f vs) := by
  have hls : n ≤ sizeLine := Nat.le_trans hn2 line_le
  refine Att.attach_call hn hdf fun w s₀ s₁ mg mb fa o pm cd doc a vs ns G Y ho hd hcd hmg hobj hints hlen hg => ?_
  obtain ⟨K, KX, c⟩ := Y
  have hm := List.mem_of_getElem? hft
  have F0 := fun base => said (P := l.prog) (w := w) base KX G.T.g c ok bnd hb
  obtain ⟨fd, F⟩ := c.t.d.defs (d := dOf ft) (List.mem_map_of_mem hm)
  have hB : ∀ (s : Shared) (u : Value), BindsTo s fd ⟨[u], []⟩ [(x, u)] := fun s u => by
    have := F.bindsA (ps := ft.ps) (fun kV doc pm an cdv ct us hl => bnd ft hm _ _ _ _ _ _ _ _ _ _ us hl) s [u] (by rw [hps]; rfl)
    rw [hps] at this
    exact this
  refine law_call (CX := L2.CX l.prog w) (k := k) (x := x) (sp := spF K (cvOf lk K) (run lk.pg (subT tab) k) fL 1) KX G.T.g G.T.b G.T.builtins G.T.nolimit hg hobj hints (Nat.le_trans hlen hls) hr (fd := fd) (fun base hk hG => ?_) hB (fun H hO hS => law_sp hn2 law H a ns hlen hS) fun H e s' h => noCX h
  obtain ⟨fa', fd', F', G1, G2, G3, G4⟩ := fn_all (F0 base) k fL ft hft
  rw [hnm] at hmg
  have e1 := hmg.symm.trans G2
  have e1 : fa = fa' := Value.ref.inj (Option.some.inj e1)
  subst e1
  rw [hps] at G1
  have e3 := He.glo_ok KX G.T.g (c.t.d.facts (f := .glo ft.nm) (by
    unfold faOf
    exact List.mem_append_left _ (List.mem_map.mpr ⟨ft, hm, rfl⟩)))
  have e2 : fa = He.ga K ft.nm := Value.ref.inj (Option.some.inj (hmg.symm.trans e3))
  have e4 : fd = fd' := funD_one (show FunD K ft.nm ft.nm (defArgs ft.st) (defBody ft.st) (defScope ft.st) [] [] (He.ga K ft.nm) fd from F) (e2 ▸ F')
  rw [e4]
  exact G1
end MP

end
section
set_option Elab.async false
set_option maxRecDepth 100000
set_option linter.all false
set_option maxHeartbeats 4000000
/-! The interpreter's equations, for simp. -/
namespace MP
variable {α β : Type} {call : Nat → List D → Hh → R D} {sub : Nat → Nat → Option Bool} {ρ : En} {h : Hh}
@[simp] theorem bind_ok {a : α} {f : α → Hh → R β} : (R.ok a h).bind f = f a h := (rfl)
@[simp] theorem bind_exc {c : Nat} {f : α → Hh → R β} : (R.exc c h : R α).bind f = .exc c h := (rfl)
@[simp] theorem bind_stk {f : α → Hh → R β} : (R.stk : R α).bind f = .stk := (rfl)
@[simp] theorem bind_ite {c : Prop} [Decidable c] {a b : R α} {f : α → Hh → R β} : (if c then a else b).bind f = if c then a.bind f else b.bind f := by split <;> rfl
def tstR (x : D) (a b : R α) : R α := match truth x with
  | some true => a
  | some false => b
  | none => .stk
@[simp] theorem tstR_bl {b : Bool} {x y : R α} : tstR (.p (.bl b)) x y = if b = true then x else y := by cases b <;> rfl
def tstX (x : D) (a b : X) : X := match truth x with
  | some true => a
  | some false => b
  | none => .stk
@[simp] theorem tstX_bl {b : Bool} {x y : X} : tstX (.p (.bl b)) x y = if b = true then x else y := by cases b <;> rfl
@[simp] theorem ofR_ok {d : D} {f : D → Hh → X} : ofR ρ (.ok d h) f = f d h := (rfl)
@[simp] theorem ofR_exc {c : Nat} {f : D → Hh → X} : ofR ρ (.exc c h) f = .exc c ρ h := (rfl)
@[simp] theorem ofR_stk {f : D → Hh → X} : ofR ρ .stk f = .stk := (rfl)
@[simp] theorem ofR_ite {c : Prop} [Decidable c] {a b : R D} {f : D → Hh → X} : ofR ρ (if c then a else b) f = if c then ofR ρ a f else ofR ρ b f := by split <;> rfl
@[simp] theorem ev_var {i : Nat} : ev call (.var i) ρ h = match ρ[i]? with
    | some (some d) => .ok d h
    | _ => .stk := by simp only [ev] <;> rfl
@[simp] theorem ev_cint {i : Int} : ev call (.cint i) ρ h = .ok (.p (.int i)) h := by simp only [ev] <;> rfl
@[simp] theorem ev_cbl {i : Bool} : ev call (.cbl i) ρ h = .ok (.p (.bl i)) h := by simp only [ev] <;> rfl
@[simp] theorem ev_cnon : ev call .cnon ρ h = .ok (.p .non) h := by simp only [ev] <;> rfl
@[simp] theorem ev_cstr {s : PySem.Str} : ev call (.cstr s) ρ h = .ok (.p (.str s)) h := by simp only [ev] <;> rfl
@[simp] theorem ev_edc : ev call .edc ρ h = .ok (.p .edc) h := by simp only [ev] <;> rfl
@[simp] theorem ev_bin {o : Op} {a b : Code} : ev call (.bin o a b) ρ h = (ev call a ρ h).bind fun x h1 => (ev call b ρ h1).bind fun y h2 => binD o x y h2 := by simp only [ev] <;> rfl
@[simp] theorem ev_neg {a : Code} : ev call (.neg a) ρ h = (ev call a ρ h).bind fun x h1 => negD x h1 := by simp only [ev] <;> rfl
@[simp] theorem ev_cmp {o : Cm} {a b : Code} : ev call (.cmp o a b) ρ h = (ev call a ρ h).bind fun x h1 => (ev call b ρ h1).bind fun y h2 => cmpD o x y h2 := by simp only [ev] <;> rfl
@[simp] theorem ev_and {a b : Code} : ev call (.andC a b) ρ h = (ev call a ρ h).bind fun x h1 => tstR x (ev call b ρ h1) (.ok (.p (.bl false)) h1) := by
  simp only [ev, tstR] <;> rfl
@[simp] theorem ev_or {a b : Code} : ev call (.orC a b) ρ h = (ev call a ρ h).bind fun x h1 => tstR x (.ok (.p (.bl true)) h1) (ev call b ρ h1) := by
  simp only [ev, tstR] <;> rfl
@[simp] theorem ev_not {a : Code} : ev call (.notC a) ρ h = (ev call a ρ h).bind fun x h1 => match truth x with
    | some b => .ok (.p (.bl (!b))) h1
    | none => .stk := by simp only [ev] <;> rfl
@[simp] theorem ev_ite {c a b : Code} : ev call (.ite c a b) ρ h = (ev call c ρ h).bind fun x h1 => tstR x (ev call a ρ h1) (ev call b ρ h1) := by
  simp only [ev, tstR] <;> rfl
@[simp] theorem ev_tup {as : Codes} : ev call (.tup as) ρ h = (evs call as ρ h).bind fun ds h1 => if ds.length ≤ line then okP ((allP ds).map P.tup) h1 else .stk := by simp only [ev] <;> rfl
@[simp] theorem ev_lst {c : Bool} {as : Codes} : ev call (.lst c as) ρ h = (evs call as ρ h).bind fun ds h1 => if ds.length ≤ line then mkL c ds h1 else .stk := by simp only [ev] <;> rfl
@[simp] theorem ev_rep {c : Bool} {as : Codes} {b : Code} : ev call (.rep c as b) ρ h = (evs call as ρ h).bind fun ds h1 => if ds.length ≤ line then (ev call b ρ h1).bind fun y h2 => repD c ds y h2 else .stk := by simp only [ev] <;> rfl
@[simp] theorem ev_ix {a i : Code} : ev call (.ix a i) ρ h = (ev call a ρ h).bind fun x h1 => (ev call i ρ h1).bind fun y h2 => ixD x y h2 := by simp only [ev] <;> rfl
@[simp] theorem ev_sl {a : Code} {lo hi : Codes} : ev call (.sl a lo hi) ρ h = (ev call a ρ h).bind fun x h1 => (evs call lo ρ h1).bind fun l h2 => match optI l with
    | none => .stk
    | some l => (evs call hi ρ h2).bind fun u h3 => match optI u with
      | none => .stk
      | some u => slD x l u h3 := by simp only [ev] <;> rfl
@[simp] theorem ev_rev {a : Code} : ev call (.rev a) ρ h = (ev call a ρ h).bind fun x h1 => revD x h1 := by simp only [ev] <;> rfl
@[simp] theorem ev_call {f : Nat} {as : Codes} : ev call (.call f as) ρ h = (evs call as ρ h).bind fun ds h1 => call f ds h1 := by simp only [ev] <;> rfl
@[simp] theorem ev_isi {a : Code} {ks : List Kd} : ev call (.isi a ks) ρ h = (ev call a ρ h).bind fun x h1 => .ok (.p (.bl (isiD x ks))) h1 := by simp only [ev] <;> rfl
@[simp] theorem ev_bi {b : Bi} {as : Codes} : ev call (.bi b as) ρ h = (evs call as ρ h).bind fun ds h1 => biD b ds h1 := by simp only [ev] <;> rfl
@[simp] theorem ev_listOf {c : Bool} {a : Code} : ev call (.listOf c a) ρ h = (ev call a ρ h).bind fun x h1 => listD c x h1 := by simp only [ev] <;> rfl
@[simp] theorem ev_listRg {c : Bool} {a : Code} : ev call (.listRg c a) ρ h = (ev call a ρ h).bind fun x h1 => listRgD c x h1 := by simp only [ev] <;> rfl
/-- a comprehension of plain items -/
def compV (call : Nat → List D → Hh → R D) (ρ : En) (c : Bool) (w : Wk) (tg : Tg) (cond : Codes) (elt : Code) (ds : List D) (h1 : Hh) : R D := match itemsOf w ds with
  | some xs => (match compL (item call ρ tg cond elt) xs h1 with
    | .ok r h2 => mkL c r h2
    | _ => .stk)
  | none => match cellOf w ds with
    | none => .stk
    | some n => match compR (item call ρ tg cond elt) w n turns 0 h1 with
      | .ok r h2 => mkL c r h2
      | _ => .stk
@[simp] theorem ev_comp {c : Bool} {w : Wk} {as : Codes} {tg : Tg} {cond : Codes} {elt : Code} : ev call (.comp c w as tg cond elt) ρ h = (evs call as ρ h).bind fun ds h1 => compV call ρ c w tg cond elt ds h1 := by
  simp only [ev]
  congr
  funext ds h1
  unfold compV
  cases itemsOf w ds with
  | none =>
    simp only
    cases cellOf w ds with
    | none => rfl
    | some n => rfl
  | some xs => rfl
@[simp] theorem evs_nil : evs call .nil ρ h = .ok [] h := by simp only [evs]
@[simp] theorem evs_cons {a : Code} {as : Codes} : evs call (.cons a as) ρ h = (ev call a ρ h).bind fun x h1 => (evs call as ρ h1).bind fun xs h2 => .ok (x :: xs) h2 := by simp only [evs]
@[simp] theorem exs_nil : exs call sub .nil ρ h = .nx ρ h := by simp only [exs]
/-- what follows -/
def thenX (x : X) (f : En → Hh → X) : X := match x with
  | .nx ρ h => f ρ h
  | r => r
@[simp] theorem thenX_nx {f : En → Hh → X} : thenX (.nx ρ h) f = f ρ h := (rfl)
@[simp] theorem thenX_ret {d : D} {f : En → Hh → X} : thenX (.ret d h) f = .ret d h := (rfl)
@[simp] theorem thenX_exc {c : Nat} {f : En → Hh → X} : thenX (.exc c ρ h) f = .exc c ρ h := (rfl)
@[simp] theorem thenX_ite {c : Prop} [Decidable c] {a b : X} {f : En → Hh → X} : thenX (if c then a else b) f = if c then thenX a f else thenX b f := by split <;> rfl
@[simp] theorem exs_cons {a : Stm} {as : Stms} : exs call sub (.cons a as) ρ h = thenX (ex call sub a ρ h) (exs call sub as) := by simp only [exs, thenX] <;> rfl
@[simp] theorem ex_set {i : Nat} {e : Code} : ex call sub (.set i e) ρ h = ofR ρ (ev call e ρ h) fun d h1 => .nx (ρ.set i (some d)) h1 := by simp only [ex] <;> rfl
@[simp] theorem ex_unp {t : Tg} {e : Code} : ex call sub (.unp t e) ρ h = ofR ρ (ev call e ρ h) fun d h1 => match d with
    | .p x => match asg t x ρ with
      | some ρ1 => .nx ρ1 h1
      | none => .stk
    | _ => .stk := by simp only [ex] <;> rfl
@[simp] theorem ex_put {a i e : Code} : ex call sub (.put a i e) ρ h = ofR ρ (ev call e ρ h) fun d h1 => ofR ρ (ev call a ρ h1) fun x h2 => ofR ρ (ev call i ρ h2) fun y h3 => match x, y with
    | .ref n, .p (.int k) => match h3[n]? with
      | some ds => if decide (0 ≤ k) && decide (k < ds.length) then .nx ρ (h3.set n (ds.set k.toNat d)) else .stk
      | none => .stk
    | _, _ => .stk := by simp only [ex] <;> rfl
@[simp] theorem ex_app {a e : Code} : ex call sub (.app a e) ρ h = ofR ρ (ev call a ρ h) fun x h1 => match x with
    | .ref n => ofR ρ (ev call e ρ h1) fun d h2 => match h2[n]? with
      | some ds => if ds.length < line then .nx ρ (h2.set n (ds ++ [d])) else .stk
      | none => .stk
    | _ => .stk := by simp only [ex] <;> rfl
@[simp] theorem ex_iff {c : Code} {t e : Stms} : ex call sub (.iff c t e) ρ h = ofR ρ (ev call c ρ h) fun x h1 => tstX x (exs call sub t ρ h1) (exs call sub e ρ h1) := by
  simp only [ex, tstX] <;> rfl
@[simp] theorem ex_ret {e : Code} : ex call sub (.ret e) ρ h = ofR ρ (ev call e ρ h) fun d h1 => .ret d h1 := by simp only [ex] <;> rfl
@[simp] theorem ex_raise {c : Nat} : ex call sub (.raise c) ρ h = .exc c ρ h := by simp only [ex] <;> rfl
@[simp] theorem ex_expr {e : Code} : ex call sub (.expr e) ρ h = ofR ρ (ev call e ρ h) fun _ h1 => .nx ρ h1 := by simp only [ex] <;> rfl
/-- the end of a def that is run apart -/
def fin (h : Hh) : X → R D
  | .ret d h1 => okP (deref 4 h1 d) h
  | .nx _ _ => .ok (.p .non) h
  | .exc c _ _ => .exc c h
  | _ => .stk
@[simp] theorem fin_ret {x : P} {h1 : Hh} : fin h (.ret (.p x) h1) = .ok (.p x) h := (rfl)
@[simp] theorem fin_nx {h1 : Hh} : fin h (.nx ρ h1) = .ok (.p .non) h := (rfl)
@[simp] theorem fin_exc {c : Nat} {h1 : Hh} : fin h (.exc c ρ h1) = .exc c h := (rfl)
@[simp] theorem fin_ite {c : Prop} [Decidable c] {a b : X} : fin h (if c then a else b) = if c then fin h a else fin h b := by split <;> rfl
@[simp] theorem okP_some {x : P} : okP (some x) h = .ok (.p x) h := (rfl)
@[simp] theorem truth_bl {b : Bool} : truth (.p (.bl b)) = some b := (rfl)
theorem run_gc {pg : List Fn} {sub : Nat → Nat → Option Bool} {k f : Nat} {fn : Fn} {xs : List P} {h : Hh} (hf : pg[f]? = some fn) (hg : fn.gc = true) (hn : xs.length = fn.np) :
    MP.run pg sub (k + 1) f (xs.map D.p) h = fin h (exs (MP.run pg sub k) sub fn.body (MP.start fn.ns (xs.map D.p)) []) := by
  simp only [MP.run, hf]
  rw [if_pos (by simpa using hn), if_pos hg, allP_map]
  simp only [fin]
  all_goals (split <;> simp_all)
/-- the end of a def that is run in its caller's heap -/
def fin0 : X → R D
  | .ret d h1 => .ok d h1
  | .nx _ h1 => .ok (.p .non) h1
  | .exc c _ h1 => .exc c h1
  | _ => .stk
@[simp] theorem fin0_ret {d : D} {h1 : Hh} : fin0 (.ret d h1) = .ok d h1 := (rfl)
@[simp] theorem fin0_nx {h1 : Hh} : fin0 (.nx ρ h1) = .ok (.p .non) h1 := (rfl)
@[simp] theorem fin0_ite {c : Prop} [Decidable c] {a b : X} : fin0 (if c then a else b) = if c then fin0 a else fin0 b := by split <;> rfl
theorem run_in {pg : List Fn} {sub : Nat → Nat → Option Bool} {k f : Nat} {fn : Fn} {ds : List D} {h : Hh} (hf : pg[f]? = some fn) (hg : fn.gc = false) (hn : ds.length = fn.np) :
    MP.run pg sub (k + 1) f ds h = fin0 (exs (MP.run pg sub k) sub fn.body (MP.start fn.ns ds) h) := by
  simp only [MP.run, hf]
  rw [if_pos hn, hg]
  simp only [Bool.false_eq_true, if_false, fin0]
  all_goals (split <;> simp_all)
theorem ex_for_items {w : Wk} {as : Codes} {tg : Tg} {body : Stms} {ds : List D} {h1 : Hh} {xs : List P} (he : evs call as ρ h = .ok ds h1) (hx : itemsOf w ds = some xs) : ex call sub (.forS w as tg body) ρ h = forL (exs call sub body) tg xs ρ h1 := by
  simp only [ex, he, hx]
/-! comprehensions whose items leave the heap as it is -/
theorem compL_filterMap {f : P → Hh → R (Option D)} {g : P → Option D} {h : Hh} : ∀ {xs : List P}, (∀ x ∈ xs, f x h = .ok (g x) h) → compL f xs h = .ok (xs.filterMap g) h
  | [], _ => rfl
  | x :: xs, hf => by
    simp only [compL, hf x List.mem_cons_self, compL_filterMap fun y hy => hf y (List.mem_cons_of_mem x hy), List.filterMap_cons]
    cases g x <;> rfl
theorem compL_map {f : P → Hh → R (Option D)} {g : P → P} {h : Hh} {xs : List P} (hf : ∀ x ∈ xs, f x h = .ok (some (.p (g x))) h) : compL f xs h = .ok ((xs.map g).map D.p) h := by
  rw [compL_filterMap (g := fun x => some (.p (g x))) hf]
  congr 1
  induction xs with
  | nil => rfl
  | cons x xs ih => simp [ih fun y hy => hf y (List.mem_cons_of_mem x hy)]
theorem compV_map {c : Bool} {w : Wk} {tg : Tg} {cond : Codes} {elt : Code} {ds : List D} {xs : List P} {g : P → P} (hx : itemsOf w ds = some xs) (hf : ∀ x ∈ xs, item call ρ tg cond elt x h = .ok (some (.p (g x))) h) :
    compV call ρ c w tg cond elt ds h = mkL c ((xs.map g).map D.p) h := by
  unfold compV
  rw [hx]
  simp only [compL_map hf]
theorem compV_filterMap {c : Bool} {w : Wk} {tg : Tg} {cond : Codes} {elt : Code} {ds : List D} {xs : List P} {g : P → Option D} (hx : itemsOf w ds = some xs) (hf : ∀ x ∈ xs, item call ρ tg cond elt x h = .ok (g x) h) :
    compV call ρ c w tg cond elt ds h = mkL c (xs.filterMap g) h := by
  unfold compV
  rw [hx]
  simp only [compL_filterMap hf]
@[simp] theorem mkL_false {xs : List P} : mkL false (xs.map D.p) h = .ok (.p (.lst xs)) h := by simp [mkL, allP_map]
@[simp] theorem b1_all {xs : List P} {g : P → Bool} : bi1 .all (.p (.lst (xs.map fun x => .bl (g x)))) h = .ok (.p (.bl (xs.all g))) h := by
  have : boolsP (xs.map fun x => P.bl (g x)) = some (xs.map g) := by
    induction xs with
    | nil => rfl
    | cons x xs ih => simp only [List.map_cons, boolsP, ih]
  simp [bi1, this, okP, List.all_map, Function.comp_def]
@[simp] theorem b1_any {xs : List P} {g : P → Bool} : bi1 .any (.p (.lst (xs.map fun x => .bl (g x)))) h = .ok (.p (.bl (xs.any g))) h := by
  have : boolsP (xs.map fun x => P.bl (g x)) = some (xs.map g) := by
    induction xs with
    | nil => rfl
    | cons x xs ih => simp only [List.map_cons, boolsP, ih]
  simp [bi1, this, okP, List.any_map, Function.comp_def]
@[simp] theorem b1_sum {xs : List P} {g : P → Int} : bi1 .sum (.p (.lst (xs.map fun x => .int (g x)))) h = .ok (.p (.int (xs.map g).sum)) h := by
  have : intsP (xs.map fun x => P.int (g x)) = some (xs.map g) := by
    induction xs with
    | nil => rfl
    | cons x xs ih => simp only [List.map_cons, intsP, ih]
  simp [bi1, this, okP]
end MP

end
section
set_option Elab.async false
set_option maxRecDepth 100000
set_option linter.all false
set_option maxHeartbeats 4000000
/-! k00: the table. -/
namespace K00
open PySem PySem.Spec PyProof.Rows MP L2
def top (i : Nat) : Stmt := PySem.Challenge.pw_boardneverlies_k00_differences_and_chain.main.body.getD i (.Pass ⟨0, 0, 0, 0⟩)
/-- is_integer(value); slots value -/
def b_is_integer : Stms :=
  (.cons (.ret (.andC (.isi (.var 0) [.int]) (.notC (.isi (.var 0) [.bool])))) .nil)
def f_is_integer : FT := ⟨"is_integer", ["value"], ["value"], top 7, ⟨1, 1, true, b_is_integer⟩⟩
theorem bnd_is_integer : BindOk (defArgs f_is_integer.st) f_is_integer.ps := fun x qual body scope kV doc pm an cdv ct us hl => match us, hl with | [_], _ => rfl
/-- is_natural(value); slots value -/
def b_is_natural : Stms :=
  (.cons (.ret (.andC (.call 0 (.cons (.var 0) .nil)) (.cmp .ge (.var 0) (.cint 0)))) .nil)
def f_is_natural : FT := ⟨"is_natural", ["value"], ["value"], top 8, ⟨1, 1, true, b_is_natural⟩⟩
theorem bnd_is_natural : BindOk (defArgs f_is_natural.st) f_is_natural.ps := fun x qual body scope kV doc pm an cdv ct us hl => match us, hl with | [_], _ => rfl
/-- is_row(value, size); slots value, size -/
def b_is_row : Stms :=
  (.cons (.ret (.andC (.isi (.var 0) [.tuple]) (.cmp .eq (.bi .len (.cons (.var 0) .nil)) (.var 1)))) .nil)
def f_is_row : FT := ⟨"is_row", ["value", "size"], ["value", "size"], top 9, ⟨2, 2, true, b_is_row⟩⟩
theorem bnd_is_row : BindOk (defArgs f_is_row.st) f_is_row.ps := fun x qual body scope kV doc pm an cdv ct us hl => match us, hl with | [_, _], _ => rfl
/-- ring_at(n, rows, via, start); slots n, rows, via, start, place, turn, ring, at -/
def b_ring_at : Stms :=
  (.cons (.set 4 (.var 3))
  (.cons (.forS .range (.cons (.bin .add (.var 0) (.cint 1)) .nil) (.nm 5)
    (.cons (.set 4 (.ix (.ix (.var 1) (.ix (.var 2) (.var 4))) (.cint 1))) .nil))
  (.cons (.set 6 (.lst true (.cons (.ix (.var 2) (.var 4)) .nil)))
  (.cons (.set 7 (.ix (.ix (.var 1) (.ix (.var 2) (.var 4))) (.cint 1)))
  (.cons (.whl (.cmp .ne (.var 7) (.var 4))
    (.cons (.app (.var 6) (.ix (.var 2) (.var 7)))
    (.cons (.set 7 (.ix (.ix (.var 1) (.ix (.var 2) (.var 7))) (.cint 1))) .nil)))
  (.cons (.ret (.bi .tuple (.cons (.var 6) .nil))) .nil))))))
def f_ring_at : FT := ⟨"ring_at", ["n", "rows", "via", "start"], ["n", "rows", "via", "start", "place", "turn", "ring", "at"], top 11, ⟨4, 8, false, b_ring_at⟩⟩
theorem bnd_ring_at : BindOk (defArgs f_ring_at.st) f_ring_at.ps := fun x qual body scope kV doc pm an cdv ct us hl => match us, hl with | [_, _, _, _], _ => rfl
/-- settle(n, rows); slots n, rows, least, via, changed, turn, index, x, y, c, one -/
def b_settle : Stms :=
  (.cons (.set 2 (.rep true (.cons (.cint 0) .nil) (.bin .add (.var 0) (.cint 1))))
  (.cons (.set 3 (.rep true (.cons (.cnon) .nil) (.bin .add (.var 0) (.cint 1))))
  (.cons (.set 4 (.cnon))
  (.cons (.forS .range (.cons (.bin .add (.var 0) (.cint 1)) .nil) (.nm 5)
    (.cons (.set 4 (.cnon))
    (.cons (.forS .enum (.cons (.var 1) .nil) (.tp [.nm 6, .tp [.nm 7, .nm 8, .nm 9]])
      (.cons (.iff (.cmp .lt (.bin .add (.ix (.var 2) (.var 8)) (.var 9)) (.ix (.var 2) (.var 7))) (.cons (.put (.var 2) (.var 7) (.bin .add (.ix (.var 2) (.var 8)) (.var 9)))
        (.cons (.put (.var 3) (.var 7) (.var 6))
        (.cons (.set 4 (.var 7)) .nil))) .nil) .nil))
    (.cons (.iff (.cmp .is (.var 4) (.cnon)) (.cons (.ret (.tup (.cons (.cstr "world") (.cons (.bi .tuple (.cons (.comp false .seq (.cons (.var 2) .nil) (.nm 10) .nil (.bin .sub (.var 10) (.ix (.var 2) (.cint 0)))) .nil)) .nil)))) .nil) .nil) .nil))))
  (.cons (.ret (.tup (.cons (.cstr "ring") (.cons (.call 3 (.cons (.var 0) (.cons (.var 1) (.cons (.var 3) (.cons (.var 4) .nil))))) .nil)))) .nil)))))
def f_settle : FT := ⟨"settle", ["n", "rows"], ["n", "rows", "least", "via", "changed", "turn", "index", "x", "y", "c", "one"], top 12, ⟨2, 11, true, b_settle⟩⟩
theorem bnd_settle : BindOk (defArgs f_settle.st) f_settle.ps := fun x qual body scope kV doc pm an cdv ct us hl => match us, hl with | [_, _], _ => rfl
/-- has_world(n, rows); slots n, rows -/
def b_has_world : Stms :=
  (.cons (.ret (.cmp .eq (.ix (.call 4 (.cons (.var 0) (.cons (.var 1) .nil))) (.cint 0)) (.cstr "world"))) .nil)
def f_has_world : FT := ⟨"has_world", ["n", "rows"], ["n", "rows"], top 13, ⟨2, 2, true, b_has_world⟩⟩
theorem bnd_has_world : BindOk (defArgs f_has_world.st) f_has_world.ps := fun x qual body scope kV doc pm an cdv ct us hl => match us, hl with | [_, _], _ => rfl
/-- holds_all(rows, minutes); slots rows, minutes, x, y, c -/
def b_holds_all : Stms :=
  (.cons (.ret (.bi .all (.cons (.comp false .seq (.cons (.var 0) .nil) (.tp [.nm 2, .nm 3, .nm 4]) .nil (.cmp .le (.bin .sub (.ix (.var 1) (.var 2)) (.ix (.var 1) (.var 3))) (.var 4))) .nil))) .nil)
def f_holds_all : FT := ⟨"holds_all", ["rows", "minutes"], ["rows", "minutes", "x", "y", "c"], top 14, ⟨2, 5, true, b_holds_all⟩⟩
theorem bnd_holds_all : BindOk (defArgs f_holds_all.st) f_holds_all.ps := fun x qual body scope kV doc pm an cdv ct us hl => match us, hl with | [_, _], _ => rfl
/-- turned_row(row); slots row -/
def b_turned_row : Stms :=
  (.cons (.ret (.tup (.cons (.ix (.var 0) (.cint 1)) (.cons (.ix (.var 0) (.cint 0)) (.cons (.bin .sub (.neg (.ix (.var 0) (.cint 2))) (.cint 1)) .nil))))) .nil)
def f_turned_row : FT := ⟨"turned_row", ["row"], ["row"], top 15, ⟨1, 1, true, b_turned_row⟩⟩
theorem bnd_turned_row : BindOk (defArgs f_turned_row.st) f_turned_row.ps := fun x qual body scope kV doc pm an cdv ct us hl => match us, hl with | [_], _ => rfl
/-- is_chain_of(rows, value); slots rows, value, k, index -/
def b_is_chain_of : Stms :=
  (.cons (.iff (.orC (.notC (.isi (.var 1) [.tuple])) (.cmp .eq (.var 1) (.tup .nil))) (.cons (.ret (.cbl false)) .nil) .nil)
  (.cons (.iff (.notC (.bi .all (.cons (.comp false .seq (.cons (.var 1) .nil) (.nm 3) .nil (.andC (.call 1 (.cons (.var 3) .nil)) (.cmp .lt (.var 3) (.bi .len (.cons (.var 0) .nil))))) .nil))) (.cons (.ret (.cbl false)) .nil) .nil)
  (.cons (.ret (.bi .all (.cons (.comp false .range (.cons (.bin .sub (.bi .len (.cons (.var 1) .nil)) (.cint 1)) .nil) (.nm 2) .nil (.cmp .eq (.ix (.ix (.var 0) (.ix (.var 1) (.var 2))) (.cint 1)) (.ix (.ix (.var 0) (.ix (.var 1) (.bin .add (.var 2) (.cint 1)))) (.cint 0)))) .nil))) .nil)))
def f_is_chain_of : FT := ⟨"is_chain_of", ["rows", "value"], ["rows", "value", "k", "index"], top 16, ⟨2, 4, true, b_is_chain_of⟩⟩
theorem bnd_is_chain_of : BindOk (defArgs f_is_chain_of.st) f_is_chain_of.ps := fun x qual body scope kV doc pm an cdv ct us hl => match us, hl with | [_, _], _ => rfl
/-- chain_total(rows, chain); slots rows, chain, index -/
def b_chain_total : Stms :=
  (.cons (.ret (.bi .sum (.cons (.comp false .seq (.cons (.var 1) .nil) (.nm 2) .nil (.ix (.ix (.var 0) (.var 2)) (.cint 2))) .nil))) .nil)
def f_chain_total : FT := ⟨"chain_total", ["rows", "chain"], ["rows", "chain", "index"], top 17, ⟨2, 3, true, b_chain_total⟩⟩
theorem bnd_chain_total : BindOk (defArgs f_chain_total.st) f_chain_total.ps := fun x qual body scope kV doc pm an cdv ct us hl => match us, hl with | [_, _], _ => rfl
/-- is_bad(rows, value); slots rows, value -/
def b_is_bad : Stms :=
  (.cons (.iff (.orC (.notC (.call 8 (.cons (.var 0) (.cons (.var 1) .nil)))) (.cmp .ne (.ix (.ix (.var 0) (.ix (.var 1) (.neg (.cint 1)))) (.cint 1)) (.ix (.ix (.var 0) (.ix (.var 1) (.cint 0))) (.cint 0)))) (.cons (.ret (.cbl false)) .nil) .nil)
  (.cons (.ret (.cmp .lt (.call 9 (.cons (.var 0) (.cons (.var 1) .nil))) (.cint 0))) .nil))
def f_is_bad : FT := ⟨"is_bad", ["rows", "value"], ["rows", "value"], top 18, ⟨2, 2, true, b_is_bad⟩⟩
theorem bnd_is_bad : BindOk (defArgs f_is_bad.st) f_is_bad.ps := fun x qual body scope kV doc pm an cdv ct us hl => match us, hl with | [_, _], _ => rfl
/-- fits_minutes(n, value); slots n, value, minute -/
def b_fits_minutes : Stms :=
  (.cons (.ret (.andC (.call 2 (.cons (.var 1) (.cons (.bin .add (.var 0) (.cint 1)) .nil))) (.andC (.bi .all (.cons (.comp false .seq (.cons (.var 1) .nil) (.nm 2) .nil (.call 0 (.cons (.var 2) .nil))) .nil)) (.cmp .eq (.ix (.var 1) (.cint 0)) (.cint 0))))) .nil)
def f_fits_minutes : FT := ⟨"fits_minutes", ["n", "value"], ["n", "value", "minute"], top 20, ⟨2, 3, true, b_fits_minutes⟩⟩
theorem bnd_fits_minutes : BindOk (defArgs f_fits_minutes.st) f_fits_minutes.ps := fun x qual body scope kV doc pm an cdv ct us hl => match us, hl with | [_, _], _ => rfl
/-- fits_difference(value); slots value -/
def b_fits_difference : Stms :=
  (.cons (.iff (.orC (.notC (.call 2 (.cons (.var 0) (.cons (.cint 3) .nil)))) (.orC (.notC (.call 1 (.cons (.ix (.var 0) (.cint 0)) .nil))) (.notC (.call 1 (.cons (.ix (.var 0) (.cint 1)) .nil))))) (.cons (.ret (.cbl false)) .nil) .nil)
  (.cons (.ret (.andC (.call 0 (.cons (.ix (.var 0) (.cint 2)) .nil)) (.cmp .ne (.ix (.var 0) (.cint 0)) (.ix (.var 0) (.cint 1))))) .nil))
def f_fits_difference : FT := ⟨"fits_difference", ["value"], ["value"], top 22, ⟨1, 1, true, b_fits_difference⟩⟩
theorem bnd_fits_difference : BindOk (defArgs f_fits_difference.st) f_fits_difference.ps := fun x qual body scope kV doc pm an cdv ct us hl => match us, hl with | [_], _ => rfl
/-- fits_difference_of(n, value); slots n, value -/
def b_fits_difference_of : Stms :=
  (.cons (.ret (.andC (.call 12 (.cons (.var 1) .nil)) (.andC (.cmp .le (.ix (.var 1) (.cint 0)) (.var 0)) (.cmp .le (.ix (.var 1) (.cint 1)) (.var 0))))) .nil)
def f_fits_difference_of : FT := ⟨"fits_difference_of", ["n", "value"], ["n", "value"], top 23, ⟨2, 2, true, b_fits_difference_of⟩⟩
theorem bnd_fits_difference_of : BindOk (defArgs f_fits_difference_of.st) f_fits_difference_of.ps := fun x qual body scope kV doc pm an cdv ct us hl => match us, hl with | [_, _], _ => rfl
/-- fits_system(value); slots value, row -/
def b_fits_system : Stms :=
  (.cons (.iff (.orC (.notC (.call 2 (.cons (.var 0) (.cons (.cint 2) .nil)))) (.orC (.notC (.call 1 (.cons (.ix (.var 0) (.cint 0)) .nil))) (.notC (.isi (.ix (.var 0) (.cint 1)) [.tuple])))) (.cons (.ret (.cbl false)) .nil) .nil)
  (.cons (.ret (.bi .all (.cons (.comp false .seq (.cons (.ix (.var 0) (.cint 1)) .nil) (.nm 1) .nil (.call 13 (.cons (.ix (.var 0) (.cint 0)) (.cons (.var 1) .nil)))) .nil))) .nil))
def f_fits_system : FT := ⟨"fits_system", ["value"], ["value", "row"], top 24, ⟨1, 2, true, b_fits_system⟩⟩
theorem bnd_fits_system : BindOk (defArgs f_fits_system.st) f_fits_system.ps := fun x qual body scope kV doc pm an cdv ct us hl => match us, hl with | [_], _ => rfl
/-- check_system(system); slots system -/
def b_check_system : Stms :=
  (.cons (.iff (.notC (.call 14 (.cons (.var 0) .nil))) (.cons (.raise 1) .nil) .nil) .nil)
def f_check_system : FT := ⟨"check_system", ["system"], ["system"], top 25, ⟨1, 1, true, b_check_system⟩⟩
theorem bnd_check_system : BindOk (defArgs f_check_system.st) f_check_system.ps := fun x qual body scope kV doc pm an cdv ct us hl => match us, hl with | [_], _ => rfl
/-- check_more(n, more); slots n, more, row -/
def b_check_more : Stms :=
  (.cons (.iff (.orC (.notC (.isi (.var 1) [.tuple])) (.notC (.bi .all (.cons (.comp false .seq (.cons (.var 1) .nil) (.nm 2) .nil (.call 13 (.cons (.var 0) (.cons (.var 2) .nil)))) .nil)))) (.cons (.raise 2) .nil) .nil) .nil)
def f_check_more : FT := ⟨"check_more", ["n", "more"], ["n", "more", "row"], top 26, ⟨2, 3, true, b_check_more⟩⟩
theorem bnd_check_more : BindOk (defArgs f_check_more.st) f_check_more.ps := fun x qual body scope kV doc pm an cdv ct us hl => match us, hl with | [_, _], _ => rfl
/-- check_chain(rows, chain); slots rows, chain -/
def b_check_chain : Stms :=
  (.cons (.iff (.notC (.call 8 (.cons (.var 0) (.cons (.var 1) .nil)))) (.cons (.raise 4) .nil) .nil) .nil)
def f_check_chain : FT := ⟨"check_chain", ["rows", "chain"], ["rows", "chain"], top 27, ⟨2, 2, true, b_check_chain⟩⟩
theorem bnd_check_chain : BindOk (defArgs f_check_chain.st) f_check_chain.ps := fun x qual body scope kV doc pm an cdv ct us hl => match us, hl with | [_, _], _ => rfl
/-- is_difference(value); slots value -/
def b_is_difference : Stms :=
  (.cons (.ret (.call 12 (.cons (.var 0) .nil))) .nil)
def f_is_difference : FT := ⟨"is_difference", ["value"], ["value"], top 29, ⟨1, 1, true, b_is_difference⟩⟩
theorem bnd_is_difference : BindOk (defArgs f_is_difference.st) f_is_difference.ps := fun x qual body scope kV doc pm an cdv ct us hl => match us, hl with | [_], _ => rfl
/-- is_system(value); slots value -/
def b_is_system : Stms :=
  (.cons (.ret (.call 14 (.cons (.var 0) .nil))) .nil)
def f_is_system : FT := ⟨"is_system", ["value"], ["value"], top 30, ⟨1, 1, true, b_is_system⟩⟩
theorem bnd_is_system : BindOk (defArgs f_is_system.st) f_is_system.ps := fun x qual body scope kV doc pm an cdv ct us hl => match us, hl with | [_], _ => rfl
/-- contrary(difference); slots difference -/
def b_contrary : Stms :=
  (.cons (.iff (.notC (.call 12 (.cons (.var 0) .nil))) (.cons (.raise 2) .nil) .nil)
  (.cons (.ret (.call 7 (.cons (.var 0) .nil))) .nil))
def f_contrary : FT := ⟨"contrary", ["difference"], ["difference"], top 31, ⟨1, 1, true, b_contrary⟩⟩
theorem bnd_contrary : BindOk (defArgs f_contrary.st) f_contrary.ps := fun x qual body scope kV doc pm an cdv ct us hl => match us, hl with | [_], _ => rfl
/-- joined(system, more); slots system, more -/
def b_joined : Stms :=
  (.cons (.expr (.call 15 (.cons (.var 0) .nil)))
  (.cons (.expr (.call 16 (.cons (.ix (.var 0) (.cint 0)) (.cons (.var 1) .nil))))
  (.cons (.ret (.tup (.cons (.ix (.var 0) (.cint 0)) (.cons (.bin .add (.ix (.var 0) (.cint 1)) (.var 1)) .nil)))) .nil)))
def f_joined : FT := ⟨"joined", ["system", "more"], ["system", "more"], top 32, ⟨2, 2, true, b_joined⟩⟩
theorem bnd_joined : BindOk (defArgs f_joined.st) f_joined.ps := fun x qual body scope kV doc pm an cdv ct us hl => match us, hl with | [_, _], _ => rfl
/-- is_world(system, value); slots system, value -/
def b_is_world : Stms :=
  (.cons (.expr (.call 15 (.cons (.var 0) .nil)))
  (.cons (.ret (.andC (.call 11 (.cons (.ix (.var 0) (.cint 0)) (.cons (.var 1) .nil))) (.call 6 (.cons (.ix (.var 0) (.cint 1)) (.cons (.var 1) .nil))))) .nil))
def f_is_world : FT := ⟨"is_world", ["system", "value"], ["system", "value"], top 33, ⟨2, 2, true, b_is_world⟩⟩
theorem bnd_is_world : BindOk (defArgs f_is_world.st) f_is_world.ps := fun x qual body scope kV doc pm an cdv ct us hl => match us, hl with | [_, _], _ => rfl
/-- failing(system, minutes); slots system, minutes, k, row -/
def b_failing : Stms :=
  (.cons (.expr (.call 15 (.cons (.var 0) .nil)))
  (.cons (.iff (.notC (.call 11 (.cons (.ix (.var 0) (.cint 0)) (.cons (.var 1) .nil)))) (.cons (.raise 3) .nil) .nil)
  (.cons (.ret (.bi .tuple (.cons (.comp false .enum (.cons (.ix (.var 0) (.cint 1)) .nil) (.tp [.nm 2, .nm 3]) (.cons (.notC (.call 6 (.cons (.tup (.cons (.var 3) .nil)) (.cons (.var 1) .nil)))) .nil) (.var 2)) .nil))) .nil)))
def f_failing : FT := ⟨"failing", ["system", "minutes"], ["system", "minutes", "k", "row"], top 34, ⟨2, 4, true, b_failing⟩⟩
theorem bnd_failing : BindOk (defArgs f_failing.st) f_failing.ps := fun x qual body scope kV doc pm an cdv ct us hl => match us, hl with | [_, _], _ => rfl
/-- is_chain(system, value); slots system, value -/
def b_is_chain : Stms :=
  (.cons (.expr (.call 15 (.cons (.var 0) .nil)))
  (.cons (.ret (.call 8 (.cons (.ix (.var 0) (.cint 1)) (.cons (.var 1) .nil)))) .nil))
def f_is_chain : FT := ⟨"is_chain", ["system", "value"], ["system", "value"], top 35, ⟨2, 2, true, b_is_chain⟩⟩
theorem bnd_is_chain : BindOk (defArgs f_is_chain.st) f_is_chain.ps := fun x qual body scope kV doc pm an cdv ct us hl => match us, hl with | [_, _], _ => rfl
/-- is_bad_ring(system, value); slots system, value -/
def b_is_bad_ring : Stms :=
  (.cons (.expr (.call 15 (.cons (.var 0) .nil)))
  (.cons (.ret (.call 10 (.cons (.ix (.var 0) (.cint 1)) (.cons (.var 1) .nil)))) .nil))
def f_is_bad_ring : FT := ⟨"is_bad_ring", ["system", "value"], ["system", "value"], top 36, ⟨2, 2, true, b_is_bad_ring⟩⟩
theorem bnd_is_bad_ring : BindOk (defArgs f_is_bad_ring.st) f_is_bad_ring.ps := fun x qual body scope kV doc pm an cdv ct us hl => match us, hl with | [_, _], _ => rfl
/-- chain_sum(system, chain); slots system, chain -/
def b_chain_sum : Stms :=
  (.cons (.expr (.call 15 (.cons (.var 0) .nil)))
  (.cons (.expr (.call 17 (.cons (.ix (.var 0) (.cint 1)) (.cons (.var 1) .nil))))
  (.cons (.ret (.call 9 (.cons (.ix (.var 0) (.cint 1)) (.cons (.var 1) .nil)))) .nil)))
def f_chain_sum : FT := ⟨"chain_sum", ["system", "chain"], ["system", "chain"], top 37, ⟨2, 2, true, b_chain_sum⟩⟩
theorem bnd_chain_sum : BindOk (defArgs f_chain_sum.st) f_chain_sum.ps := fun x qual body scope kV doc pm an cdv ct us hl => match us, hl with | [_, _], _ => rfl
/-- decide(system); slots system -/
def b_decide : Stms :=
  (.cons (.expr (.call 15 (.cons (.var 0) .nil)))
  (.cons (.ret (.call 4 (.cons (.ix (.var 0) (.cint 0)) (.cons (.ix (.var 0) (.cint 1)) .nil)))) .nil))
def f_decide : FT := ⟨"decide", ["system"], ["system"], top 38, ⟨1, 1, true, b_decide⟩⟩
theorem bnd_decide : BindOk (defArgs f_decide.st) f_decide.ps := fun x qual body scope kV doc pm an cdv ct us hl => match us, hl with | [_], _ => rfl
/-- can_be(system); slots system -/
def b_can_be : Stms :=
  (.cons (.expr (.call 15 (.cons (.var 0) .nil)))
  (.cons (.ret (.call 5 (.cons (.ix (.var 0) (.cint 0)) (.cons (.ix (.var 0) (.cint 1)) .nil)))) .nil))
def f_can_be : FT := ⟨"can_be", ["system"], ["system"], top 39, ⟨1, 1, true, b_can_be⟩⟩
theorem bnd_can_be : BindOk (defArgs f_can_be.st) f_can_be.ps := fun x qual body scope kV doc pm an cdv ct us hl => match us, hl with | [_], _ => rfl
/-- _law_deck(cell); slots cell -/
def b_law_deck : Stms :=
  (.cons (.set 0 (.bi .int (.cons (.var 0) .nil)))
  (.cons (.ret (.lst true (.cons (.bi .max2 (.cons (.cint 0) (.cons (.bin .sub (.var 0) (.bin .pow (.cint 10) (.cint 20))) .nil))) (.cons (.bin .add (.bin .mod (.bi .int (.cons (.bin .add (.bin .mul (.var 0) (.cint 6700417)) (.cint 104729)) .nil)) (.cint 2305843009213693921)) (.cint 1)) .nil)))) .nil))
def f_law_deck : FT := ⟨"_law_deck", ["cell"], ["cell"], top 41, ⟨1, 1, false, b_law_deck⟩⟩
theorem bnd_law_deck : BindOk (defArgs f_law_deck.st) f_law_deck.ps := fun x qual body scope kV doc pm an cdv ct us hl => match us, hl with | [_], _ => rfl
/-- _law_draw(deck, many); slots deck, many, found -/
def b_law_draw : Stms :=
  (.cons (.iff (.cmp .gt (.ix (.var 0) (.cint 0)) (.cint 0)) (.cons (.set 2 (.bin .mod (.bi .int (.cons (.ix (.var 0) (.cint 0)) .nil)) (.var 1)))
    (.cons (.put (.var 0) (.cint 0) (.bin .fdiv (.bi .int (.cons (.ix (.var 0) (.cint 0)) .nil)) (.var 1)))
    (.cons (.ret (.var 2)) .nil))) .nil)
  (.cons (.put (.var 0) (.cint 1) (.bin .mod (.bi .int (.cons (.bin .add (.bin .mul (.ix (.var 0) (.cint 1)) (.cint 25214903917)) (.cint 9973)) .nil)) (.cint 2305843009213693921)))
  (.cons (.ret (.bin .mod (.bin .fdiv (.bi .int (.cons (.ix (.var 0) (.cint 1)) .nil)) (.cint 8192)) (.var 1))) .nil)))
def f_law_draw : FT := ⟨"_law_draw", ["deck", "many"], ["deck", "many", "found"], top 42, ⟨2, 3, false, b_law_draw⟩⟩
theorem bnd_law_draw : BindOk (defArgs f_law_draw.st) f_law_draw.ps := fun x qual body scope kV doc pm an cdv ct us hl => match us, hl with | [_, _], _ => rfl
/-- _law_same(found, due); slots found, due, k -/
def b_law_same : Stms :=
  (.cons (.iff (.isi (.var 1) [.tuple, .list]) (.cons (.iff (.orC (.cmp .ne (.isi (.var 1) [.tuple]) (.isi (.var 0) [.tuple])) (.cmp .ne (.isi (.var 1) [.list]) (.isi (.var 0) [.list]))) (.cons (.ret (.cbl false)) .nil) .nil)
    (.cons (.ret (.andC (.cmp .eq (.bi .len (.cons (.var 0) .nil)) (.bi .len (.cons (.var 1) .nil))) (.bi .all (.cons (.comp false .range (.cons (.bi .len (.cons (.var 1) .nil)) .nil) (.nm 2) .nil (.call 31 (.cons (.ix (.var 0) (.var 2)) (.cons (.ix (.var 1) (.var 2)) .nil)))) .nil)))) .nil)) .nil)
  (.cons (.iff (.cmp .is (.var 1) (.cnon)) (.cons (.ret (.cmp .is (.var 0) (.cnon))) .nil) .nil)
  (.cons (.iff (.isi (.var 1) [.bool]) (.cons (.ret (.andC (.isi (.var 0) [.bool]) (.cmp .eq (.var 0) (.var 1)))) .nil) .nil)
  (.cons (.iff (.isi (.var 1) [.int]) (.cons (.ret (.andC (.isi (.var 0) [.int]) (.andC (.notC (.isi (.var 0) [.bool])) (.cmp .eq (.var 0) (.var 1))))) .nil) .nil)
  (.cons (.ret (.andC (.isi (.var 0) [.str]) (.cmp .eq (.var 0) (.var 1)))) .nil)))))
def f_law_same : FT := ⟨"_law_same", ["found", "due"], ["found", "due", "k"], top 43, ⟨2, 3, true, b_law_same⟩⟩
theorem bnd_law_same : BindOk (defArgs f_law_same.st) f_law_same.ps := fun x qual body scope kV doc pm an cdv ct us hl => match us, hl with | [_, _], _ => rfl
/-- _law_is_index(value, size); slots value, size -/
def b_law_is_index : Stms :=
  (.cons (.ret (.andC (.isi (.var 0) [.int]) (.andC (.notC (.isi (.var 0) [.bool])) (.andC (.cmp .le (.cint 0) (.var 0)) (.cmp .lt (.var 0) (.var 1)))))) .nil)
def f_law_is_index : FT := ⟨"_law_is_index", ["value", "size"], ["value", "size"], top 44, ⟨2, 2, true, b_law_is_index⟩⟩
theorem bnd_law_is_index : BindOk (defArgs f_law_is_index.st) f_law_is_index.ps := fun x qual body scope kV doc pm an cdv ct us hl => match us, hl with | [_, _], _ => rfl
/-- _law_bad_ring(rows, value); slots rows, value, k -/
def b_law_bad_ring : Stms :=
  (.cons (.iff (.orC (.notC (.isi (.var 1) [.tuple])) (.orC (.cmp .eq (.var 1) (.tup .nil)) (.notC (.bi .all (.cons (.comp false .seq (.cons (.var 1) .nil) (.nm 2) .nil (.call 32 (.cons (.var 2) (.cons (.bi .len (.cons (.var 0) .nil)) .nil)))) .nil))))) (.cons (.ret (.cbl false)) .nil) .nil)
  (.cons (.forS .range (.cons (.bi .len (.cons (.var 1) .nil)) .nil) (.nm 2)
    (.cons (.iff (.cmp .ne (.ix (.ix (.var 0) (.ix (.var 1) (.var 2))) (.cint 1)) (.ix (.ix (.var 0) (.ix (.var 1) (.bin .mod (.bin .add (.var 2) (.cint 1)) (.bi .len (.cons (.var 1) .nil))))) (.cint 0))) (.cons (.ret (.cbl false)) .nil) .nil) .nil))
  (.cons (.ret (.cmp .lt (.bi .sum (.cons (.comp false .seq (.cons (.var 1) .nil) (.nm 2) .nil (.ix (.ix (.var 0) (.var 2)) (.cint 2))) .nil)) (.cint 0))) .nil)))
def f_law_bad_ring : FT := ⟨"_law_bad_ring", ["rows", "value"], ["rows", "value", "k"], top 45, ⟨2, 3, true, b_law_bad_ring⟩⟩
theorem bnd_law_bad_ring : BindOk (defArgs f_law_bad_ring.st) f_law_bad_ring.ps := fun x qual body scope kV doc pm an cdv ct us hl => match us, hl with | [_, _], _ => rfl
/-- _law_bent(deck, value); slots deck, value, inner, k, way -/
def b_law_bent : Stms :=
  (.cons (.iff (.andC (.isi (.var 1) [.tuple]) (.andC (.cmp .ne (.var 1) (.tup .nil)) (.cmp .gt (.call 30 (.cons (.var 0) (.cons (.cint 6) .nil))) (.cint 0)))) (.cons (.set 3 (.call 30 (.cons (.var 0) (.cons (.bi .len (.cons (.var 1) .nil)) .nil))))
    (.cons (.set 4 (.call 30 (.cons (.var 0) (.cons (.cint 9) .nil))))
    (.cons (.iff (.cmp .eq (.var 4) (.cint 0)) (.cons (.ret (.bin .add (.sl (.var 1) .nil (.cons (.var 3) .nil)) (.sl (.var 1) (.cons (.bin .add (.var 3) (.cint 1)) .nil) .nil))) .nil) .nil)
    (.cons (.iff (.cmp .eq (.var 4) (.cint 1)) (.cons (.ret (.bin .add (.bin .add (.sl (.var 1) .nil (.cons (.var 3) .nil)) (.tup (.cons (.ix (.var 1) (.var 3)) (.cons (.ix (.var 1) (.var 3)) .nil)))) (.sl (.var 1) (.cons (.bin .add (.var 3) (.cint 1)) .nil) .nil))) .nil) .nil)
    (.cons (.iff (.cmp .eq (.var 4) (.cint 2)) (.cons (.ret (.bin .add (.sl (.var 1) .nil (.cons (.var 3) .nil)) (.rev (.sl (.var 1) (.cons (.var 3) .nil) .nil)))) .nil) .nil)
    (.cons (.ret (.bin .add (.bin .add (.sl (.var 1) .nil (.cons (.var 3) .nil)) (.tup (.cons (.call 34 (.cons (.var 0) (.cons (.ix (.var 1) (.var 3)) .nil))) .nil))) (.sl (.var 1) (.cons (.bin .add (.var 3) (.cint 1)) .nil) .nil))) .nil)))))) .nil)
  (.cons (.iff (.andC (.isi (.var 1) [.int]) (.andC (.notC (.isi (.var 1) [.bool])) (.cmp .gt (.call 30 (.cons (.var 0) (.cons (.cint 5) .nil))) (.cint 0)))) (.cons (.ret (.bin .add (.var 1) (.ix (.lst false (.cons (.cint 1) (.cons (.neg (.cint 1)) (.cons (.cint 2) (.cons (.bin .pow (.cint 10) (.cint 9)) (.cons (.neg (.var 1)) (.cons (.neg (.cint 2)) .nil))))))) (.call 30 (.cons (.var 0) (.cons (.cint 6) .nil)))))) .nil) .nil)
  (.cons (.set 2 (.ite (.isi (.var 1) [.tuple]) (.listOf false (.var 1)) (.lst false (.cons (.var 1) .nil))))
  (.cons (.ret (.ix (.lst false (.cons (.cnon) (.cons (.tup .nil) (.cons (.var 2) (.cons (.cbl true) (.cons (.cstr "in") (.cons (.tup (.cons (.var 1) .nil)) (.cons (.cint 0) (.cons (.edc) .nil))))))))) (.call 30 (.cons (.var 0) (.cons (.cint 8) .nil))))) .nil))))
def f_law_bent : FT := ⟨"_law_bent", ["deck", "value"], ["deck", "value", "inner", "k", "way"], top 46, ⟨2, 5, false, b_law_bent⟩⟩
theorem bnd_law_bent : BindOk (defArgs f_law_bent.st) f_law_bent.ps := fun x qual body scope kV doc pm an cdv ct us hl => match us, hl with | [_, _], _ => rfl
/-- _law_system(deck, most, many); slots deck, most, many, n, wide, rows, turn, x, y -/
def b_law_system : Stms :=
  (.cons (.set 3 (.call 30 (.cons (.var 0) (.cons (.bin .add (.var 1) (.cint 1)) .nil))))
  (.cons (.set 4 (.ix (.lst false (.cons (.cint 6) (.cons (.cint 6) (.cons (.cint 12) (.cons (.bin .fdiv (.bin .pow (.cint 10) (.cint 9)) (.cint 2)) .nil))))) (.call 30 (.cons (.var 0) (.cons (.cint 4) .nil)))))
  (.cons (.set 5 (.lst true .nil))
  (.cons (.forS .range (.cons (.ite (.cmp .gt (.var 3) (.cint 0)) (.call 30 (.cons (.var 0) (.cons (.bin .add (.var 2) (.cint 1)) .nil))) (.cint 0)) .nil) (.nm 6)
    (.cons (.set 7 (.call 30 (.cons (.var 0) (.cons (.bin .add (.var 3) (.cint 1)) .nil))))
    (.cons (.set 8 (.bin .mod (.bin .add (.bin .add (.var 7) (.cint 1)) (.call 30 (.cons (.var 0) (.cons (.var 3) .nil)))) (.bin .add (.var 3) (.cint 1))))
    (.cons (.app (.var 5) (.tup (.cons (.var 7) (.cons (.var 8) (.cons (.bin .sub (.call 30 (.cons (.var 0) (.cons (.var 4) .nil))) (.ix (.lst false (.cons (.cint 0) (.cons (.cint 1) (.cons (.cint 2) (.cons (.bin .fdiv (.var 4) (.cint 2)) .nil))))) (.call 30 (.cons (.var 0) (.cons (.cint 4) .nil))))) .nil))))) .nil))))
  (.cons (.ret (.tup (.cons (.var 3) (.cons (.bi .tuple (.cons (.var 5) .nil)) .nil)))) .nil)))))
def f_law_system : FT := ⟨"_law_system", ["deck", "most", "many"], ["deck", "most", "many", "n", "wide", "rows", "turn", "x", "y"], top 47, ⟨3, 9, false, b_law_system⟩⟩
theorem bnd_law_system : BindOk (defArgs f_law_system.st) f_law_system.ps := fun x qual body scope kV doc pm an cdv ct us hl => match us, hl with | [_, _, _], _ => rfl
/-- _law_is_diff(value, n); slots value, n, part -/
def b_law_is_diff : Stms :=
  (.cons (.iff (.orC (.notC (.isi (.var 0) [.tuple])) (.orC (.cmp .ne (.bi .len (.cons (.var 0) .nil)) (.cint 3)) (.notC (.bi .all (.cons (.comp false .seq (.cons (.var 0) .nil) (.nm 2) .nil (.andC (.isi (.var 2) [.int]) (.notC (.isi (.var 2) [.bool])))) .nil))))) (.cons (.ret (.cbl false)) .nil) .nil)
  (.cons (.ret (.andC (.cmp .ge (.ix (.var 0) (.cint 0)) (.cint 0)) (.andC (.cmp .ge (.ix (.var 0) (.cint 1)) (.cint 0)) (.andC (.cmp .ne (.ix (.var 0) (.cint 0)) (.ix (.var 0) (.cint 1))) (.orC (.cmp .is (.var 1) (.cnon)) (.andC (.cmp .le (.ix (.var 0) (.cint 0)) (.var 1)) (.cmp .le (.ix (.var 0) (.cint 1)) (.var 1)))))))) .nil))
def f_law_is_diff : FT := ⟨"_law_is_diff", ["value", "n"], ["value", "n", "part"], top 48, ⟨2, 3, true, b_law_is_diff⟩⟩
theorem bnd_law_is_diff : BindOk (defArgs f_law_is_diff.st) f_law_is_diff.ps := fun x qual body scope kV doc pm an cdv ct us hl => match us, hl with | [_, _], _ => rfl
/-- _law_is_system(value); slots value, row -/
def b_law_is_system : Stms :=
  (.cons (.iff (.orC (.notC (.isi (.var 0) [.tuple])) (.orC (.cmp .ne (.bi .len (.cons (.var 0) .nil)) (.cint 2)) (.orC (.notC (.call 32 (.cons (.ix (.var 0) (.cint 0)) (.cons (.bin .pow (.cint 10) (.cint 64)) .nil)))) (.notC (.isi (.ix (.var 0) (.cint 1)) [.tuple]))))) (.cons (.ret (.cbl false)) .nil) .nil)
  (.cons (.ret (.bi .all (.cons (.comp false .seq (.cons (.ix (.var 0) (.cint 1)) .nil) (.nm 1) .nil (.call 36 (.cons (.var 1) (.cons (.ix (.var 0) (.cint 0)) .nil)))) .nil))) .nil))
def f_law_is_system : FT := ⟨"_law_is_system", ["value"], ["value", "row"], top 49, ⟨1, 2, true, b_law_is_system⟩⟩
theorem bnd_law_is_system : BindOk (defArgs f_law_is_system.st) f_law_is_system.ps := fun x qual body scope kV doc pm an cdv ct us hl => match us, hl with | [_], _ => rfl
/-- _law_is_chain(rows, value); slots rows, value, k -/
def b_law_is_chain : Stms :=
  (.cons (.iff (.orC (.notC (.isi (.var 1) [.tuple])) (.orC (.cmp .eq (.var 1) (.tup .nil)) (.notC (.bi .all (.cons (.comp false .seq (.cons (.var 1) .nil) (.nm 2) .nil (.call 32 (.cons (.var 2) (.cons (.bi .len (.cons (.var 0) .nil)) .nil)))) .nil))))) (.cons (.ret (.cbl false)) .nil) .nil)
  (.cons (.ret (.bi .all (.cons (.comp false .range (.cons (.bin .sub (.bi .len (.cons (.var 1) .nil)) (.cint 1)) .nil) (.nm 2) .nil (.cmp .eq (.ix (.ix (.var 0) (.ix (.var 1) (.var 2))) (.cint 1)) (.ix (.ix (.var 0) (.ix (.var 1) (.bin .add (.var 2) (.cint 1)))) (.cint 0)))) .nil))) .nil))
def f_law_is_chain : FT := ⟨"_law_is_chain", ["rows", "value"], ["rows", "value", "k"], top 50, ⟨2, 3, true, b_law_is_chain⟩⟩
theorem bnd_law_is_chain : BindOk (defArgs f_law_is_chain.st) f_law_is_chain.ps := fun x qual body scope kV doc pm an cdv ct us hl => match us, hl with | [_, _], _ => rfl
/-- _law_is_minutes(n, value); slots n, value, part -/
def b_law_is_minutes : Stms :=
  (.cons (.iff (.orC (.notC (.isi (.var 1) [.tuple])) (.cmp .ne (.bi .len (.cons (.var 1) .nil)) (.bin .add (.var 0) (.cint 1)))) (.cons (.ret (.cbl false)) .nil) .nil)
  (.cons (.ret (.andC (.bi .all (.cons (.comp false .seq (.cons (.var 1) .nil) (.nm 2) .nil (.andC (.isi (.var 2) [.int]) (.notC (.isi (.var 2) [.bool])))) .nil)) (.cmp .eq (.ix (.var 1) (.cint 0)) (.cint 0)))) .nil))
def f_law_is_minutes : FT := ⟨"_law_is_minutes", ["n", "value"], ["n", "value", "part"], top 51, ⟨2, 3, true, b_law_is_minutes⟩⟩
theorem bnd_law_is_minutes : BindOk (defArgs f_law_is_minutes.st) f_law_is_minutes.ps := fun x qual body scope kV doc pm an cdv ct us hl => match us, hl with | [_, _], _ => rfl
/-- _law_failing(rows, times); slots rows, times, k -/
def b_law_failing : Stms :=
  (.cons (.ret (.bi .tuple (.cons (.comp false .range (.cons (.bi .len (.cons (.var 0) .nil)) .nil) (.nm 2) (.cons (.cmp .gt (.bin .sub (.ix (.var 1) (.ix (.ix (.var 0) (.var 2)) (.cint 0))) (.ix (.var 1) (.ix (.ix (.var 0) (.var 2)) (.cint 1)))) (.ix (.ix (.var 0) (.var 2)) (.cint 2))) .nil) (.var 2)) .nil))) .nil)
def f_law_failing : FT := ⟨"_law_failing", ["rows", "times"], ["rows", "times", "k"], top 52, ⟨2, 3, true, b_law_failing⟩⟩
theorem bnd_law_failing : BindOk (defArgs f_law_failing.st) f_law_failing.ps := fun x qual body scope kV doc pm an cdv ct us hl => match us, hl with | [_, _], _ => rfl
/-- _law_is_world(system, value); slots system, value -/
def b_law_is_world : Stms :=
  (.cons (.ret (.andC (.call 39 (.cons (.ix (.var 0) (.cint 0)) (.cons (.var 1) .nil))) (.cmp .eq (.call 40 (.cons (.ix (.var 0) (.cint 1)) (.cons (.var 1) .nil))) (.tup .nil)))) .nil)
def f_law_is_world : FT := ⟨"_law_is_world", ["system", "value"], ["system", "value"], top 53, ⟨2, 2, true, b_law_is_world⟩⟩
theorem bnd_law_is_world : BindOk (defArgs f_law_is_world.st) f_law_is_world.ps := fun x qual body scope kV doc pm an cdv ct us hl => match us, hl with | [_, _], _ => rfl
/-- _law_walk(deck, rows, most); slots deck, rows, most, chain, turn, on, k -/
def b_law_walk : Stms :=
  (.cons (.iff (.cmp .eq (.var 1) (.tup .nil)) (.cons (.ret (.tup .nil)) .nil) .nil)
  (.cons (.set 3 (.lst true (.cons (.call 30 (.cons (.var 0) (.cons (.bi .len (.cons (.var 1) .nil)) .nil))) .nil)))
  (.cons (.forS .range (.cons (.call 30 (.cons (.var 0) (.cons (.var 2) .nil))) .nil) (.nm 4)
    (.cons (.set 5 (.comp false .range (.cons (.bi .len (.cons (.var 1) .nil)) .nil) (.nm 6) (.cons (.cmp .eq (.ix (.ix (.var 1) (.var 6)) (.cint 0)) (.ix (.ix (.var 1) (.ix (.var 3) (.neg (.cint 1)))) (.cint 1))) .nil) (.var 6)))
    (.cons (.iff (.cmp .ne (.var 5) (.lst false .nil)) (.cons (.app (.var 3) (.ix (.var 5) (.call 30 (.cons (.var 0) (.cons (.bi .len (.cons (.var 5) .nil)) .nil))))) .nil) .nil) .nil)))
  (.cons (.ret (.bi .tuple (.cons (.var 3) .nil))) .nil))))
def f_law_walk : FT := ⟨"_law_walk", ["deck", "rows", "most"], ["deck", "rows", "most", "chain", "turn", "on", "k"], top 54, ⟨3, 7, false, b_law_walk⟩⟩
theorem bnd_law_walk : BindOk (defArgs f_law_walk.st) f_law_walk.ps := fun x qual body scope kV doc pm an cdv ct us hl => match us, hl with | [_, _, _], _ => rfl
/-- _law_verdict_right(system, answer); slots system, answer -/
def b_law_verdict_right : Stms :=
  (.cons (.iff (.orC (.notC (.isi (.var 1) [.tuple])) (.cmp .ne (.bi .len (.cons (.var 1) .nil)) (.cint 2))) (.cons (.ret (.cbl false)) .nil) .nil)
  (.cons (.iff (.cmp .eq (.ix (.var 1) (.cint 0)) (.cstr "world")) (.cons (.ret (.call 41 (.cons (.var 0) (.cons (.ix (.var 1) (.cint 1)) .nil)))) .nil) .nil)
  (.cons (.ret (.andC (.cmp .eq (.ix (.var 1) (.cint 0)) (.cstr "ring")) (.call 33 (.cons (.ix (.var 0) (.cint 1)) (.cons (.ix (.var 1) (.cint 1)) .nil))))) .nil)))
def f_law_verdict_right : FT := ⟨"_law_verdict_right", ["system", "answer"], ["system", "answer"], top 55, ⟨2, 2, true, b_law_verdict_right⟩⟩
theorem bnd_law_verdict_right : BindOk (defArgs f_law_verdict_right.st) f_law_verdict_right.ps := fun x qual body scope kV doc pm an cdv ct us hl => match us, hl with | [_, _], _ => rfl
/-- _law_kept_small(system, other); slots system, other -/
def b_law_kept_small : Stms :=
  (.cons (.iff (.andC (.call 37 (.cons (.var 1) .nil)) (.cmp .gt (.ix (.var 1) (.cint 0)) (.cint 12))) (.cons (.ret (.var 0)) .nil) .nil)
  (.cons (.ret (.var 1)) .nil))
def f_law_kept_small : FT := ⟨"_law_kept_small", ["system", "other"], ["system", "other"], top 56, ⟨2, 2, true, b_law_kept_small⟩⟩
theorem bnd_law_kept_small : BindOk (defArgs f_law_kept_small.st) f_law_kept_small.ps := fun x qual body scope kV doc pm an cdv ct us hl => match us, hl with | [_, _], _ => rfl
/-- _law_ask(which, system, value); slots which, system, value, told -/
def b_law_ask : Stms :=
  (.cons (.set 3 (.cnon))
  (.cons (.tryM (.cons (.iff (.cmp .eq (.var 0) (.cint 0)) (.cons (.set 3 (.call 21 (.cons (.var 1) (.cons (.var 2) .nil)))) .nil) (.cons (.iff (.cmp .eq (.var 0) (.cint 1)) (.cons (.set 3 (.call 23 (.cons (.var 1) (.cons (.var 2) .nil)))) .nil) (.cons (.iff (.cmp .eq (.var 0) (.cint 2)) (.cons (.set 3 (.call 26 (.cons (.var 1) (.cons (.var 2) .nil)))) .nil) (.cons (.iff (.cmp .eq (.var 0) (.cint 3)) (.cons (.set 3 (.call 20 (.cons (.var 2) .nil))) .nil) (.cons (.iff (.cmp .eq (.var 0) (.cint 4)) (.cons (.set 3 (.call 22 (.cons (.var 1) (.cons (.var 2) .nil)))) .nil) (.cons (.iff (.cmp .eq (.var 0) (.cint 5)) (.cons (.set 3 (.call 24 (.cons (.var 1) (.cons (.var 2) .nil)))) .nil) (.cons (.iff (.cmp .eq (.var 0) (.cint 6)) (.cons (.set 3 (.call 25 (.cons (.var 1) (.cons (.var 2) .nil)))) .nil) (.cons (.set 3 (.call 28 (.cons (.var 1) .nil))) .nil)) .nil)) .nil)) .nil)) .nil)) .nil)) .nil)) .nil) [(1, 3, .cst (.str "system")), (2, 3, .cst (.str "difference")), (3, 3, .cst (.str "world")), (4, 3, .cst (.str "chain"))])
  (.cons (.ret (.var 3)) .nil)))
def f_law_ask : FT := ⟨"_law_ask", ["which", "system", "value"], ["which", "system", "value", "told"], top 57, ⟨3, 4, true, b_law_ask⟩⟩
theorem bnd_law_ask : BindOk (defArgs f_law_ask.st) f_law_ask.ps := fun x qual body scope kV doc pm an cdv ct us hl => match us, hl with | [_, _, _], _ => rfl
/-- _law_due(which, system, value); slots which, system, value, n, rows, good, row, k -/
def b_law_due : Stms :=
  (.cons (.iff (.cmp .eq (.var 0) (.cint 3)) (.cons (.ret (.ite (.call 36 (.cons (.var 2) (.cons (.cnon) .nil))) (.tup (.cons (.ix (.var 2) (.cint 1)) (.cons (.ix (.var 2) (.cint 0)) (.cons (.bin .sub (.neg (.ix (.var 2) (.cint 2))) (.cint 1)) .nil)))) (.cstr "difference"))) .nil) .nil)
  (.cons (.iff (.notC (.call 37 (.cons (.var 1) .nil))) (.cons (.ret (.cstr "system")) .nil) .nil)
  (.cons (.unp (.tp [.nm 3, .nm 4]) (.var 1))
  (.cons (.iff (.cmp .eq (.var 0) (.cint 0)) (.cons (.set 5 (.andC (.isi (.var 2) [.tuple]) (.bi .all (.cons (.comp false .seq (.cons (.var 2) .nil) (.nm 6) .nil (.call 36 (.cons (.var 6) (.cons (.var 3) .nil)))) .nil))))
    (.cons (.ret (.ite (.var 5) (.tup (.cons (.var 3) (.cons (.bin .add (.var 4) (.var 2)) .nil))) (.cstr "difference"))) .nil)) .nil)
  (.cons (.iff (.cmp .eq (.var 0) (.cint 1)) (.cons (.ret (.ite (.call 39 (.cons (.var 3) (.cons (.var 2) .nil))) (.call 40 (.cons (.var 4) (.cons (.var 2) .nil))) (.cstr "world"))) .nil) .nil)
  (.cons (.iff (.cmp .eq (.var 0) (.cint 2)) (.cons (.ret (.ite (.call 38 (.cons (.var 4) (.cons (.var 2) .nil))) (.bi .sum (.cons (.comp false .seq (.cons (.var 2) .nil) (.nm 7) .nil (.ix (.ix (.var 4) (.var 7)) (.cint 2))) .nil)) (.cstr "chain"))) .nil) .nil)
  (.cons (.iff (.cmp .eq (.var 0) (.cint 4)) (.cons (.ret (.call 41 (.cons (.var 1) (.cons (.var 2) .nil)))) .nil) .nil)
  (.cons (.iff (.cmp .eq (.var 0) (.cint 5)) (.cons (.ret (.call 38 (.cons (.var 4) (.cons (.var 2) .nil)))) .nil) .nil)
  (.cons (.ret (.call 33 (.cons (.var 4) (.cons (.var 2) .nil)))) .nil)))))))))
def f_law_due : FT := ⟨"_law_due", ["which", "system", "value"], ["which", "system", "value", "n", "rows", "good", "row", "k"], top 58, ⟨3, 8, true, b_law_due⟩⟩
theorem bnd_law_due : BindOk (defArgs f_law_due.st) f_law_due.ps := fun x qual body scope kV doc pm an cdv ct us hl => match us, hl with | [_, _, _], _ => rfl
/-- _law_values(deck, system); slots deck, system, more, minutes, chain, ring, one, n, rows, k, place -/
def b_law_values : Stms :=
  (.cons (.unp (.tp [.nm 7, .nm 8]) (.var 1))
  (.cons (.set 2 (.ix (.call 35 (.cons (.var 0) (.cons (.cint 4) (.cons (.cint 3) .nil)))) (.cint 1)))
  (.cons (.set 3 (.bi .tuple (.cons (.bin .add (.lst false (.cons (.cint 0) .nil)) (.comp false .range (.cons (.var 7) .nil) (.nm 10) .nil (.bin .sub (.call 30 (.cons (.var 0) (.cons (.cint 12) .nil))) (.cint 3)))) .nil)))
  (.cons (.set 4 (.call 42 (.cons (.var 0) (.cons (.var 8) (.cons (.cint 6) .nil)))))
  (.cons (.set 5 (.comp false .range (.cons (.bi .len (.cons (.var 4) .nil)) .nil) (.nm 9) (.cons (.cmp .eq (.ix (.ix (.var 8) (.ix (.var 4) (.var 9))) (.cint 1)) (.ix (.ix (.var 8) (.ix (.var 4) (.cint 0))) (.cint 0))) .nil) (.sl (.var 4) .nil (.cons (.bin .add (.var 9) (.cint 1)) .nil))))
  (.cons (.set 6 (.ite (.cmp .ne (.var 2) (.tup .nil)) (.ix (.var 2) (.cint 0)) (.tup (.cons (.cint 0) (.cons (.cint 1) (.cons (.neg (.cint 4)) .nil))))))
  (.cons (.ret (.lst false (.cons (.var 2) (.cons (.var 3) (.cons (.var 4) (.cons (.var 6) (.cons (.var 3) (.cons (.var 4) (.cons (.ite (.cmp .ne (.var 5) (.lst false .nil)) (.ix (.var 5) (.cint 0)) (.var 4)) .nil))))))))) .nil)))))))
def f_law_values : FT := ⟨"_law_values", ["deck", "system"], ["deck", "system", "more", "minutes", "chain", "ring", "one", "n", "rows", "k", "place"], top 59, ⟨2, 11, false, b_law_values⟩⟩
theorem bnd_law_values : BindOk (defArgs f_law_values.st) f_law_values.ps := fun x qual body scope kV doc pm an cdv ct us hl => match us, hl with | [_, _], _ => rfl
/-- _law_asked_right(deck, system); slots deck, system, values, which, value, other -/
def b_law_asked_right : Stms :=
  (.cons (.set 2 (.call 47 (.cons (.var 0) (.cons (.var 1) .nil))))
  (.cons (.forS .range (.cons (.cint 7) .nil) (.nm 3)
    (.cons (.forS .seq (.cons (.lst false (.cons (.ix (.var 2) (.var 3)) (.cons (.call 34 (.cons (.var 0) (.cons (.ix (.var 2) (.var 3)) .nil))) (.cons (.ix (.var 2) (.call 30 (.cons (.var 0) (.cons (.cint 7) .nil)))) .nil)))) .nil) (.nm 4)
      (.cons (.set 5 (.call 44 (.cons (.var 1) (.cons (.ix (.lst false (.cons (.var 1) (.cons (.var 1) (.cons (.call 34 (.cons (.var 0) (.cons (.var 1) .nil))) .nil)))) (.call 30 (.cons (.var 0) (.cons (.cint 3) .nil)))) .nil))))
      (.cons (.iff (.notC (.call 31 (.cons (.call 45 (.cons (.var 3) (.cons (.var 5) (.cons (.var 4) .nil)))) (.cons (.call 46 (.cons (.var 3) (.cons (.var 5) (.cons (.var 4) .nil)))) .nil)))) (.cons (.ret (.cbl false)) .nil) .nil)
      (.cons (.iff (.notC (.call 31 (.cons (.call 18 (.cons (.var 4) .nil)) (.cons (.call 36 (.cons (.var 4) (.cons (.cnon) .nil))) .nil)))) (.cons (.ret (.cbl false)) .nil) .nil) .nil))))
    (.cons (.iff (.notC (.call 31 (.cons (.call 19 (.cons (.ix (.var 2) (.var 3)) .nil)) (.cons (.call 37 (.cons (.ix (.var 2) (.var 3)) .nil)) .nil)))) (.cons (.ret (.cbl false)) .nil) .nil) .nil)))
  (.cons (.ret (.cbl true)) .nil)))
def f_law_asked_right : FT := ⟨"_law_asked_right", ["deck", "system"], ["deck", "system", "values", "which", "value", "other"], top 60, ⟨2, 6, false, b_law_asked_right⟩⟩
theorem bnd_law_asked_right : BindOk (defArgs f_law_asked_right.st) f_law_asked_right.ps := fun x qual body scope kV doc pm an cdv ct us hl => match us, hl with | [_, _], _ => rfl
/-- _law_system_error(value); slots value, found, e -/
def b_law_system_error : Stms :=
  (.cons (.set 1 (.cbl false))
  (.cons (.tryAs (.cons (.expr (.call 27 (.cons (.var 0) .nil))) .nil) 0 2 1 (.andS (.isE 1) (.andS (.isE 5) (.notS (.isE 2)))))
  (.cons (.ret (.var 1)) .nil)))
def f_law_system_error : FT := ⟨"_law_system_error", ["value"], ["value", "found", "e"], top 61, ⟨1, 3, true, b_law_system_error⟩⟩
theorem bnd_law_system_error : BindOk (defArgs f_law_system_error.st) f_law_system_error.ps := fun x qual body scope kV doc pm an cdv ct us hl => match us, hl with | [_], _ => rfl
/-- _law_decided_right(system); slots system, told, near, one -/
def b_law_decided_right : Stms :=
  (.cons (.set 1 (.call 27 (.cons (.var 0) .nil)))
  (.cons (.iff (.orC (.notC (.call 43 (.cons (.var 0) (.cons (.var 1) .nil)))) (.notC (.call 31 (.cons (.call 28 (.cons (.var 0) .nil)) (.cons (.cmp .eq (.ix (.var 1) (.cint 0)) (.cstr "world")) .nil))))) (.cons (.ret (.cbl false)) .nil) .nil)
  (.cons (.iff (.cmp .eq (.ix (.var 1) (.cint 0)) (.cstr "world")) (.cons (.ret (.andC (.cmp .is (.call 22 (.cons (.var 0) (.cons (.ix (.var 1) (.cint 1)) .nil))) (.cbl true)) (.cmp .eq (.call 23 (.cons (.var 0) (.cons (.ix (.var 1) (.cint 1)) .nil))) (.tup .nil)))) .nil) .nil)
  (.cons (.set 2 (.lst false (.cons (.bi .tuple (.cons (.rep false (.cons (.cint 0) .nil) (.bin .add (.ix (.var 0) (.cint 0)) (.cint 1))) .nil)) (.cons (.bi .tuple (.cons (.bin .add (.lst false (.cons (.cint 0) .nil)) (.listRg false (.ix (.var 0) (.cint 0)))) .nil)) .nil))))
  (.cons (.iff (.bi .any (.cons (.comp false .seq (.cons (.var 2) .nil) (.nm 3) .nil (.call 41 (.cons (.var 0) (.cons (.var 3) .nil)))) .nil)) (.cons (.ret (.cbl false)) .nil) .nil)
  (.cons (.ret (.andC (.cmp .is (.call 25 (.cons (.var 0) (.cons (.ix (.var 1) (.cint 1)) .nil))) (.cbl true)) (.andC (.cmp .lt (.call 26 (.cons (.var 0) (.cons (.ix (.var 1) (.cint 1)) .nil))) (.cint 0)) (.cmp .is (.call 45 (.cons (.cint 7) (.cons (.var 0) (.cons (.cnon) .nil)))) (.cbl false))))) .nil))))))
def f_law_decided_right : FT := ⟨"_law_decided_right", ["system"], ["system", "told", "near", "one"], top 62, ⟨1, 4, true, b_law_decided_right⟩⟩
theorem bnd_law_decided_right : BindOk (defArgs f_law_decided_right.st) f_law_decided_right.ps := fun x qual body scope kV doc pm an cdv ct us hl => match us, hl with | [_], _ => rfl
/-- law(script); slots script, cell, deck, system, bad, near -/
def b_law : Stms :=
  (.cons (.forS .seq (.cons (.sl (.bin .add (.lst false (.cons (.cint 9400813272) .nil)) (.var 0)) .nil (.cons (.cint 6) .nil)) .nil) (.nm 1)
    (.cons (.set 2 (.call 29 (.cons (.var 1) .nil)))
    (.cons (.set 3 (.call 35 (.cons (.var 2) (.cons (.cint 4) (.cons (.cint 8) .nil)))))
    (.cons (.iff (.orC (.notC (.call 48 (.cons (.var 2) (.cons (.var 3) .nil)))) (.notC (.call 50 (.cons (.var 3) .nil)))) (.cons (.ret (.cbl false)) .nil) .nil)
    (.cons (.set 4 (.call 34 (.cons (.var 2) (.cons (.var 3) .nil))))
    (.cons (.iff (.notC (.call 31 (.cons (.call 19 (.cons (.var 4) .nil)) (.cons (.call 37 (.cons (.var 4) .nil)) .nil)))) (.cons (.ret (.cbl false)) .nil) .nil)
    (.cons (.iff (.andC (.notC (.call 37 (.cons (.var 4) .nil))) (.notC (.call 49 (.cons (.var 4) .nil)))) (.cons (.ret (.cbl false)) .nil) .nil)
    (.cons (.set 5 (.call 44 (.cons (.var 3) (.cons (.var 4) .nil))))
    (.cons (.iff (.andC (.call 37 (.cons (.var 5) .nil)) (.notC (.call 43 (.cons (.var 5) (.cons (.call 27 (.cons (.var 5) .nil)) .nil))))) (.cons (.ret (.cbl false)) .nil) .nil) .nil)))))))))
  (.cons (.ret (.cbl true)) .nil))
def f_law : FT := ⟨"law", ["script"], ["script", "cell", "deck", "system", "bad", "near"], top 63, ⟨1, 6, true, b_law⟩⟩
theorem bnd_law : BindOk (defArgs f_law.st) f_law.ps := fun x qual body scope kV doc pm an cdv ct us hl => match us, hl with | [_], _ => rfl
def lk : Lk := ⟨[f_is_integer, f_is_natural, f_is_row, f_ring_at, f_settle, f_has_world, f_holds_all, f_turned_row, f_is_chain_of, f_chain_total, f_is_bad, f_fits_minutes, f_fits_difference, f_fits_difference_of, f_fits_system, f_check_system, f_check_more, f_check_chain, f_is_difference, f_is_system, f_contrary, f_joined, f_is_world, f_failing, f_is_chain, f_is_bad_ring, f_chain_sum, f_decide, f_can_be, f_law_deck, f_law_draw, f_law_same, f_law_is_index, f_law_bad_ring, f_law_bent, f_law_system, f_law_is_diff, f_law_is_system, f_law_is_chain, f_law_is_minutes, f_law_failing, f_law_is_world, f_law_walk, f_law_verdict_right, f_law_kept_small, f_law_ask, f_law_due, f_law_values, f_law_asked_right, f_law_system_error, f_law_decided_right, f_law], ["BoardError", "InvalidSystem", "InvalidDifference", "InvalidWorld", "InvalidChain"], ["ValueError"]⟩
def tab : List (List Bool) := [[true, false, false, false, false, true], [true, true, false, false, false, true], [true, false, true, false, false, true], [true, false, false, true, false, true], [true, false, false, false, true, true]]
theorem bnds : ∀ ft ∈ lk.fns, BindOk (defArgs ft.st) ft.ps := List.forall_mem_cons.mpr ⟨bnd_is_integer, List.forall_mem_cons.mpr ⟨bnd_is_natural, List.forall_mem_cons.mpr ⟨bnd_is_row, List.forall_mem_cons.mpr ⟨bnd_ring_at, List.forall_mem_cons.mpr ⟨bnd_settle, List.forall_mem_cons.mpr ⟨bnd_has_world, List.forall_mem_cons.mpr ⟨bnd_holds_all, List.forall_mem_cons.mpr ⟨bnd_turned_row, List.forall_mem_cons.mpr ⟨bnd_is_chain_of, List.forall_mem_cons.mpr ⟨bnd_chain_total, List.forall_mem_cons.mpr ⟨bnd_is_bad, List.forall_mem_cons.mpr ⟨bnd_fits_minutes, List.forall_mem_cons.mpr ⟨bnd_fits_difference, List.forall_mem_cons.mpr ⟨bnd_fits_difference_of, List.forall_mem_cons.mpr ⟨bnd_fits_system, List.forall_mem_cons.mpr ⟨bnd_check_system, List.forall_mem_cons.mpr ⟨bnd_check_more, List.forall_mem_cons.mpr ⟨bnd_check_chain, List.forall_mem_cons.mpr ⟨bnd_is_difference, List.forall_mem_cons.mpr ⟨bnd_is_system, List.forall_mem_cons.mpr ⟨bnd_contrary, List.forall_mem_cons.mpr ⟨bnd_joined, List.forall_mem_cons.mpr ⟨bnd_is_world, List.forall_mem_cons.mpr ⟨bnd_failing, List.forall_mem_cons.mpr ⟨bnd_is_chain, List.forall_mem_cons.mpr ⟨bnd_is_bad_ring, List.forall_mem_cons.mpr ⟨bnd_chain_sum, List.forall_mem_cons.mpr ⟨bnd_decide, List.forall_mem_cons.mpr ⟨bnd_can_be, List.forall_mem_cons.mpr ⟨bnd_law_deck, List.forall_mem_cons.mpr ⟨bnd_law_draw, List.forall_mem_cons.mpr ⟨bnd_law_same, List.forall_mem_cons.mpr ⟨bnd_law_is_index, List.forall_mem_cons.mpr ⟨bnd_law_bad_ring, List.forall_mem_cons.mpr ⟨bnd_law_bent, List.forall_mem_cons.mpr ⟨bnd_law_system, List.forall_mem_cons.mpr ⟨bnd_law_is_diff, List.forall_mem_cons.mpr ⟨bnd_law_is_system, List.forall_mem_cons.mpr ⟨bnd_law_is_chain, List.forall_mem_cons.mpr ⟨bnd_law_is_minutes, List.forall_mem_cons.mpr ⟨bnd_law_failing, List.forall_mem_cons.mpr ⟨bnd_law_is_world, List.forall_mem_cons.mpr ⟨bnd_law_walk, List.forall_mem_cons.mpr ⟨bnd_law_verdict_right, List.forall_mem_cons.mpr ⟨bnd_law_kept_small, List.forall_mem_cons.mpr ⟨bnd_law_ask, List.forall_mem_cons.mpr ⟨bnd_law_due, List.forall_mem_cons.mpr ⟨bnd_law_values, List.forall_mem_cons.mpr ⟨bnd_law_asked_right, List.forall_mem_cons.mpr ⟨bnd_law_system_error, List.forall_mem_cons.mpr ⟨bnd_law_decided_right, List.forall_mem_cons.mpr ⟨bnd_law, List.forall_mem_nil _⟩⟩⟩⟩⟩⟩⟩⟩⟩⟩⟩⟩⟩⟩⟩⟩⟩⟩⟩⟩⟩⟩⟩⟩⟩⟩⟩⟩⟩⟩⟩⟩⟩⟩⟩⟩⟩⟩⟩⟩⟩⟩⟩⟩⟩⟩⟩⟩⟩⟩⟩⟩
/- law: fn 51, top 63 ; tops 64 -/
def loose0 : List Str := ["is_integer", "is_natural", "is_row", "ring_at", "settle", "has_world", "holds_all", "turned_row", "is_chain_of", "chain_total", "is_bad", "fits_minutes", "fits_difference", "fits_difference_of", "fits_system", "check_system", "check_more", "check_chain", "is_difference", "is_system", "contrary", "joined", "is_world", "failing", "is_chain", "is_bad_ring", "chain_sum", "decide", "can_be", "_law_deck"]
def loose1 : List Str := ["_law_draw", "_law_same", "_law_is_index", "_law_bad_ring", "_law_bent", "_law_system", "_law_is_diff", "_law_is_system", "_law_is_chain", "_law_is_minutes", "_law_failing", "_law_is_world", "_law_walk", "_law_verdict_right", "_law_kept_small", "_law_ask", "_law_due", "_law_values", "_law_asked_right", "_law_system_error", "_law_decided_right", "BoardError", "InvalidSystem", "InvalidDifference", "InvalidWorld", "InvalidChain"]
def loose : List Str := loose0 ++ loose1
theorem oks : ∀ ft ∈ lk.fns, ftOk lk ft = true := List.all_eq_true.mp (show lk.fns.all (ftOk lk) = true by decide +kernel)
theorem bcls : bclOk lk = true := by decide +kernel
end K00

end
section
set_option Elab.async false
set_option maxRecDepth 100000
set_option linter.all false
set_option maxHeartbeats 4000000
namespace K00
open MP
abbrev sb : Nat → Nat → Option Bool := subT tab
def rn (k f : Nat) : List D → Hh → R D := MP.run lk.pg sb k f
variable {k : Nat} {h : Hh}
/-! what the predicates tell -/
def isInt : P → Bool
  | .int _ => true
  | _ => false
def isNat : P → Bool
  | .int i => decide (0 ≤ i)
  | _ => false
def isIx (n : Int) : P → Bool
  | .int i => decide (0 ≤ i) && decide (i < n)
  | _ => false
def isDiff : P → Bool
  | .tup [.int x, .int y, .int _] => decide (0 ≤ x) && (decide (0 ≤ y) && decide (x ≠ y))
  | _ => false
def isDiffN (n : Int) : P → Bool
  | .tup [.int x, .int y, .int _] => (decide (0 ≤ x) && (decide (0 ≤ y) && decide (x ≠ y))) && (decide (x ≤ n) && decide (y ≤ n))
  | _ => false
def isSys : P → Bool
  | .tup [.int n, .tup rows] => decide (0 ≤ n) && rows.all (isDiffN n)
  | _ => false
theorem s_is_integer (v : P) : rn (k + 1) 0 [.p v] h = .ok (.p (.bl (isInt v))) h := by
  rw [show rn (k + 1) 0 [.p v] h = fin h (exs (rn k) sb b_is_integer [some (.p v)] []) from run_gc (xs := [v]) (fn := f_is_integer.fn) rfl rfl rfl]
  cases v <;> simp [b_is_integer, isiD, isiP, isInt]
theorem s_is_natural (v : P) : rn (k + 2) 1 [.p v] h = .ok (.p (.bl (isNat v))) h := by
  rw [show rn (k + 2) 1 [.p v] h = fin h (exs (rn (k + 1)) sb b_is_natural [some (.p v)] []) from run_gc (xs := [v]) (fn := f_is_natural.fn) rfl rfl rfl]
  cases v <;> simp [b_is_natural, s_is_integer, isInt, isNat, cmpD, cmpP]
def isRow (n : Int) : P → Bool
  | .tup xs => decide ((xs.length : Int) = n)
  | _ => false
theorem s_is_row (v : P) (n : Int) : rn (k + 1) 2 [.p v, .p (.int n)] h = .ok (.p (.bl (isRow n v))) h := by
  rw [show rn (k + 1) 2 [.p v, .p (.int n)] h = fin h (exs (rn k) sb b_is_row [some (.p v), some (.p (.int n))] []) from run_gc (xs := [v, .int n]) (fn := f_is_row.fn) rfl rfl rfl]
  cases v <;> simp [b_is_row, isiD, isiP, isRow, cmpD, cmpP, eqP, biD, bi1]
theorem s_law_is_index (v : P) (n : Int) : rn (k + 1) 32 [.p v, .p (.int n)] h = .ok (.p (.bl (isIx n v))) h := by
  rw [show rn (k + 1) 32 [.p v, .p (.int n)] h = fin h (exs (rn k) sb b_law_is_index [some (.p v), some (.p (.int n))] []) from run_gc (xs := [v, .int n]) (fn := f_law_is_index.fn) rfl rfl rfl]
  cases v <;> simp [b_law_is_index, isiD, isiP, isIx, cmpD, cmpP]
  split <;> simp_all <;> omega
theorem s_fits_difference (v : P) : rn (k + 3) 12 [.p v] h = .ok (.p (.bl (isDiff v))) h := by
  rw [show rn (k + 3) 12 [.p v] h = fin h (exs (rn (k + 2)) sb b_fits_difference [some (.p v)] []) from run_gc (xs := [v]) (fn := f_fits_difference.fn) rfl rfl rfl]
  simp only [b_fits_difference, exs_cons, exs_nil, ex_iff, ex_ret, ev_or, ev_not, ev_call, evs_cons, evs_nil, ev_var, ev_cint, List.getElem?_cons_zero, bind_ok, s_is_row, truth_bl, tstR_bl]
  cases v <;> try (simp [isRow, isDiff]; done)
  rename_i xs
  match xs with
  | [] => simp [isRow, isDiff]
  | [_] => simp [isRow, isDiff]
  | [_, _] => simp [isRow, isDiff]
  | _ :: _ :: _ :: _ :: _ =>
    simp [isRow, isDiff]
    omega
  | [a, b, c] =>
    cases a <;> try (simp [isRow, isDiff, isNat, s_is_natural, ixD, at?, okP]; done)
    cases b <;> try (simp [isRow, isDiff, isNat, s_is_natural, ixD, at?, okP]; done)
    cases c <;> try (simp [isRow, isDiff, isNat, isInt, s_is_natural, s_is_integer, ixD, at?, okP]; done)
    rename_i i j l
    simp [isRow, isDiff, isNat, isInt, s_is_natural, s_is_integer, ixD, at?, okP, cmpD, cmpP, eqP]
    by_cases h1 : 0 ≤ i
    · by_cases h2 : 0 ≤ j
      · simp [h1, h2, show ¬ i < 0 by omega, show ¬ j < 0 by omega]
      · simp [h1, h2, show ¬ i < 0 by omega, show j < 0 by omega]
    · simp [h1, show i < 0 by omega]
theorem isDiff_iff {v : P} : isDiff v = true ↔ ∃ x y c, v = .tup [.int x, .int y, .int c] ∧ 0 ≤ x ∧ 0 ≤ y ∧ x ≠ y := by
  constructor
  · intro h
    unfold isDiff at h
    split at h
    · rename_i x y c
      simp only [Bool.and_eq_true, decide_eq_true_eq] at h
      exact ⟨x, y, c, rfl, h.1, h.2.1, h.2.2⟩
    · cases h
  · rintro ⟨x, y, c, rfl, h1, h2, h3⟩
    simp [isDiff, h1, h2, h3]
theorem isDiffN_eq {v : P} {n : Int} : isDiffN n v = true ↔ ∃ x y c, v = .tup [.int x, .int y, .int c] ∧ 0 ≤ x ∧ 0 ≤ y ∧ x ≠ y ∧ x ≤ n ∧ y ≤ n := by
  constructor
  · intro h
    unfold isDiffN at h
    split at h
    · rename_i x y c
      simp only [Bool.and_eq_true, decide_eq_true_eq] at h
      exact ⟨x, y, c, rfl, h.1.1, h.1.2.1, h.1.2.2, h.2.1, h.2.2⟩
    · cases h
  · rintro ⟨x, y, c, rfl, h1, h2, h3, h4, h5⟩
    simp [isDiffN, h1, h2, h3, h4, h5]
theorem s_fits_difference_of (v : P) (n : Int) : rn (k + 4) 13 [.p (.int n), .p v] h = .ok (.p (.bl (isDiffN n v))) h := by
  rw [show rn (k + 4) 13 [.p (.int n), .p v] h = fin h (exs (rn (k + 3)) sb b_fits_difference_of [some (.p (.int n)), some (.p v)] []) from run_gc (xs := [.int n, v]) (fn := f_fits_difference_of.fn) rfl rfl rfl]
  by_cases hd : isDiff v = true
  · obtain ⟨x, y, c, rfl, h1, h2, h3⟩ := isDiff_iff.mp hd
    simp [b_fits_difference_of, s_fits_difference, hd, isDiffN, ixD, at?, okP, cmpD, cmpP, h1, h2, h3]
    by_cases h4 : x ≤ n
    · simp [h4]
    · simp [h4, show n < x by omega]
  · have hn : isDiffN n v = false := by
      cases e : isDiffN n v with
      | false => rfl
      | true =>
        obtain ⟨x, y, c, rfl, h1, h2, h3, _⟩ := isDiffN_eq.mp e
        exact absurd (isDiff_iff.mpr ⟨x, y, c, rfl, h1, h2, h3⟩) hd
    simp [b_fits_difference_of, s_fits_difference, hd, hn]
end K00

end
section
set_option Elab.async false
set_option maxRecDepth 100000
set_option linter.all false
set_option maxHeartbeats 4000000
namespace K00
open MP
variable {k : Nat} {h : Hh}
theorem isSys_iff {v : P} : isSys v = true ↔ ∃ n rows, v = .tup [.int n, .tup rows] ∧ 0 ≤ n ∧ ∀ r ∈ rows, isDiffN n r = true := by
  constructor
  · intro h
    unfold isSys at h
    split at h
    · rename_i n rows
      simp only [Bool.and_eq_true, decide_eq_true_eq, List.all_eq_true] at h
      exact ⟨n, rows, rfl, h.1, h.2⟩
    · cases h
  · rintro ⟨n, rows, rfl, h1, h2⟩
    simp [isSys, h1]
    exact h2
theorem s_fits_system (v : P) : rn (k + 5) 14 [.p v] h = .ok (.p (.bl (isSys v))) h := by
  rw [show rn (k + 5) 14 [.p v] h = fin h (exs (rn (k + 4)) sb b_fits_system [some (.p v), none] []) from run_gc (xs := [v]) (fn := f_fits_system.fn) rfl rfl rfl]
  have hcomp : ∀ n rows, compV (rn (k + 4)) [some (.p (.tup [.int n, .tup rows])), none] false .seq (.nm 1) .nil (.call 13 (.cons (.ix (.var 0) (.cint 0)) (.cons (.var 1) .nil))) [.p (.tup rows)] [] = .ok (.p (.lst (rows.map fun x => .bl (isDiffN n x)))) [] := fun n rows => by
    rw [compV_map (g := fun x => .bl (isDiffN n x)) rfl (fun x hx => by simp [item, asg, wipeE, Tg.slots, evc, s_fits_difference_of, ixD, at?, okP])]
    exact mkL_false
  cases v <;> try (simp [b_fits_system, isSys, s_is_row, isRow]; done)
  rename_i xs
  match xs with
  | [] => simp [b_fits_system, isSys, s_is_row, isRow]
  | [_] => simp [b_fits_system, isSys, s_is_row, isRow]
  | _ :: _ :: _ :: _ => simp [b_fits_system, isSys, s_is_row, isRow]; omega
  | [a, b] =>
    cases a <;> try (simp [b_fits_system, isSys, s_is_row, isRow, isNat, s_is_natural, ixD, at?, okP]; done)
    rename_i n
    by_cases h1 : 0 ≤ n
    · cases b <;> try (simp [b_fits_system, isSys, s_is_row, isRow, isNat, s_is_natural, ixD, at?, okP, h1, isiD, isiP, show ¬ n < 0 by omega]; done)
      rename_i rows
      simp [b_fits_system, isSys, s_is_row, isRow, isNat, s_is_natural, ixD, at?, okP, h1, isiD, isiP, show ¬ n < 0 by omega, hcomp, biD]
    · cases b <;> simp [b_fits_system, isSys, s_is_row, isRow, isNat, s_is_natural, ixD, at?, okP, h1, show n < 0 by omega]
theorem s_check_system (v : P) : rn (k + 6) 15 [.p v] h = if isSys v = true then .ok (.p .non) h else .exc 1 h := by
  rw [show rn (k + 6) 15 [.p v] h = fin h (exs (rn (k + 5)) sb b_check_system [some (.p v)] []) from run_gc (xs := [v]) (fn := f_check_system.fn) rfl rfl rfl]
  cases e : isSys v <;> simp [b_check_system, s_fits_system, e]
theorem s_is_difference (v : P) : rn (k + 4) 18 [.p v] h = .ok (.p (.bl (isDiff v))) h := by
  rw [show rn (k + 4) 18 [.p v] h = fin h (exs (rn (k + 3)) sb b_is_difference [some (.p v)] []) from run_gc (xs := [v]) (fn := f_is_difference.fn) rfl rfl rfl]
  simp [b_is_difference, s_fits_difference]
theorem s_is_system (v : P) : rn (k + 6) 19 [.p v] h = .ok (.p (.bl (isSys v))) h := by
  rw [show rn (k + 6) 19 [.p v] h = fin h (exs (rn (k + 5)) sb b_is_system [some (.p v)] []) from run_gc (xs := [v]) (fn := f_is_system.fn) rfl rfl rfl]
  simp [b_is_system, s_fits_system]
def isMore (n : Int) : P → Bool
  | .tup rows => rows.all (isDiffN n)
  | _ => false
theorem s_check_more (v : P) (n : Int) : rn (k + 5) 16 [.p (.int n), .p v] h = if isMore n v = true then .ok (.p .non) h else .exc 2 h := by
  rw [show rn (k + 5) 16 [.p (.int n), .p v] h = fin h (exs (rn (k + 4)) sb b_check_more [some (.p (.int n)), some (.p v), none] []) from run_gc (xs := [.int n, v]) (fn := f_check_more.fn) rfl rfl rfl]
  have hcomp : ∀ rows, compV (rn (k + 4)) [some (.p (.int n)), some (.p (.tup rows)), none] false .seq (.nm 2) .nil (.call 13 (.cons (.var 0) (.cons (.var 2) .nil))) [.p (.tup rows)] [] = .ok (.p (.lst (rows.map fun x => .bl (isDiffN n x)))) [] := fun rows => by
    rw [compV_map (g := fun x => .bl (isDiffN n x)) rfl (fun x hx => by simp [item, asg, wipeE, Tg.slots, evc, s_fits_difference_of])]
    exact mkL_false
  cases v <;> try (simp [b_check_more, isMore, isiD, isiP]; done)
  rename_i rows
  cases e : rows.all (isDiffN n) <;> simp [b_check_more, isMore, isiD, isiP, hcomp, biD, e]
def turned : P → P
  | .tup [.int x, .int y, .int c] => .tup [.int y, .int x, .int (-c - 1)]
  | v => v
theorem s_turned_row {v : P} (hv : isDiff v = true) : rn (k + 1) 7 [.p v] h = .ok (.p (turned v)) h := by
  rw [show rn (k + 1) 7 [.p v] h = fin h (exs (rn k) sb b_turned_row [some (.p v)] []) from run_gc (xs := [v]) (fn := f_turned_row.fn) rfl rfl rfl]
  obtain ⟨x, y, c, rfl, _⟩ := isDiff_iff.mp hv
  simp [b_turned_row, turned, ixD, at?, okP, negD, binD, binP, binI, allP, show ¬ line < 3 by decide]
theorem s_contrary (v : P) : rn (k + 4) 20 [.p v] h = if isDiff v = true then .ok (.p (turned v)) h else .exc 2 h := by
  rw [show rn (k + 4) 20 [.p v] h = fin h (exs (rn (k + 3)) sb b_contrary [some (.p v)] []) from run_gc (xs := [v]) (fn := f_contrary.fn) rfl rfl rfl]
  cases e : isDiff v
  · simp [b_contrary, s_fits_difference, e]
  · simp [b_contrary, s_fits_difference, e, s_turned_row e]
def rowsOf : P → List P
  | .tup [_, .tup rows] => rows
  | _ => []
def nOf : P → Int
  | .tup [.int n, _] => n
  | _ => 0
def lenOf : P → Nat
  | .tup xs => xs.length
  | .lst xs => xs.length
  | _ => 0
def itemsP : P → List P
  | .tup xs => xs
  | .lst xs => xs
  | _ => []
theorem s_joined (s v : P) (hl : (rowsOf s).length + (itemsP v).length ≤ line) : rn (k + 7) 21 [.p s, .p v] h = if isSys s = true then (if isMore (nOf s) v = true then .ok (.p (.tup [.int (nOf s), .tup (rowsOf s ++ itemsP v)])) h else .exc 2 h) else .exc 1 h := by
  rw [show rn (k + 7) 21 [.p s, .p v] h = fin h (exs (rn (k + 6)) sb b_joined [some (.p s), some (.p v)] []) from run_gc (xs := [s, v]) (fn := f_joined.fn) rfl rfl rfl]
  cases e : isSys s
  · simp [b_joined, s_check_system, e]
  · obtain ⟨n, rows, rfl, h1, h2⟩ := isSys_iff.mp e
    cases e2 : isMore n v
    · simp [b_joined, s_check_system, e, s_check_more, nOf, e2, ixD, at?, okP]
    · unfold isMore at e2
      split at e2
      · rename_i more
        have e3 : isMore n (.tup more) = true := e2
        have hl : rows.length + more.length ≤ line := hl
        simp [b_joined, s_check_system, e, s_check_more, nOf, e3, ixD, at?, okP, rowsOf, itemsP, binD, binP, hl, allP, show ¬ line < 2 by decide]
      · cases e2
end K00

end
section
set_option Elab.async false
set_option maxRecDepth 100000
set_option linter.all false
set_option maxHeartbeats 4000000
namespace K00
open MP
variable {k : Nat} {h : Hh}
/-! minutes, worlds -/
theorem bi1_len {xs : List P} : bi1 .len (.p (.tup xs)) h = .ok (.p (.int xs.length)) h := rfl

def hd0 (xs : List P) : Bool := match xs with
  | .int i :: _ => decide (i = 0)
  | _ => false
def isMin (n : Int) : P → Bool
  | .tup xs => decide ((xs.length : Int) = n + 1) && (xs.all isInt && hd0 xs)
  | _ => false
theorem isInt_iff {v : P} : isInt v = true ↔ ∃ i, v = .int i := by
  cases v <;> simp [isInt]
theorem all_isInt : ∀ {xs : List P}, xs.all isInt = true → ∃ is : List Int, xs = is.map P.int
  | [], _ => ⟨[], rfl⟩
  | x :: xs, h => by
    simp only [List.all_cons, Bool.and_eq_true] at h
    obtain ⟨i, rfl⟩ := isInt_iff.mp h.1
    obtain ⟨is, rfl⟩ := all_isInt h.2
    exact ⟨i :: is, rfl⟩
theorem map_all_isInt (is : List Int) : (is.map P.int).all isInt = true := by
  simp [isInt]
theorem isMin_iff {n : Int} {v : P} : isMin n v = true ↔ ∃ is : List Int, v = .tup ((0 :: is).map P.int) ∧ (is.length : Int) = n := by
  constructor
  · intro h
    unfold isMin at h
    split at h
    · rename_i xs
      simp only [Bool.and_eq_true, decide_eq_true_eq] at h
      obtain ⟨h1, h2, h3⟩ := h
      obtain ⟨is, rfl⟩ := all_isInt h2
      cases is with
      | nil => simp [hd0] at h3
      | cons i is =>
        simp only [List.map_cons, hd0, decide_eq_true_eq] at h3
        subst h3
        exact ⟨is, rfl, by simp at h1; omega⟩
    · cases h
  · rintro ⟨is, rfl, h⟩
    have h2 := map_all_isInt (0 :: is)
    simp only [isMin, h2, Bool.and_eq_true, decide_eq_true_eq]
    exact ⟨by simp; omega, trivial, by simp [hd0]⟩
theorem hd_of {xs : List P} (h2 : xs.all isInt = true) (ne : xs ≠ []) : ∃ i, at? xs 0 = some (.int i) ∧ hd0 xs = decide (i = 0) := by
  cases xs with
  | nil => exact absurd rfl ne
  | cons x xs =>
    simp only [List.all_cons, Bool.and_eq_true] at h2
    obtain ⟨i, rfl⟩ := isInt_iff.mp h2.1
    exact ⟨i, rfl, rfl⟩
theorem s_fits_minutes (v : P) (n : Int) (hn : 0 ≤ n) : rn (k + 2) 11 [.p (.int n), .p v] h = .ok (.p (.bl (isMin n v))) h := by
  rw [show rn (k + 2) 11 [.p (.int n), .p v] h = fin h (exs (rn (k + 1)) sb b_fits_minutes [some (.p (.int n)), some (.p v), none] []) from run_gc (xs := [.int n, v]) (fn := f_fits_minutes.fn) rfl rfl rfl]
  have hcomp : ∀ xs, compV (rn (k + 1)) [some (.p (.int n)), some (.p (.tup xs)), none] false .seq (.nm 2) .nil (.call 0 (.cons (.var 2) .nil)) [.p (.tup xs)] [] = .ok (.p (.lst (xs.map fun x => .bl (isInt x)))) [] := fun xs => by
    rw [compV_map (g := fun x => .bl (isInt x)) rfl (fun x hx => by simp [item, asg, wipeE, Tg.slots, evc, s_is_integer])]
    exact mkL_false
  cases v <;> try (simp [b_fits_minutes, isMin, isRow, s_is_row, binD, binP, binI]; done)
  rename_i xs
  by_cases h1 : (xs.length : Int) = n + 1
  · cases h2 : xs.all isInt
    · simp [b_fits_minutes, isMin, isRow, s_is_row, binD, binP, binI, h1, hcomp, biD, h2]
    · obtain ⟨i, e1, e2⟩ := hd_of h2 (by rintro rfl; simp at h1; omega)
      simp [b_fits_minutes, isMin, isRow, s_is_row, binD, binP, binI, h1, hcomp, biD, h2, ixD, e1, e2, okP, cmpD, cmpP, eqP]
  · simp [b_fits_minutes, isMin, isRow, s_is_row, binD, binP, binI, h1]
theorem s_law_is_minutes (v : P) (n : Int) (hn : 0 ≤ n) : rn (k + 1) 39 [.p (.int n), .p v] h = .ok (.p (.bl (isMin n v))) h := by
  rw [show rn (k + 1) 39 [.p (.int n), .p v] h = fin h (exs (rn k) sb b_law_is_minutes [some (.p (.int n)), some (.p v), none] []) from run_gc (xs := [.int n, v]) (fn := f_law_is_minutes.fn) rfl rfl rfl]
  have hcomp : ∀ xs, compV (rn k) [some (.p (.int n)), some (.p (.tup xs)), none] false .seq (.nm 2) .nil (.andC (.isi (.var 2) [.int]) (.notC (.isi (.var 2) [.bool]))) [.p (.tup xs)] [] = .ok (.p (.lst (xs.map fun x => .bl (isInt x)))) [] := fun xs => by
    rw [compV_map (g := fun x => .bl (isInt x)) rfl (fun x hx => by cases x <;> simp [item, asg, wipeE, Tg.slots, evc, isiD, isiP, isInt])]
    exact mkL_false
  cases v <;> try (simp [b_law_is_minutes, isMin, isiD, isiP]; done)
  rename_i xs
  by_cases h1 : (xs.length : Int) = n + 1
  · cases h2 : xs.all isInt
    · simp [b_law_is_minutes, isMin, isiD, isiP, binD, binP, binI, h1, hcomp, biD, bi1_len, h2, cmpD, cmpP, eqP]
    · obtain ⟨i, e1, e2⟩ := hd_of h2 (by rintro rfl; simp at h1; omega)
      simp [b_law_is_minutes, isMin, isiD, isiP, binD, binP, binI, h1, hcomp, biD, bi1_len, h2, ixD, e1, e2, okP, cmpD, cmpP, eqP]
  · simp [b_law_is_minutes, isMin, isiD, isiP, binD, binP, binI, biD, bi1_len, h1, cmpD, cmpP, eqP]
end K00

end
section
set_option Elab.async false
set_option maxRecDepth 100000
set_option linter.all false
set_option maxHeartbeats 4000000
namespace K00
open MP
variable {k : Nat} {h : Hh}
/-! rows, chains -/
def rx : P → Int
  | .tup [.int x, _, _] => x
  | _ => 0
def ry : P → Int
  | .tup [_, .int y, _] => y
  | _ => 0
def rc : P → Int
  | .tup [_, _, .int c] => c
  | _ => 0
theorem at3_0 {α : Type} {a b c : α} : at? [a, b, c] 0 = some a := rfl
theorem at3_1 {α : Type} {a b c : α} : at? [a, b, c] 1 = some b := rfl
theorem at3_2 {α : Type} {a b c : α} : at? [a, b, c] 2 = some c := rfl
theorem at2_0 {α : Type} {a b : α} : at? [a, b] 0 = some a := rfl
theorem at2_1 {α : Type} {a b : α} : at? [a, b] 1 = some b := rfl
def RowP (r : P) : Prop := ∃ x y c, r = .tup [.int x, .int y, .int c]
def RowsP (rows : List P) : Prop := ∀ r ∈ rows, RowP r
theorem rows_of {n : Int} {rows : List P} (hr : ∀ r ∈ rows, isDiffN n r = true) : RowsP rows := fun r hm => by
  obtain ⟨x, y, c, e, _⟩ := isDiffN_eq.mp (hr r hm)
  exact ⟨x, y, c, e⟩
def ixOf : P → Nat
  | .int i => i.toNat
  | _ => 0
def rowAt (rows : List P) (v : P) : P := (rows[ixOf v]?).getD .non
theorem at_nat {α : Type} {xs : List α} {i : Int} (h0 : 0 ≤ i) : at? xs i = xs[i.toNat]? := by simp [at?, h0]
theorem isIx_iff {n : Int} {v : P} : isIx n v = true ↔ ∃ i, v = .int i ∧ 0 ≤ i ∧ i < n := by
  cases v <;> simp [isIx]
theorem row_at {rows : List P} {v : P} (hr : RowsP rows) (hv : isIx rows.length v = true) : ∃ i x y c, v = .int i ∧ at? rows i = some (.tup [.int x, .int y, .int c]) ∧ rowAt rows v = .tup [.int x, .int y, .int c] := by
  obtain ⟨i, rfl, h0, h1⟩ := isIx_iff.mp hv
  have hlt : i.toNat < rows.length := by omega
  obtain ⟨x, y, c, e⟩ := hr rows[i.toNat] (List.getElem_mem hlt)
  refine ⟨i, x, y, c, rfl, ?_, ?_⟩
  · rw [at_nat h0, List.getElem?_eq_getElem hlt, e]
  · simp [rowAt, ixOf, List.getElem?_eq_getElem hlt, e]
theorem mem_rangeP {a b : Int} {x : P} (h : x ∈ rangeP a b) : ∃ j : Int, x = .int j ∧ a ≤ j ∧ j < b := by
  unfold rangeP at h
  obtain ⟨i, hi, rfl⟩ := List.mem_map.mp h
  have := List.mem_range.mp hi
  exact ⟨a + i, rfl, by omega, by omega⟩
def valAt (vs : List P) (j : Int) : P := (at? vs j).getD .non
theorem val_at {vs : List P} {j : Int} (h0 : 0 ≤ j) (h1 : j < vs.length) : at? vs j = some (valAt vs j) ∧ valAt vs j ∈ vs := by
  have hlt : j.toNat < vs.length := by omega
  unfold valAt
  rw [at_nat h0, List.getElem?_eq_getElem hlt]
  exact ⟨rfl, List.getElem_mem hlt⟩
def link (rows vs : List P) (j : P) : Bool := match j with
  | .int j => decide (ry (rowAt rows (valAt vs j)) = rx (rowAt rows (valAt vs (j + 1))))
  | _ => false
def isChain (rows : List P) : P → Bool
  | .tup vs => !vs.isEmpty && (vs.all (isIx rows.length) && (rangeP 0 (vs.length - 1)).all (link rows vs))
  | _ => false
theorem rgOk_small {n : Int} (h0 : 0 ≤ n) (h1 : n ≤ 1000000) : rgOk 0 n = true := by
  simp only [rgOk, small, line, Bool.and_eq_true, decide_eq_true_eq]
  refine ⟨⟨⟨by decide, by decide⟩, ⟨?_, ?_⟩⟩, by omega⟩
  · have : (-(2 ^ 62 : Int)) < 0 := by decide
    omega
  · have : (1000000 : Int) < 2 ^ 62 := by decide
    omega
/-- the item of both programs: rows[value[k]][1] == rows[value[k + 1]][0] -/
theorem link_item {rows vs : List P} {k : Nat} {ρ : En} {i : Nat} (hr : RowsP rows) (hv : vs.all (isIx rows.length) = true) (e0 : (wipeE ρ [i])[0]? = some (some (.p (.tup rows)))) (e1 : (wipeE ρ [i])[1]? = some (some (.p (.tup vs)))) (hi : i ≠ 0) (hi1 : i ≠ 1) (hl : i < ρ.length) {x : P} (hx : x ∈ rangeP 0 ((vs.length : Int) - 1)) :
    item (rn k) ρ (.nm i) .nil (.cmp .eq (.ix (.ix (.var 0) (.ix (.var 1) (.var i))) (.cint 1)) (.ix (.ix (.var 0) (.ix (.var 1) (.bin .add (.var i) (.cint 1)))) (.cint 0))) x h = .ok (some (.p (.bl (link rows vs x)))) h := by
  obtain ⟨j, rfl, h0, h1⟩ := mem_rangeP hx
  have f0 : ((wipeE ρ [i]).set i (some (.p (.int j))))[0]? = some (some (.p (.tup rows))) := by rw [List.getElem?_set_ne hi, e0]
  have f1 : ((wipeE ρ [i]).set i (some (.p (.int j))))[1]? = some (some (.p (.tup vs))) := by rw [List.getElem?_set_ne hi1, e1]
  have f2 : ((wipeE ρ [i]).set i (some (.p (.int j))))[i]? = some (some (.p (.int j))) := List.getElem?_set_self (by simpa [wipeE] using hl)
  obtain ⟨g1, m1⟩ := val_at (vs := vs) (j := j) h0 (by omega)
  obtain ⟨g2, m2⟩ := val_at (vs := vs) (j := j + 1) (by omega) (by omega)
  obtain ⟨i1, x1, y1, c1, a1, b1, d1⟩ := row_at hr (List.all_eq_true.mp hv _ m1)
  obtain ⟨i2, x2, y2, c2, a2, b2, d2⟩ := row_at hr (List.all_eq_true.mp hv _ m2)
  simp [item, asg, Tg.slots, evc, f0, f1, f2, binD, binP, binI, ixD, g1, g2, okP, a1, a2, b1, b2, cmpD, cmpP, eqP]
  simp [link, d1, d2, ry, rx, at?]
theorem s_is_chain_of (v : P) (rows : List P) (hr : RowsP rows) (hl : lenOf v ≤ 1000000) : rn (k + 3) 8 [.p (.tup rows), .p v] h = .ok (.p (.bl (isChain rows v))) h := by
  rw [show rn (k + 3) 8 [.p (.tup rows), .p v] h = fin h (exs (rn (k + 2)) sb b_is_chain_of [some (.p (.tup rows)), some (.p v), none, none] []) from run_gc (xs := [.tup rows, v]) (fn := f_is_chain_of.fn) rfl rfl rfl]
  cases v <;> try (simp [b_is_chain_of, isChain, isiD, isiP]; done)
  rename_i vs
  have h1 : compV (rn (k + 2)) [some (.p (.tup rows)), some (.p (.tup vs)), none, none] false .seq (.nm 3) .nil (.andC (.call 1 (.cons (.var 3) .nil)) (.cmp .lt (.var 3) (.bi .len (.cons (.var 0) .nil)))) [.p (.tup vs)] [] = .ok (.p (.lst (vs.map fun x => .bl (isIx rows.length x)))) [] := by
    rw [compV_map (g := fun x => .bl (isIx rows.length x)) rfl (fun x hx => by
      cases x <;> simp [item, asg, wipeE, Tg.slots, evc, s_is_natural, isNat, isIx, biD, bi1_len, cmpD, cmpP]
      rename_i i
      by_cases hi : 0 ≤ i
      · simp [hi]
      · simp [hi])]
    exact mkL_false
  by_cases hn : vs = []
  · subst hn
    simp [b_is_chain_of, isChain, isiD, isiP, cmpD, cmpP, eqP, allP]
  · have he : vs.isEmpty = false := by cases vs <;> simp_all
    cases hall : vs.all (isIx rows.length)
    · simp [b_is_chain_of, isChain, isiD, isiP, cmpD, cmpP, eqP, allP, he, hn, h1, biD, hall]
    · have hp : 0 < vs.length := by cases vs <;> simp_all
      have hk : rgOk 0 ((vs.length : Int) - 1) = true := rgOk_small (by omega) (by have : vs.length ≤ 1000000 := hl; omega)
      have h2 : compV (rn (k + 2)) [some (.p (.tup rows)), some (.p (.tup vs)), none, none] false .range (.nm 2) .nil (.cmp .eq (.ix (.ix (.var 0) (.ix (.var 1) (.var 2))) (.cint 1)) (.ix (.ix (.var 0) (.ix (.var 1) (.bin .add (.var 2) (.cint 1)))) (.cint 0))) [.p (.int ((vs.length : Int) - 1))] [] = .ok (.p (.lst ((rangeP 0 ((vs.length : Int) - 1)).map fun x => .bl (link rows vs x)))) [] := by
        rw [compV_map (g := fun x => .bl (link rows vs x)) (by simp [itemsOf, hk]) (fun x hx => link_item hr hall rfl rfl (by decide) (by decide) (by simp) hx)]
        exact mkL_false
      simp [b_is_chain_of, isChain, isiD, isiP, cmpD, cmpP, eqP, allP, he, hn, h1, biD, hall, bi1_len, binD, binP, binI, h2]
/-- the law's test of indices -/
theorem ix_item {ρ : En} {i : Nat} {rows : List P} {k : Nat} (e0 : (wipeE ρ [i])[0]? = some (some (.p (.tup rows)))) (hi : i ≠ 0) (hl : i < ρ.length) {x : P} : item (rn (k + 1)) ρ (.nm i) .nil (.call 32 (.cons (.var i) (.cons (.bi .len (.cons (.var 0) .nil)) .nil))) x h = .ok (some (.p (.bl (isIx rows.length x)))) h := by
  have f0 : ((wipeE ρ [i]).set i (some (.p x)))[0]? = some (some (.p (.tup rows))) := by rw [List.getElem?_set_ne hi, e0]
  have f2 : ((wipeE ρ [i]).set i (some (.p x)))[i]? = some (some (.p x)) := List.getElem?_set_self (by simpa [wipeE] using hl)
  simp [item, asg, Tg.slots, evc, f0, f2, biD, bi1_len, s_law_is_index]
theorem s_law_is_chain (v : P) (rows : List P) (hr : RowsP rows) (hl : lenOf v ≤ 1000000) : rn (k + 3) 38 [.p (.tup rows), .p v] h = .ok (.p (.bl (isChain rows v))) h := by
  rw [show rn (k + 3) 38 [.p (.tup rows), .p v] h = fin h (exs (rn (k + 2)) sb b_law_is_chain [some (.p (.tup rows)), some (.p v), none] []) from run_gc (xs := [.tup rows, v]) (fn := f_law_is_chain.fn) rfl rfl rfl]
  cases v <;> try (simp [b_law_is_chain, isChain, isiD, isiP]; done)
  rename_i vs
  have h1 : compV (rn (k + 2)) [some (.p (.tup rows)), some (.p (.tup vs)), none] false .seq (.nm 2) .nil (.call 32 (.cons (.var 2) (.cons (.bi .len (.cons (.var 0) .nil)) .nil))) [.p (.tup vs)] [] = .ok (.p (.lst (vs.map fun x => .bl (isIx rows.length x)))) [] := by
    rw [compV_map (g := fun x => .bl (isIx rows.length x)) rfl (fun x hx => ix_item (rows := rows) rfl (by decide) (by simp))]
    exact mkL_false
  by_cases hn : vs = []
  · subst hn
    simp [b_law_is_chain, isChain, isiD, isiP, cmpD, cmpP, eqP, allP]
  · have he : vs.isEmpty = false := by cases vs <;> simp_all
    cases hall : vs.all (isIx rows.length)
    · simp [b_law_is_chain, isChain, isiD, isiP, cmpD, cmpP, eqP, allP, he, hn, h1, biD, hall]
    · have hp : 0 < vs.length := by cases vs <;> simp_all
      have hk : rgOk 0 ((vs.length : Int) - 1) = true := rgOk_small (by omega) (by have : vs.length ≤ 1000000 := hl; omega)
      have h2 : compV (rn (k + 2)) [some (.p (.tup rows)), some (.p (.tup vs)), none] false .range (.nm 2) .nil (.cmp .eq (.ix (.ix (.var 0) (.ix (.var 1) (.var 2))) (.cint 1)) (.ix (.ix (.var 0) (.ix (.var 1) (.bin .add (.var 2) (.cint 1)))) (.cint 0))) [.p (.int ((vs.length : Int) - 1))] [] = .ok (.p (.lst ((rangeP 0 ((vs.length : Int) - 1)).map fun x => .bl (link rows vs x)))) [] := by
        rw [compV_map (g := fun x => .bl (link rows vs x)) (by simp [itemsOf, hk]) (fun x hx => link_item hr hall rfl rfl (by decide) (by decide) (by simp) hx)]
        exact mkL_false
      simp [b_law_is_chain, isChain, isiD, isiP, cmpD, cmpP, eqP, allP, he, hn, h1, biD, hall, bi1_len, binD, binP, binI, h2]
/-! sums of rows -/
def total (rows vs : List P) : Int := (vs.map fun v => rc (rowAt rows v)).sum
theorem sum_item {ρ : En} {i : Nat} {rows : List P} {k : Nat} (hr : RowsP rows) (e0 : (wipeE ρ [i])[0]? = some (some (.p (.tup rows)))) (hi : i ≠ 0) (hl : i < ρ.length) {x : P} (hx : isIx rows.length x = true) : item (rn k) ρ (.nm i) .nil (.ix (.ix (.var 0) (.var i)) (.cint 2)) x h = .ok (some (.p (.int (rc (rowAt rows x))))) h := by
  have f0 : ((wipeE ρ [i]).set i (some (.p x)))[0]? = some (some (.p (.tup rows))) := by rw [List.getElem?_set_ne hi, e0]
  have f2 : ((wipeE ρ [i]).set i (some (.p x)))[i]? = some (some (.p x)) := List.getElem?_set_self (by simpa [wipeE] using hl)
  obtain ⟨j, x1, y1, c1, rfl, b1, d1⟩ := row_at hr hx
  simp [item, asg, Tg.slots, evc, f0, f2, ixD, b1, okP, d1, rc]
  simp [at?]
theorem isChain_all {rows vs : List P} (hc : isChain rows (.tup vs) = true) : vs.all (isIx rows.length) = true := by
  simp only [isChain, Bool.and_eq_true] at hc
  exact hc.2.1
theorem s_chain_total (rows vs : List P) (hr : RowsP rows) (hv : vs.all (isIx rows.length) = true) : rn (k + 1) 9 [.p (.tup rows), .p (.tup vs)] h = .ok (.p (.int (total rows vs))) h := by
  rw [show rn (k + 1) 9 [.p (.tup rows), .p (.tup vs)] h = fin h (exs (rn k) sb b_chain_total [some (.p (.tup rows)), some (.p (.tup vs)), none] []) from run_gc (xs := [.tup rows, .tup vs]) (fn := f_chain_total.fn) rfl rfl rfl]
  have h1 : compV (rn k) [some (.p (.tup rows)), some (.p (.tup vs)), none] false .seq (.nm 2) .nil (.ix (.ix (.var 0) (.var 2)) (.cint 2)) [.p (.tup vs)] [] = .ok (.p (.lst (vs.map fun x => .int (rc (rowAt rows x))))) [] := by
    rw [compV_map (g := fun x => .int (rc (rowAt rows x))) rfl (fun x hx => sum_item hr rfl (by decide) (by simp) (List.all_eq_true.mp hv x hx))]
    exact mkL_false
  simp [b_chain_total, h1, biD, total]
theorem s_check_chain (v : P) (rows : List P) (hr : RowsP rows) (hl : lenOf v ≤ 1000000) : rn (k + 4) 17 [.p (.tup rows), .p v] h = if isChain rows v = true then .ok (.p .non) h else .exc 4 h := by
  rw [show rn (k + 4) 17 [.p (.tup rows), .p v] h = fin h (exs (rn (k + 3)) sb b_check_chain [some (.p (.tup rows)), some (.p v)] []) from run_gc (xs := [.tup rows, v]) (fn := f_check_chain.fn) rfl rfl rfl]
  cases e : isChain rows v <;> simp [b_check_chain, s_is_chain_of v rows hr hl, e]
/-- a ring that no world keeps -/
def isBad (rows : List P) (v : P) : Bool := isChain rows v && (match v with
  | .tup vs => decide (ry (rowAt rows (valAt vs (-1))) = rx (rowAt rows (valAt vs 0))) && decide (total rows vs < 0)
  | _ => false)
theorem val_last {vs : List P} (hn : vs ≠ []) : at? vs (-1) = some (valAt vs (-1)) ∧ valAt vs (-1) ∈ vs := by
  have hp : 0 < vs.length := by cases vs <;> simp_all
  have e : at? vs (-1) = vs[vs.length - 1]? := by
    unfold at?
    rw [if_neg (by decide), if_pos (by omega)]
    congr 1
    omega
  unfold valAt
  rw [e, List.getElem?_eq_getElem (by omega)]
  exact ⟨rfl, List.getElem_mem (by omega)⟩
theorem isChain_ne {rows vs : List P} (hc : isChain rows (.tup vs) = true) : vs ≠ [] := by
  rintro rfl
  simp [isChain] at hc
theorem s_is_bad (v : P) (rows : List P) (hr : RowsP rows) (hl : lenOf v ≤ 1000000) : rn (k + 4) 10 [.p (.tup rows), .p v] h = .ok (.p (.bl (isBad rows v))) h := by
  rw [show rn (k + 4) 10 [.p (.tup rows), .p v] h = fin h (exs (rn (k + 3)) sb b_is_bad [some (.p (.tup rows)), some (.p v)] []) from run_gc (xs := [.tup rows, v]) (fn := f_is_bad.fn) rfl rfl rfl]
  cases hc : isChain rows v
  · simp [b_is_bad, s_is_chain_of v rows hr hl, hc, isBad]
  · cases v <;> try (simp [isChain] at hc; done)
    rename_i vs
    have hall := isChain_all hc
    have hn := isChain_ne hc
    obtain ⟨g1, m1⟩ := val_last hn
    obtain ⟨g2, m2⟩ := val_at (vs := vs) (j := 0) (by decide) (by have : 0 < vs.length := by cases vs <;> simp_all
                                                                  omega)
    obtain ⟨i1, x1, y1, c1, a1, b1, d1⟩ := row_at hr (List.all_eq_true.mp hall _ m1)
    obtain ⟨i2, x2, y2, c2, a2, b2, d2⟩ := row_at hr (List.all_eq_true.mp hall _ m2)
    rw [a1] at d1
    rw [a2] at d2
    by_cases he : y1 = x2
    · subst he
      simp [b_is_bad, s_is_chain_of _ rows hr hl, hc, isBad, ixD, negD, g1, g2, a1, a2, b1, b2, okP, at3_0, at3_1, cmpD, cmpP, eqP, d1, d2, ry, rx, s_chain_total _ _ hr hall]
    · simp [b_is_bad, s_is_chain_of _ rows hr hl, hc, isBad, ixD, negD, g1, g2, a1, a2, b1, b2, okP, at3_0, at3_1, cmpD, cmpP, eqP, d1, d2, ry, rx, he]
end K00

end
section
set_option Elab.async false
set_option maxRecDepth 100000
set_option linter.all false
set_option maxHeartbeats 4000000
namespace K00
open MP
variable {k : Nat} {h : Hh}
theorem int_comp {ρ : En} {i : Nat} {k : Nat} (hl : i < ρ.length) {x : P} : item (rn k) ρ (.nm i) .nil (.andC (.isi (.var i) [.int]) (.notC (.isi (.var i) [.bool]))) x h = .ok (some (.p (.bl (isInt x)))) h := by
  have f2 : ((wipeE ρ [i]).set i (some (.p x)))[i]? = some (some (.p x)) := List.getElem?_set_self (by simpa [wipeE] using hl)
  cases x <;> simp [item, asg, Tg.slots, evc, f2, isiD, isiP, isInt]
theorem three {xs : List P} (h3 : xs.length = 3) (hi : xs.all isInt = true) : ∃ a b c, xs = [.int a, .int b, .int c] := by
  obtain ⟨is, rfl⟩ := all_isInt hi
  match is, h3 with
  | [a, b, c], _ => exact ⟨a, b, c, rfl⟩
theorem isDiff_no {xs : List P} (hh : ¬ (xs.length = 3 ∧ xs.all isInt = true)) : isDiff (.tup xs) = false := by
  cases e : isDiff (.tup xs) with
  | false => rfl
  | true =>
    obtain ⟨x, y, c, e2, _⟩ := isDiff_iff.mp e
    cases e2
    exact absurd ⟨rfl, rfl⟩ hh
theorem isDiffN_no {n : Int} {xs : List P} (hh : ¬ (xs.length = 3 ∧ xs.all isInt = true)) : isDiffN n (.tup xs) = false := by
  cases e : isDiffN n (.tup xs) with
  | false => rfl
  | true =>
    obtain ⟨x, y, c, e2, _⟩ := isDiffN_eq.mp e
    cases e2
    exact absurd ⟨rfl, rfl⟩ hh
theorem s_law_is_diff0 (v : P) : rn (k + 1) 36 [.p v, .p .non] h = .ok (.p (.bl (isDiff v))) h := by
  rw [show rn (k + 1) 36 [.p v, .p .non] h = fin h (exs (rn k) sb b_law_is_diff [some (.p v), some (.p .non), none] []) from run_gc (xs := [v, .non]) (fn := f_law_is_diff.fn) rfl rfl rfl]
  cases v <;> try (simp [b_law_is_diff, isDiff, isiD, isiP]; done)
  rename_i xs
  have hc : compV (rn k) [some (.p (.tup xs)), some (.p .non), none] false .seq (.nm 2) .nil (.andC (.isi (.var 2) [.int]) (.notC (.isi (.var 2) [.bool]))) [.p (.tup xs)] [] = .ok (.p (.lst (xs.map fun x => .bl (isInt x)))) [] := by
    rw [compV_map (g := fun x => .bl (isInt x)) rfl (fun x hx => int_comp (by simp))]
    exact mkL_false
  by_cases h3 : xs.length = 3
  · cases hi : xs.all isInt
    · simp [b_law_is_diff, isDiff_no (xs := xs) (by simp [hi]), isiD, isiP, biD, bi1_len, cmpD, cmpP, eqP, h3, hc, hi]
    · obtain ⟨a, b, c, rfl⟩ := three h3 hi
      simp [b_law_is_diff, isDiff, isiD, isiP, biD, bi1_len, cmpD, cmpP, eqP, hc, isInt, bi1, boolsP, okP, ixD, at3_0, at3_1]
      by_cases h1 : 0 ≤ a
      · by_cases h2 : 0 ≤ b
        · by_cases h4 : a = b <;> simp [h1, h2, h4]
        · simp [h1, h2]
      · simp [h1]
  · have h3' : ¬ ((xs.length : Int) = 3) := by omega
    simp [b_law_is_diff, isDiff_no (xs := xs) (by simp [h3]), isiD, isiP, biD, bi1_len, cmpD, cmpP, eqP, h3']
theorem s_law_is_diff (v : P) (n : Int) : rn (k + 1) 36 [.p v, .p (.int n)] h = .ok (.p (.bl (isDiffN n v))) h := by
  rw [show rn (k + 1) 36 [.p v, .p (.int n)] h = fin h (exs (rn k) sb b_law_is_diff [some (.p v), some (.p (.int n)), none] []) from run_gc (xs := [v, .int n]) (fn := f_law_is_diff.fn) rfl rfl rfl]
  cases v <;> try (simp [b_law_is_diff, isDiffN, isiD, isiP]; done)
  rename_i xs
  have hc : compV (rn k) [some (.p (.tup xs)), some (.p (.int n)), none] false .seq (.nm 2) .nil (.andC (.isi (.var 2) [.int]) (.notC (.isi (.var 2) [.bool]))) [.p (.tup xs)] [] = .ok (.p (.lst (xs.map fun x => .bl (isInt x)))) [] := by
    rw [compV_map (g := fun x => .bl (isInt x)) rfl (fun x hx => int_comp (by simp))]
    exact mkL_false
  by_cases h3 : xs.length = 3
  · cases hi : xs.all isInt
    · simp [b_law_is_diff, isDiffN_no (xs := xs) (by simp [hi]), isiD, isiP, biD, bi1_len, cmpD, cmpP, eqP, h3, hc, hi]
    · obtain ⟨a, b, c, rfl⟩ := three h3 hi
      simp [b_law_is_diff, isDiffN, isiD, isiP, biD, bi1_len, cmpD, cmpP, eqP, hc, isInt, bi1, boolsP, okP, ixD, at3_0, at3_1]
      by_cases h1 : 0 ≤ a
      · by_cases h2 : 0 ≤ b
        · by_cases h4 : a = b
          · simp [h1, h2, h4]
          · by_cases h5 : a ≤ n <;> simp [h1, h2, h4, h5]
        · simp [h1, h2]
      · simp [h1]
  · have h3' : ¬ ((xs.length : Int) = 3) := by omega
    simp [b_law_is_diff, isDiffN_no (xs := xs) (by simp [h3]), isiD, isiP, biD, bi1_len, cmpD, cmpP, eqP, h3']
def big : Int := 10 ^ 64
theorem pow64 : binI .pow 10 64 = some big := by decide
theorem isSys_no {xs : List P} (hh : xs.length ≠ 2) : isSys (.tup xs) = false := by
  cases e : isSys (.tup xs) with
  | false => rfl
  | true =>
    obtain ⟨n, rows, e2, _⟩ := isSys_iff.mp e
    cases e2
    exact absurd rfl hh
theorem s_law_is_system (v : P) (hb : nOf v < big) : rn (k + 3) 37 [.p v] h = .ok (.p (.bl (isSys v))) h := by
  rw [show rn (k + 3) 37 [.p v] h = fin h (exs (rn (k + 2)) sb b_law_is_system [some (.p v), none] []) from run_gc (xs := [v]) (fn := f_law_is_system.fn) rfl rfl rfl]
  have hcomp : ∀ n rows, compV (rn (k + 2)) [some (.p (.tup [.int n, .tup rows])), none] false .seq (.nm 1) .nil (.call 36 (.cons (.var 1) (.cons (.ix (.var 0) (.cint 0)) .nil))) [.p (.tup rows)] [] = .ok (.p (.lst (rows.map fun x => .bl (isDiffN n x)))) [] := fun n rows => by
    rw [compV_map (g := fun x => .bl (isDiffN n x)) rfl (fun x hx => by simp [item, asg, wipeE, Tg.slots, evc, s_law_is_diff, ixD, at2_0, okP])]
    exact mkL_false
  cases v <;> try (simp [b_law_is_system, isSys, isiD, isiP]; done)
  rename_i xs
  by_cases h2 : xs.length = 2
  · match xs, h2 with
    | [a, b], _ =>
      cases hx : isIx big a
      · have e : isSys (.tup [a, b]) = false := by
          cases e : isSys (.tup [a, b]) with
          | false => rfl
          | true =>
            obtain ⟨n, rows, e2, h0, _⟩ := isSys_iff.mp e
            cases e2
            have hb : n < big := hb
            simp [isIx, h0, hb] at hx
        simp [b_law_is_system, e, isiD, isiP, biD, bi1_len, cmpD, cmpP, eqP, ixD, at2_0, okP, binD, binP, pow64, s_law_is_index, hx]
      · obtain ⟨n, rfl, h0, h1⟩ := isIx_iff.mp hx
        cases b <;> try (simp [b_law_is_system, isSys, isiD, isiP, biD, bi1_len, cmpD, cmpP, eqP, ixD, at2_0, at2_1, okP, binD, binP, pow64, s_law_is_index, hx]; done)
        rename_i rows
        simp [b_law_is_system, isSys, isiD, isiP, biD, bi1_len, cmpD, cmpP, eqP, ixD, at2_0, at2_1, okP, binD, binP, pow64, s_law_is_index, hx, h0, hcomp]
  · have h2' : ¬ ((xs.length : Int) = 2) := by omega
    simp [b_law_is_system, isSys_no h2, isiD, isiP, biD, bi1_len, cmpD, cmpP, eqP, h2']
end K00

end
section
set_option Elab.async false
set_option maxRecDepth 100000
set_option linter.all false
set_option maxHeartbeats 4000000
namespace K00
open MP
variable {k : Nat} {h : Hh}
/-! the law's test of a ring -/
theorem forL_test {body : En → Hh → X} {tg : Tg} {test : P → Bool} {rho : Option P → En} {hh : Hh} {d : D} : ∀ {xs : List P} {o : Option P}, (∀ x ∈ xs, ∀ o : Option P, ∃ ρ1, asg tg x (rho o) = some ρ1 ∧ body ρ1 hh = if test x = true then .nx (rho (some x)) hh else .ret d hh) →
    ∃ o', forL body tg xs (rho o) hh = if xs.all test = true then .nx (rho o') hh else .ret d hh
  | [], o, _ => ⟨o, by simp [forL]⟩
  | x :: xs, o, hb => by
    obtain ⟨ρ1, e1, e2⟩ := hb x List.mem_cons_self o
    obtain ⟨o', e3⟩ := forL_test (xs := xs) (o := some x) fun y hy => hb y (List.mem_cons_of_mem x hy)
    refine ⟨o', ?_⟩
    simp only [forL, e1, e2]
    cases ht : test x
    · simp [ht]
    · simp [ht, e3]
/-- link round the ring -/
def linkM (rows vs : List P) (j : P) : Bool := match j with
  | .int j => decide (ry (rowAt rows (valAt vs j)) = rx (rowAt rows (valAt vs ((j + 1) % vs.length))))
  | _ => false
theorem linkM_all {rows vs : List P} (hn : vs ≠ []) : (rangeP 0 vs.length).all (linkM rows vs) = ((rangeP 0 ((vs.length : Int) - 1)).all (link rows vs) && decide (ry (rowAt rows (valAt vs (-1))) = rx (rowAt rows (valAt vs 0)))) := by
  have hp : 0 < vs.length := by cases vs <;> simp_all
  have e1 : rangeP 0 (vs.length : Int) = rangeP 0 ((vs.length : Int) - 1) ++ [.int ((vs.length : Int) - 1)] := by
    unfold rangeP
    have : ((vs.length : Int) - 0).toNat = ((vs.length : Int) - 1 - 0).toNat + 1 := by omega
    rw [this, List.range_succ, List.map_append]
    congr 1
    simp
    omega
  have e2 : (rangeP 0 ((vs.length : Int) - 1)).all (linkM rows vs) = (rangeP 0 ((vs.length : Int) - 1)).all (link rows vs) := by
    rw [Bool.eq_iff_iff, List.all_eq_true, List.all_eq_true]
    have : ∀ x ∈ rangeP 0 ((vs.length : Int) - 1), linkM rows vs x = link rows vs x := fun x hx => by
      obtain ⟨j, rfl, h0, h1⟩ := mem_rangeP hx
      simp only [linkM, link]
      rw [Int.emod_eq_of_lt (by omega) (by omega)]
    exact ⟨fun hh x hx => (this x hx) ▸ hh x hx, fun hh x hx => (this x hx).symm ▸ hh x hx⟩
  have e3 : valAt vs (-1) = valAt vs ((vs.length : Int) - 1) := by
    unfold valAt at?
    rw [if_neg (by decide), if_pos (by omega), if_pos (by omega)]
    congr 2
  have e4 : ((vs.length : Int) - 1 + 1) % (vs.length : Int) = 0 := by
    rw [show (vs.length : Int) - 1 + 1 = vs.length by omega]
    exact Int.emod_self
  rw [e1, List.all_append, e2]
  simp only [List.all_cons, List.all_nil, Bool.and_true, linkM, e4, e3]
theorem bad_loop {rows vs : List P} (hr : RowsP rows) (hall : vs.all (isIx rows.length) = true) (hp : 0 < vs.length) (hk : rgOk 0 (vs.length : Int) = true) : ∃ o : Option P, ex (rn (k + 2)) sb (.forS .range (.cons (.bi .len (.cons (.var 1) .nil)) .nil) (.nm 2)
    (.cons (.iff (.cmp .ne (.ix (.ix (.var 0) (.ix (.var 1) (.var 2))) (.cint 1)) (.ix (.ix (.var 0) (.ix (.var 1) (.bin .mod (.bin .add (.var 2) (.cint 1)) (.bi .len (.cons (.var 1) .nil))))) (.cint 0))) (.cons (.ret (.cbl false)) .nil) .nil) .nil)) [some (.p (.tup rows)), some (.p (.tup vs)), none] [] = if (rangeP 0 vs.length).all (linkM rows vs) = true then .nx [some (.p (.tup rows)), some (.p (.tup vs)), o.map D.p] [] else .ret (.p (.bl false)) [] := by
  rw [ex_for_items (ds := [.p (.int vs.length)]) (h1 := []) (xs := rangeP 0 vs.length) (by simp [biD, bi1_len]) (by simp [itemsOf, hk])]
  refine forL_test (rho := fun o : Option P => [some (.p (.tup rows)), some (.p (.tup vs)), o.map D.p]) (o := none) fun x hx o => ⟨[some (.p (.tup rows)), some (.p (.tup vs)), some (.p x)], rfl, ?_⟩
  obtain ⟨j, rfl, h0, hj⟩ := mem_rangeP hx
  have hm0 : 0 ≤ (j + 1) % (vs.length : Int) := Int.emod_nonneg _ (by omega)
  have hm1 : (j + 1) % (vs.length : Int) < vs.length := Int.emod_lt_of_pos _ (by omega)
  obtain ⟨g1, m1⟩ := val_at (vs := vs) (j := j) h0 hj
  obtain ⟨g2, m2⟩ := val_at (vs := vs) (j := (j + 1) % vs.length) hm0 hm1
  obtain ⟨i1, x1, y1, c1, a1, b1, d1⟩ := row_at hr (List.all_eq_true.mp hall _ m1)
  obtain ⟨i2, x2, y2, c2, a2, b2, d2⟩ := row_at hr (List.all_eq_true.mp hall _ m2)
  have hlt : (0 : Int) < vs.length := by omega
  rw [a1] at d1
  rw [a2] at d2
  by_cases hxy : y1 = x2
  · subst hxy
    simp [linkM, d1, d2, ry, rx, binD, binP, binI, biD, bi1_len, hp, ixD, g1, g2, a1, a2, b1, b2, okP, at3_0, at3_1, cmpD, cmpP, eqP]
  · simp [linkM, d1, d2, ry, rx, binD, binP, binI, biD, bi1_len, hp, ixD, g1, g2, a1, a2, b1, b2, okP, at3_0, at3_1, cmpD, cmpP, eqP, hxy]
theorem s_law_bad_ring (v : P) (rows : List P) (hr : RowsP rows) (hl : lenOf v ≤ 1000000) : rn (k + 3) 33 [.p (.tup rows), .p v] h = .ok (.p (.bl (isBad rows v))) h := by
  rw [show rn (k + 3) 33 [.p (.tup rows), .p v] h = fin h (exs (rn (k + 2)) sb b_law_bad_ring [some (.p (.tup rows)), some (.p v), none] []) from run_gc (xs := [.tup rows, v]) (fn := f_law_bad_ring.fn) rfl rfl rfl]
  cases v <;> try (simp [b_law_bad_ring, isBad, isChain, isiD, isiP]; done)
  rename_i vs
  have h1 : compV (rn (k + 2)) [some (.p (.tup rows)), some (.p (.tup vs)), none] false .seq (.nm 2) .nil (.call 32 (.cons (.var 2) (.cons (.bi .len (.cons (.var 0) .nil)) .nil))) [.p (.tup vs)] [] = .ok (.p (.lst (vs.map fun x => .bl (isIx rows.length x)))) [] := by
    rw [compV_map (g := fun x => .bl (isIx rows.length x)) rfl (fun x hx => ix_item (rows := rows) rfl (by decide) (by simp))]
    exact mkL_false
  by_cases hn : vs = []
  · subst hn
    simp [b_law_bad_ring, isBad, isChain, isiD, isiP, cmpD, cmpP, eqP, allP]
  · have he : vs.isEmpty = false := by cases vs <;> simp_all
    cases hall : vs.all (isIx rows.length)
    · simp [b_law_bad_ring, isBad, isChain, isiD, isiP, cmpD, cmpP, eqP, allP, he, hn, h1, biD, hall]
    · have hp : 0 < vs.length := by cases vs <;> simp_all
      have hk : rgOk 0 (vs.length : Int) = true := rgOk_small (by omega) (by have : vs.length ≤ 1000000 := hl; omega)
      have hsum : ∀ o : Option P, compV (rn (k + 2)) [some (.p (.tup rows)), some (.p (.tup vs)), o.map D.p] false .seq (.nm 2) .nil (.ix (.ix (.var 0) (.var 2)) (.cint 2)) [.p (.tup vs)] [] = .ok (.p (.lst (vs.map fun x => .int (rc (rowAt rows x))))) [] := fun o => by
        rw [compV_map (g := fun x => .int (rc (rowAt rows x))) rfl (fun x hx => sum_item hr rfl (by decide) (by simp) (List.all_eq_true.mp hall x hx))]
        exact mkL_false
      obtain ⟨o, hfor⟩ := bad_loop (k := k) hr hall hp hk
      have hb : isBad rows (.tup vs) = ((rangeP 0 vs.length).all (linkM rows vs) && decide (total rows vs < 0)) := by
        rw [linkM_all hn]
        simp only [isBad, isChain, he, hall, Bool.not_false, Bool.true_and, Bool.and_assoc]
      rw [hb]
      cases hA : (rangeP 0 vs.length).all (linkM rows vs)
      · simp [b_law_bad_ring, isiD, isiP, cmpD, cmpP, eqP, allP, he, hn, h1, biD, hall, hfor, hA]
      · simp [b_law_bad_ring, isiD, isiP, cmpD, cmpP, eqP, allP, he, hn, h1, biD, hall, hfor, hA, hsum]
        exact Iff.rfl
end K00

end
section
set_option Elab.async false
set_option maxRecDepth 100000
set_option linter.all false
set_option maxHeartbeats 4000000
namespace K00
open MP
variable {k : Nat} {h : Hh}
/-! worlds -/
def tv (ts : List P) (i : Int) : Int := match at? ts i with
  | some (.int t) => t
  | _ => 0
def fails (ts : List P) (r : P) : Bool := decide (tv ts (rx r) - tv ts (ry r) > rc r)
/-- the rows and the minutes fit -/
structure Fit (n : Int) (rows ts : List P) : Prop where
  rows : ∀ r ∈ rows, isDiffN n r = true
  allI : ts.all isInt = true
  len : (ts.length : Int) = n + 1
theorem tv_at {ts : List P} {n i : Int} (hi : ts.all isInt = true) (hl : (ts.length : Int) = n + 1) (h0 : 0 ≤ i) (h1 : i ≤ n) : at? ts i = some (.int (tv ts i)) := by
  obtain ⟨g, m⟩ := val_at (vs := ts) (j := i) h0 (by omega)
  obtain ⟨t, e⟩ := isInt_iff.mp (List.all_eq_true.mp hi _ m)
  rw [e] at g
  simp [tv, g]
theorem fit_row {n : Int} {rows ts : List P} (F : Fit n rows ts) {r : P} (hr : r ∈ rows) : ∃ x y c, r = .tup [.int x, .int y, .int c] ∧ at? ts x = some (.int (tv ts x)) ∧ at? ts y = some (.int (tv ts y)) := by
  obtain ⟨x, y, c, e, h0, h1, _, h2, h3⟩ := isDiffN_eq.mp (F.rows r hr)
  exact ⟨x, y, c, e, tv_at F.allI F.len h0 h2, tv_at F.allI F.len h1 h3⟩
theorem s_holds_all {n : Int} {rows ts : List P} (F : Fit n rows ts) : rn (k + 1) 6 [.p (.tup rows), .p (.tup ts)] h = .ok (.p (.bl (rows.all fun r => !fails ts r))) h := by
  rw [show rn (k + 1) 6 [.p (.tup rows), .p (.tup ts)] h = fin h (exs (rn k) sb b_holds_all [some (.p (.tup rows)), some (.p (.tup ts)), none, none, none] []) from run_gc (xs := [.tup rows, .tup ts]) (fn := f_holds_all.fn) rfl rfl rfl]
  have hc : compV (rn k) [some (.p (.tup rows)), some (.p (.tup ts)), none, none, none] false .seq (.tp [.nm 2, .nm 3, .nm 4]) .nil (.cmp .le (.bin .sub (.ix (.var 1) (.var 2)) (.ix (.var 1) (.var 3))) (.var 4)) [.p (.tup rows)] [] = .ok (.p (.lst (rows.map fun r => .bl (!fails ts r)))) [] := by
    rw [compV_map (g := fun r => .bl (!fails ts r)) rfl (fun r hr => by
      obtain ⟨x, y, c, rfl, e1, e2⟩ := fit_row F hr
      by_cases hf : c < tv ts x - tv ts y
      · simp [item, asg, asgs, wipeE, Tg.slots, tgSlots, evc, ixD, e1, e2, okP, binD, binP, binI, cmpD, cmpP, fails, rx, ry, rc, hf]
      · simp [item, asg, asgs, wipeE, Tg.slots, tgSlots, evc, ixD, e1, e2, okP, binD, binP, binI, cmpD, cmpP, fails, rx, ry, rc, hf, Int.not_lt.mp hf])]
    exact mkL_false
  simp [b_holds_all, hc, biD]
def failList (rows ts : List P) : List P := (rangeP 0 rows.length).filter fun j => fails ts (rowAt rows j)
theorem filterMap_filter {xs : List P} {g : P → Bool} : (xs.filterMap fun x => if g x = true then some (D.p x) else none) = (xs.filter g).map D.p := by
  induction xs with
  | nil => rfl
  | cons x xs ih =>
    cases e : g x <;> simp [e, ih]
theorem compV_filter {call : Nat → List D → Hh → R D} {ρ : En} {w : Wk} {tg : Tg} {cond : Codes} {elt : Code} {ds : List D} {xs : List P} {g : P → Bool} (hx : itemsOf w ds = some xs) (hf : ∀ x ∈ xs, item call ρ tg cond elt x h = .ok (if g x = true then some (.p x) else none) h) :
    compV call ρ false w tg cond elt ds h = .ok (.p (.lst (xs.filter g))) h := by
  rw [compV_filterMap hx hf, filterMap_filter]
  exact mkL_false
theorem row_in {rows : List P} {x : P} (hx : x ∈ rangeP 0 (rows.length : Int)) : ∃ j, x = .int j ∧ at? rows j = some (rowAt rows x) ∧ rowAt rows x ∈ rows := by
  obtain ⟨j, rfl, h0, h1⟩ := mem_rangeP hx
  have hlt : j.toNat < rows.length := by omega
  refine ⟨j, rfl, ?_, ?_⟩
  · rw [at_nat h0]
    simp [rowAt, ixOf, List.getElem?_eq_getElem hlt]
  · simp [rowAt, ixOf, List.getElem?_eq_getElem hlt]
theorem s_law_failing {n : Int} {rows ts : List P} (F : Fit n rows ts) (hl : rows.length ≤ 1000000) : rn (k + 1) 40 [.p (.tup rows), .p (.tup ts)] h = .ok (.p (.tup (failList rows ts))) h := by
  rw [show rn (k + 1) 40 [.p (.tup rows), .p (.tup ts)] h = fin h (exs (rn k) sb b_law_failing [some (.p (.tup rows)), some (.p (.tup ts)), none] []) from run_gc (xs := [.tup rows, .tup ts]) (fn := f_law_failing.fn) rfl rfl rfl]
  have hk : rgOk 0 (rows.length : Int) = true := rgOk_small (by omega) (by omega)
  have hc : compV (rn k) [some (.p (.tup rows)), some (.p (.tup ts)), none] false .range (.nm 2) (.cons (.cmp .gt (.bin .sub (.ix (.var 1) (.ix (.ix (.var 0) (.var 2)) (.cint 0))) (.ix (.var 1) (.ix (.ix (.var 0) (.var 2)) (.cint 1)))) (.ix (.ix (.var 0) (.var 2)) (.cint 2))) .nil) (.var 2) [.p (.int rows.length)] [] = .ok (.p (.lst (failList rows ts))) [] := by
    refine compV_filter (g := fun j => fails ts (rowAt rows j)) (by simp [itemsOf, hk]) (fun x hx => ?_)
    obtain ⟨j, rfl, e0, hm⟩ := row_in hx
    obtain ⟨x, y, c, e, e1, e2⟩ := fit_row F hm
    rw [e] at e0
    by_cases hf : c < tv ts x - tv ts y
    · simp [item, asg, wipeE, Tg.slots, evc, ixD, e0, e1, e2, e, okP, at3_0, at3_1, at3_2, binD, binP, binI, cmpD, cmpP, fails, rx, ry, rc, hf]
    · simp [item, asg, wipeE, Tg.slots, evc, ixD, e0, e1, e2, e, okP, at3_0, at3_1, at3_2, binD, binP, binI, cmpD, cmpP, fails, rx, ry, rc, hf]
  simp [b_law_failing, hc, biD, bi1]
theorem isMin_fit {n : Int} {rows : List P} {v : P} (hr : ∀ r ∈ rows, isDiffN n r = true) (hm : isMin n v = true) : ∃ ts, v = .tup ts ∧ Fit n rows ts := by
  obtain ⟨is, rfl, hl⟩ := isMin_iff.mp hm
  exact ⟨_, rfl, hr, map_all_isInt _, by simp; omega⟩
theorem fit_one {n : Int} {rows ts : List P} (F : Fit n rows ts) {r : P} (hr : r ∈ rows) : Fit n [r] ts := ⟨fun x hx => by
  rw [List.mem_singleton.mp hx]
  exact F.rows r hr, F.allI, F.len⟩
theorem enum_get {rows : List P} {x : P} (hx : x ∈ enumP rows) : ∃ (i : Nat) (r : P), x = .tup [.int (i : Int), r] ∧ rows[i]? = some r := by
  unfold enumP at hx
  obtain ⟨⟨r, i⟩, hm, rfl⟩ := List.mem_map.mp hx
  have := List.mem_zipIdx_iff_getElem?.mp hm
  exact ⟨i, r, rfl, this⟩
theorem enum_fail {ts : List P} : ∀ {rows : List P} {a : Nat}, ((rows.zipIdx a).map fun (x, i) => P.tup [.int (i : Nat), x]).filterMap (fun x => match x with
    | .tup [i, r] => if fails ts r = true then some (D.p i) else none
    | _ => none) = ((List.range rows.length).filter fun j => fails ts ((rows[j]?).getD .non)).map fun j => D.p (.int ((a + j : Nat) : Int))
  | [], a => rfl
  | r :: rows, a => by
    have ih := enum_fail (ts := ts) (rows := rows) (a := a + 1)
    rw [List.zipIdx_cons, List.map_cons, List.filterMap_cons, List.length_cons, List.range_succ_eq_map, List.filter_cons]
    simp only [List.getElem?_cons_zero, Option.getD_some]
    rw [ih]
    have e : (List.map Nat.succ (List.range rows.length)).filter (fun j => fails ts (((r :: rows)[j]?).getD .non)) = ((List.range rows.length).filter fun j => fails ts ((rows[j]?).getD .non)).map Nat.succ := by
      rw [List.filter_map]
      rfl
    rw [e]
    by_cases hf : fails ts r = true
    · simp only [if_pos hf, List.map_cons, List.map_map, Nat.add_zero]
      congr 1
      congr 1
      funext j
      simp only [Function.comp_apply, Nat.succ_eq_add_one]
      congr 3
      omega
    · simp only [if_neg hf, List.map_map]
      congr 1
      funext j
      simp only [Function.comp_apply, Nat.succ_eq_add_one]
      congr 3
      omega
theorem failList_range {rows ts : List P} : ((List.range rows.length).filter fun j => fails ts ((rows[j]?).getD .non)).map (fun j => D.p (.int ((0 + j : Nat) : Int))) = (failList rows ts).map D.p := by
  have e : ((rows.length : Int) - 0).toNat = rows.length := by omega
  unfold failList rangeP
  rw [List.filter_map, List.map_map, e]
  have e2 : (List.range rows.length).filter (fun j => fails ts ((rows[j]?).getD .non)) = (List.range rows.length).filter ((fun j => fails ts (rowAt rows j)) ∘ fun (i : Nat) => P.int (0 + (i : Int))) := by
    apply List.filter_congr
    intro j _
    simp [rowAt, ixOf]
  rw [e2]
  congr 1
theorem s_failing {n : Int} {rows : List P} (v : P) (hs : isSys (.tup [.int n, .tup rows]) = true) : rn (k + 7) 23 [.p (.tup [.int n, .tup rows]), .p v] h = if isMin n v = true then .ok (.p (.tup (failList rows (itemsP v)))) h else .exc 3 h := by
  rw [show rn (k + 7) 23 [.p (.tup [.int n, .tup rows]), .p v] h = fin h (exs (rn (k + 6)) sb b_failing [some (.p (.tup [.int n, .tup rows])), some (.p v), none, none] []) from run_gc (xs := [.tup [.int n, .tup rows], v]) (fn := f_failing.fn) rfl rfl rfl]
  obtain ⟨n', rows', e, h0, hr⟩ := isSys_iff.mp hs
  cases e
  cases hm : isMin n v
  · simp [b_failing, s_check_system, hs, ixD, at2_0, okP, s_fits_minutes v n h0, hm]
  · obtain ⟨ts, rfl, F⟩ := isMin_fit hr hm
    have hc : compV (rn (k + 6)) [some (.p (.tup [.int n, .tup rows])), some (.p (.tup ts)), none, none] false .enum (.tp [.nm 2, .nm 3]) (.cons (.notC (.call 6 (.cons (.tup (.cons (.var 3) .nil)) (.cons (.var 1) .nil)))) .nil) (.var 2) [.p (.tup rows)] [] = .ok (.p (.lst (failList rows ts))) [] := by
      rw [compV_filterMap (g := fun x => match x with
        | .tup [i, r] => if fails ts r = true then some (D.p i) else none
        | _ => none) (xs := enumP rows) rfl (fun x hx => by
          obtain ⟨i, r, rfl, hg⟩ := enum_get hx
          have hm := List.mem_of_getElem? hg
          have := s_holds_all (k := k + 5) (h := []) (fit_one F hm)
          cases hf : fails ts r <;> simp [item, asg, asgs, wipeE, Tg.slots, tgSlots, evc, show 1 ≤ line by decide, allP, this, hf])]
      unfold enumP
      rw [enum_fail, failList_range]
      exact mkL_false
    simp [b_failing, s_check_system, hs, ixD, at2_0, at2_1, okP, s_fits_minutes _ n h0, hm, hc, biD, bi1, itemsP]
end K00

end
section
set_option Elab.async false
set_option maxRecDepth 100000
set_option linter.all false
set_option maxHeartbeats 4000000
namespace K00
open MP
variable {k : Nat} {h : Hh}
def isWorld (n : Int) (rows : List P) (v : P) : Bool := isMin n v && rows.all fun r => !fails (itemsP v) r
theorem failList_nil {rows ts : List P} : (failList rows ts).isEmpty = rows.all fun r => !fails ts r := by
  rw [Bool.eq_iff_iff, List.isEmpty_iff, List.all_eq_true]
  unfold failList
  rw [List.filter_eq_nil_iff]
  constructor
  · intro hh r hr
    obtain ⟨i, hi, e⟩ := List.mem_iff_getElem.mp hr
    have := hh (.int (i : Int)) (by
      unfold rangeP
      exact List.mem_map.mpr ⟨i, List.mem_range.mpr (by omega), by simp⟩)
    simp only [rowAt, ixOf, Int.toNat_natCast, List.getElem?_eq_getElem hi, Option.getD_some, e, Bool.not_eq_true] at this
    simp [this]
  · intro hh x hx
    obtain ⟨j, rfl, e0, hm⟩ := row_in hx
    have := hh _ hm
    simpa using this
theorem s_law_is_world {n : Int} {rows : List P} (v : P) (hs : isSys (.tup [.int n, .tup rows]) = true) (hl : rows.length ≤ 1000000) : rn (k + 2) 41 [.p (.tup [.int n, .tup rows]), .p v] h = .ok (.p (.bl (isWorld n rows v))) h := by
  rw [show rn (k + 2) 41 [.p (.tup [.int n, .tup rows]), .p v] h = fin h (exs (rn (k + 1)) sb b_law_is_world [some (.p (.tup [.int n, .tup rows])), some (.p v)] []) from run_gc (xs := [.tup [.int n, .tup rows], v]) (fn := f_law_is_world.fn) rfl rfl rfl]
  obtain ⟨n', rows', e, h0, hr⟩ := isSys_iff.mp hs
  cases e
  cases hm : isMin n v
  · simp [b_law_is_world, ixD, at2_0, okP, s_law_is_minutes v n h0, hm, isWorld]
  · obtain ⟨ts, rfl, F⟩ := isMin_fit hr hm
    have e3 : isWorld n rows (.tup ts) = (failList rows ts).isEmpty := by rw [failList_nil]; simp [isWorld, hm, itemsP]
    rw [e3]
    cases hf : failList rows ts <;> simp [b_law_is_world, ixD, at2_0, at2_1, okP, s_law_is_minutes _ n h0, hm, s_law_failing F hl, hf, cmpD, cmpP, eqP, allP]
theorem s_is_world {n : Int} {rows : List P} (v : P) (hs : isSys (.tup [.int n, .tup rows]) = true) : rn (k + 7) 22 [.p (.tup [.int n, .tup rows]), .p v] h = .ok (.p (.bl (isWorld n rows v))) h := by
  rw [show rn (k + 7) 22 [.p (.tup [.int n, .tup rows]), .p v] h = fin h (exs (rn (k + 6)) sb b_is_world [some (.p (.tup [.int n, .tup rows])), some (.p v)] []) from run_gc (xs := [.tup [.int n, .tup rows], v]) (fn := f_is_world.fn) rfl rfl rfl]
  obtain ⟨n', rows', e, h0, hr⟩ := isSys_iff.mp hs
  cases e
  cases hm : isMin n v
  · simp [b_is_world, s_check_system, hs, ixD, at2_0, okP, s_fits_minutes v n h0, hm, isWorld]
  · obtain ⟨ts, rfl, F⟩ := isMin_fit hr hm
    have := s_holds_all (k := k + 5) (h := []) F
    simp [b_is_world, s_check_system, hs, ixD, at2_0, at2_1, okP, s_fits_minutes _ n h0, hm, isWorld, this, itemsP]
/-- what is no system: the same refusal -/
theorem e_failing (s v : P) (hs : isSys s = false) : rn (k + 7) 23 [.p s, .p v] h = .exc 1 h := by
  rw [show rn (k + 7) 23 [.p s, .p v] h = fin h (exs (rn (k + 6)) sb b_failing [some (.p s), some (.p v), none, none] []) from run_gc (xs := [s, v]) (fn := f_failing.fn) rfl rfl rfl]
  simp [b_failing, s_check_system, hs]
theorem e_is_world (s v : P) (hs : isSys s = false) : rn (k + 7) 22 [.p s, .p v] h = .exc 1 h := by
  rw [show rn (k + 7) 22 [.p s, .p v] h = fin h (exs (rn (k + 6)) sb b_is_world [some (.p s), some (.p v)] []) from run_gc (xs := [s, v]) (fn := f_is_world.fn) rfl rfl rfl]
  simp [b_is_world, s_check_system, hs]
theorem e_is_chain (s v : P) (hs : isSys s = false) : rn (k + 7) 24 [.p s, .p v] h = .exc 1 h := by
  rw [show rn (k + 7) 24 [.p s, .p v] h = fin h (exs (rn (k + 6)) sb b_is_chain [some (.p s), some (.p v)] []) from run_gc (xs := [s, v]) (fn := f_is_chain.fn) rfl rfl rfl]
  simp [b_is_chain, s_check_system, hs]
theorem e_is_bad_ring (s v : P) (hs : isSys s = false) : rn (k + 7) 25 [.p s, .p v] h = .exc 1 h := by
  rw [show rn (k + 7) 25 [.p s, .p v] h = fin h (exs (rn (k + 6)) sb b_is_bad_ring [some (.p s), some (.p v)] []) from run_gc (xs := [s, v]) (fn := f_is_bad_ring.fn) rfl rfl rfl]
  simp [b_is_bad_ring, s_check_system, hs]
theorem e_chain_sum (s v : P) (hs : isSys s = false) : rn (k + 7) 26 [.p s, .p v] h = .exc 1 h := by
  rw [show rn (k + 7) 26 [.p s, .p v] h = fin h (exs (rn (k + 6)) sb b_chain_sum [some (.p s), some (.p v)] []) from run_gc (xs := [s, v]) (fn := f_chain_sum.fn) rfl rfl rfl]
  simp [b_chain_sum, s_check_system, hs]
theorem e_decide (s : P) (hs : isSys s = false) : rn (k + 7) 27 [.p s] h = .exc 1 h := by
  rw [show rn (k + 7) 27 [.p s] h = fin h (exs (rn (k + 6)) sb b_decide [some (.p s)] []) from run_gc (xs := [s]) (fn := f_decide.fn) rfl rfl rfl]
  simp [b_decide, s_check_system, hs]
theorem s_is_chain {n : Int} {rows : List P} (v : P) (hs : isSys (.tup [.int n, .tup rows]) = true) (hl : lenOf v ≤ 1000000) : rn (k + 7) 24 [.p (.tup [.int n, .tup rows]), .p v] h = .ok (.p (.bl (isChain rows v))) h := by
  rw [show rn (k + 7) 24 [.p (.tup [.int n, .tup rows]), .p v] h = fin h (exs (rn (k + 6)) sb b_is_chain [some (.p (.tup [.int n, .tup rows])), some (.p v)] []) from run_gc (xs := [.tup [.int n, .tup rows], v]) (fn := f_is_chain.fn) rfl rfl rfl]
  obtain ⟨n', rows', e, h0, hr⟩ := isSys_iff.mp hs
  cases e
  simp [b_is_chain, s_check_system, hs, ixD, at2_1, okP, s_is_chain_of v rows (rows_of hr) hl]
theorem s_is_bad_ring {n : Int} {rows : List P} (v : P) (hs : isSys (.tup [.int n, .tup rows]) = true) (hl : lenOf v ≤ 1000000) : rn (k + 7) 25 [.p (.tup [.int n, .tup rows]), .p v] h = .ok (.p (.bl (isBad rows v))) h := by
  rw [show rn (k + 7) 25 [.p (.tup [.int n, .tup rows]), .p v] h = fin h (exs (rn (k + 6)) sb b_is_bad_ring [some (.p (.tup [.int n, .tup rows])), some (.p v)] []) from run_gc (xs := [.tup [.int n, .tup rows], v]) (fn := f_is_bad_ring.fn) rfl rfl rfl]
  obtain ⟨n', rows', e, h0, hr⟩ := isSys_iff.mp hs
  cases e
  simp [b_is_bad_ring, s_check_system, hs, ixD, at2_1, okP, s_is_bad v rows (rows_of hr) hl]
theorem s_chain_sum {n : Int} {rows : List P} (v : P) (hs : isSys (.tup [.int n, .tup rows]) = true) (hl : lenOf v ≤ 1000000) : rn (k + 7) 26 [.p (.tup [.int n, .tup rows]), .p v] h = if isChain rows v = true then .ok (.p (.int (total rows (itemsP v)))) h else .exc 4 h := by
  rw [show rn (k + 7) 26 [.p (.tup [.int n, .tup rows]), .p v] h = fin h (exs (rn (k + 6)) sb b_chain_sum [some (.p (.tup [.int n, .tup rows])), some (.p v)] []) from run_gc (xs := [.tup [.int n, .tup rows], v]) (fn := f_chain_sum.fn) rfl rfl rfl]
  obtain ⟨n', rows', e, h0, hr⟩ := isSys_iff.mp hs
  cases e
  cases hc : isChain rows v
  · simp [b_chain_sum, s_check_system, hs, ixD, at2_1, okP, s_check_chain v rows (rows_of hr) hl, hc]
  · cases v <;> try (simp [isChain] at hc; done)
    rename_i vs
    simp [b_chain_sum, s_check_system, hs, ixD, at2_1, okP, s_check_chain _ rows (rows_of hr) hl, hc, s_chain_total rows vs (rows_of hr) (isChain_all hc), itemsP]
end K00

end
section
set_option Elab.async false
set_option maxRecDepth 100000
set_option linter.all false
set_option maxHeartbeats 4000000
namespace K00
open MP
variable {k : Nat} {h : Hh}
/-! the deck: any draw -/
def Deck (h : Hh) (d : Nat) : Prop := ∃ a b : Int, h[d]? = some [.p (.int a), .p (.int b)] ∧ 0 ≤ a ∧ 0 ≤ b
structure Hx (d : Nat) (h h' : Hh) : Prop where
  deck : Deck h' d
  len : h.length ≤ h'.length
  same : ∀ n, n < h.length → n ≠ d → h'[n]? = h[n]?
theorem Hx.refl {d : Nat} {h : Hh} (D : Deck h d) : Hx d h h := ⟨D, Nat.le_refl _, fun _ _ _ => rfl⟩
theorem Hx.trans {d : Nat} {h h1 h2 : Hh} (a : Hx d h h1) (b : Hx d h1 h2) : Hx d h h2 :=
  ⟨b.deck, Nat.le_trans a.len b.len, fun n hn hd => (b.same n (Nat.lt_of_lt_of_le hn a.len) hd).trans (a.same n hn hd)⟩
theorem deck_set {d : Nat} {h : Hh} (D : Deck h d) {a b : Int} (ha : 0 ≤ a) (hb : 0 ≤ b) : Hx d h (h.set d [.p (.int a), .p (.int b)]) := by
  obtain ⟨a0, b0, e, _⟩ := D
  have hlt : d < h.length := lt_of_get e
  refine ⟨⟨a, b, List.getElem?_set_self hlt, ha, hb⟩, by rw [List.length_set]; exact Nat.le_refl _, fun n hn hd => List.getElem?_set_ne (Ne.symm hd)⟩
theorem s_draw {d : Nat} {m : Int} (D : Deck h d) (h0 : 0 < m) (h1 : m < 1073741824) : ∃ (r : Int) (h' : Hh), rn (k + 1) 30 [.ref d, .p (.int m)] h = .ok (.p (.int r)) h' ∧ 0 ≤ r ∧ r < m ∧ Hx d h h' := by
  obtain ⟨a, b, e, ha, hb⟩ := D
  have hlt : d < h.length := lt_of_get e
  rw [show rn (k + 1) 30 [.ref d, .p (.int m)] h = fin0 (exs (rn k) sb b_law_draw [some (.ref d), some (.p (.int m)), none] h) from run_in (ds := [.ref d, .p (.int m)]) (fn := f_law_draw.fn) rfl rfl rfl]
  have hset : ∀ x : List D, (h.set d x)[d]? = some x := fun x => List.getElem?_set_self hlt
  have q0 : at? [D.p (.int a), D.p (.int b)] 0 = some (.p (.int a)) := rfl
  have q1 : at? [D.p (.int a), D.p (.int b)] 1 = some (.p (.int b)) := rfl
  by_cases hp : 0 < a
  · refine ⟨a % m, h.set d [.p (.int (a / m)), .p (.int b)], ?_, Int.emod_nonneg _ (by omega), Int.emod_lt_of_pos _ h0, deck_set ⟨a, b, e, ha, hb⟩ (Int.ediv_nonneg ha (by omega)) hb⟩
    simp [b_law_draw, ixD, e, q0, okD, okP, cmpD, cmpP, hp, biD, bi1, binD, binP, binI, h0, h1]
  · have hM : (0 : Int) < 2305843009213693921 := by decide
    refine ⟨(b * 25214903917 + 9973) % 2305843009213693921 / 8192 % m, h.set d [.p (.int a), .p (.int ((b * 25214903917 + 9973) % 2305843009213693921))], ?_, Int.emod_nonneg _ (by omega), Int.emod_lt_of_pos _ h0, deck_set ⟨a, b, e, ha, hb⟩ ha (Int.emod_nonneg _ (by omega))⟩
    have hs : small 25214903917 = true := by decide
    simp [b_law_draw, ixD, e, q0, q1, okD, okP, cmpD, cmpP, hp, biD, bi1, binD, binP, binI, h0, h1, hs, hset, at2_1]
end K00

end
section
set_option Elab.async false
set_option maxRecDepth 100000
set_option linter.all false
set_option maxHeartbeats 4000000
namespace K00
open MP
variable {k : Nat} {h : Hh}
theorem s_deck (c : Int) : ∃ h', rn (k + 1) 29 [.p (.int c)] h = .ok (.ref h.length) h' ∧ Deck h' h.length ∧ h.length ≤ h'.length ∧ ∀ n, n < h.length → h'[n]? = h[n]? := by
  rw [show rn (k + 1) 29 [.p (.int c)] h = fin0 (exs (rn k) sb b_law_deck [some (.p (.int c))] h) from run_in (ds := [.p (.int c)]) (fn := f_law_deck.fn) rfl rfl rfl]
  have hs : small 6700417 = true := by decide
  have hp : binI .pow 10 20 = some (10 ^ 20) := by decide
  have hm0 : 0 ≤ (c * 6700417 + 104729) % 2305843009213693921 := Int.emod_nonneg _ (by decide)
  refine ⟨h ++ [[.p (.int (if c - 10 ^ 20 > 0 then c - 10 ^ 20 else 0)), .p (.int ((c * 6700417 + 104729) % 2305843009213693921 + 1))]], ?_, ⟨if c - 10 ^ 20 > 0 then c - 10 ^ 20 else 0, (c * 6700417 + 104729) % 2305843009213693921 + 1, by simp, ?_, by omega⟩, by simp, fun n hn => List.getElem?_append_left hn⟩
  · simp [b_law_deck, biD, bi1, bi2, binD, binP, okP, hp, show ∀ i j, binI .sub i j = some (i - j) from fun _ _ => rfl, show ∀ i j, binI .add i j = some (i + j) from fun _ _ => rfl, binI, hs, show small 10 = true by decide, mkL, show 2 ≤ line by decide]
  · split <;> omega
/-! _law_same of a thing and itself -/
def Pl : Nat → P → Prop
  | _, .non => True
  | _, .bl _ => True
  | _, .int _ => True
  | _, .str _ => True
  | d + 1, .tup xs => xs.length ≤ 1000000 ∧ ∀ x ∈ xs, Pl d x
  | _, _ => False
theorem same_tup (xs : List P) (hl : xs.length ≤ 1000000) (ih : ∀ x ∈ xs, ∀ h, rn k 31 [.p x, .p x] h = .ok (.p (.bl true)) h) : rn (k + 1) 31 [.p (.tup xs), .p (.tup xs)] h = .ok (.p (.bl true)) h := by
  rw [show rn (k + 1) 31 [.p (.tup xs), .p (.tup xs)] h = fin h (exs (rn k) sb b_law_same [some (.p (.tup xs)), some (.p (.tup xs)), none] []) from run_gc (xs := [.tup xs, .tup xs]) (fn := f_law_same.fn) rfl rfl rfl]
  have hk : rgOk 0 (xs.length : Int) = true := rgOk_small (by omega) (by omega)
  have hc : compV (rn k) [some (.p (.tup xs)), some (.p (.tup xs)), none] false .range (.nm 2) .nil (.call 31 (.cons (.ix (.var 0) (.var 2)) (.cons (.ix (.var 1) (.var 2)) .nil))) [.p (.int xs.length)] [] = .ok (.p (.lst ((rangeP 0 xs.length).map fun _ => .bl true))) [] := by
    rw [compV_map (xs := rangeP 0 xs.length) (g := fun _ => .bl true) (by simp [itemsOf, hk]) (fun x hx => by
      obtain ⟨j, rfl, e0, hm⟩ := row_in hx
      simp [item, asg, wipeE, Tg.slots, evc, ixD, e0, okP, ih _ hm])]
    exact mkL_false
  have ha : (rangeP 0 (xs.length : Int)).all (fun _ => true) = true := List.all_eq_true.mpr fun _ _ => rfl
  simp [b_law_same, isiD, isiP, cmpD, cmpP, eqP, okP, biD, bi1_len, hc]
theorem s_same : ∀ (h : Hh) (d : Nat) (x : P), Pl d x → rn (k + d + 1) 31 [.p x, .p x] h = .ok (.p (.bl true)) h
  | h, d, .non, _ => by
    rw [show rn (k + d + 1) 31 [.p .non, .p .non] h = fin h (exs (rn (k + d)) sb b_law_same [some (.p .non), some (.p .non), none] []) from run_gc (xs := [.non, .non]) (fn := f_law_same.fn) rfl rfl rfl]
    simp [b_law_same, isiD, isiP, cmpD, cmpP, eqP, okP]
  | h, d, .bl b, _ => by
    rw [show rn (k + d + 1) 31 [.p (.bl b), .p (.bl b)] h = fin h (exs (rn (k + d)) sb b_law_same [some (.p (.bl b)), some (.p (.bl b)), none] []) from run_gc (xs := [.bl b, .bl b]) (fn := f_law_same.fn) rfl rfl rfl]
    simp [b_law_same, isiD, isiP, cmpD, cmpP, eqP, okP]
  | h, d, .int b, _ => by
    rw [show rn (k + d + 1) 31 [.p (.int b), .p (.int b)] h = fin h (exs (rn (k + d)) sb b_law_same [some (.p (.int b)), some (.p (.int b)), none] []) from run_gc (xs := [.int b, .int b]) (fn := f_law_same.fn) rfl rfl rfl]
    simp [b_law_same, isiD, isiP, cmpD, cmpP, eqP, okP]
  | h, d, .str b, _ => by
    rw [show rn (k + d + 1) 31 [.p (.str b), .p (.str b)] h = fin h (exs (rn (k + d)) sb b_law_same [some (.p (.str b)), some (.p (.str b)), none] []) from run_gc (xs := [.str b, .str b]) (fn := f_law_same.fn) rfl rfl rfl]
    simp [b_law_same, isiD, isiP, cmpD, cmpP, eqP, okP]
  | h, 0, .tup _, hp => hp.elim
  | h, d + 1, .tup xs, hp => same_tup (k := k + (d + 1)) xs hp.1 fun x hx h => s_same h d x (hp.2 x hx)
  | h, d, .lst _, hp => by cases d <;> exact hp.elim
  | h, d, .edc, hp => by cases d <;> exact hp.elim
end K00

end
section
set_option Elab.async false
set_option maxRecDepth 100000
set_option linter.all false
set_option maxHeartbeats 4000000
namespace K00
open MP
variable {k : Nat} {h : Hh}
def catchX (sub : Nat → Nat → Option Bool) (hs : List (Nat × Nat × SC)) : MP.X → MP.X
  | .exc c ρ1 h1 => handle sub c ρ1 h1 hs
  | r => r
@[simp] theorem ex_tryM {call : Nat → List D → Hh → R D} {sub : Nat → Nat → Option Bool} {ρ : En} {body : Stms} {hs : List (Nat × Nat × SC)} : ex call sub (.tryM body hs) ρ h = catchX sub hs (exs call sub body ρ h) := by simp only [ex, catchX] <;> rfl
@[simp] theorem catchX_nx {sub : Nat → Nat → Option Bool} {hs : List (Nat × Nat × SC)} {ρ : En} : catchX sub hs (.nx ρ h) = .nx ρ h := (rfl)
@[simp] theorem catchX_exc {sub : Nat → Nat → Option Bool} {hs : List (Nat × Nat × SC)} {ρ : En} {c : Nat} : catchX sub hs (.exc c ρ h) = handle sub c ρ h hs := (rfl)
@[simp] theorem catchX_ite {sub : Nat → Nat → Option Bool} {hs : List (Nat × Nat × SC)} {c : Prop} [Decidable c] {a b : MP.X} : catchX sub hs (if c then a else b) = if c then catchX sub hs a else catchX sub hs b := by split <;> rfl
def hds : List (Nat × Nat × SC) := [(1, 3, .cst (.str "system")), (2, 3, .cst (.str "difference")), (3, 3, .cst (.str "world")), (4, 3, .cst (.str "chain"))]
theorem hd1 {ρ : En} : handle sb 1 ρ h [(1, 3, .cst (.str "system")), (2, 3, .cst (.str "difference")), (3, 3, .cst (.str "world")), (4, 3, .cst (.str "chain"))] = .nx (ρ.set 3 (some (.p (.str "system")))) h := by
  simp only [handle, show sb 1 1 = some true from rfl, evS]
theorem hd2 {ρ : En} : handle sb 2 ρ h [(1, 3, .cst (.str "system")), (2, 3, .cst (.str "difference")), (3, 3, .cst (.str "world")), (4, 3, .cst (.str "chain"))] = .nx (ρ.set 3 (some (.p (.str "difference")))) h := by
  simp only [handle, show sb 2 1 = some false from rfl, show sb 2 2 = some true from rfl, evS]
theorem hd3 {ρ : En} : handle sb 3 ρ h [(1, 3, .cst (.str "system")), (2, 3, .cst (.str "difference")), (3, 3, .cst (.str "world")), (4, 3, .cst (.str "chain"))] = .nx (ρ.set 3 (some (.p (.str "world")))) h := by
  simp only [handle, show sb 3 1 = some false from rfl, show sb 3 2 = some false from rfl, show sb 3 3 = some true from rfl, evS]
theorem hd4 {ρ : En} : handle sb 4 ρ h [(1, 3, .cst (.str "system")), (2, 3, .cst (.str "difference")), (3, 3, .cst (.str "world")), (4, 3, .cst (.str "chain"))] = .nx (ρ.set 3 (some (.p (.str "chain")))) h := by
  simp only [handle, show sb 4 1 = some false from rfl, show sb 4 2 = some false from rfl, show sb 4 3 = some false from rfl, show sb 4 4 = some true from rfl, evS]
/-- what both tell -/
def askP (w : Int) (s v : P) : P :=
  if w = 3 then (if isDiff v = true then turned v else .str "difference")
  else if isSys s = true then
    (if w = 0 then (if isMore (nOf s) v = true then .tup [.int (nOf s), .tup (rowsOf s ++ itemsP v)] else .str "difference")
    else if w = 1 then (if isMin (nOf s) v = true then .tup (failList (rowsOf s) (itemsP v)) else .str "world")
    else if w = 2 then (if isChain (rowsOf s) v = true then .int (total (rowsOf s) (itemsP v)) else .str "chain")
    else if w = 4 then .bl (isWorld (nOf s) (rowsOf s) v)
    else if w = 5 then .bl (isChain (rowsOf s) v)
    else .bl (isBad (rowsOf s) v))
  else .str "system"
theorem s_ask (w : Int) (s v : P) (hw : 0 ≤ w ∧ w ≤ 6) (hl : (rowsOf s).length + (itemsP v).length ≤ 1000000) (hv : lenOf v ≤ 1000000) : rn (k + 8) 45 [.p (.int w), .p s, .p v] h = .ok (.p (askP w s v)) h := by
  rw [show rn (k + 8) 45 [.p (.int w), .p s, .p v] h = fin h (exs (rn (k + 7)) sb b_law_ask [some (.p (.int w)), some (.p s), some (.p v), none] []) from run_gc (xs := [.int w, s, v]) (fn := f_law_ask.fn) rfl rfl rfl]
  have hw' : w = 0 ∨ w = 1 ∨ w = 2 ∨ w = 3 ∨ w = 4 ∨ w = 5 ∨ w = 6 := by omega
  by_cases h3 : w = 3
  · subst h3
    have e := s_contrary (k := k + 3) (h := []) v
    cases hd : isDiff v <;> simp [b_law_ask, askP, cmpD, cmpP, eqP, okP, e, hd, hd2]
  · cases hs : isSys s
    · have e1 := e_failing (k := k) (h := []) s v hs
      have e2 := e_is_world (k := k) (h := []) s v hs
      have e3 := e_is_chain (k := k) (h := []) s v hs
      have e4 := e_is_bad_ring (k := k) (h := []) s v hs
      have e5 := e_chain_sum (k := k) (h := []) s v hs
      have e6 := s_joined (k := k) (h := []) s v hl
      rcases hw' with rfl | rfl | rfl | rfl | rfl | rfl | rfl <;> first | exact absurd rfl h3 | simp [b_law_ask, askP, cmpD, cmpP, eqP, okP, hs, e1, e2, e3, e4, e5, e6, hd1]
    · obtain ⟨n, rows, rfl, h0, hr⟩ := isSys_iff.mp hs
      have e1 := s_failing (k := k) (h := []) v hs
      have e2 := s_is_world (k := k) (h := []) v hs
      have e3 := s_is_chain (k := k) (h := []) v hs hv
      have e4 := s_is_bad_ring (k := k) (h := []) v hs hv
      have e5 := s_chain_sum (k := k) (h := []) v hs hv
      have e6 := s_joined (k := k) (h := []) _ v hl
      have en : nOf (.tup [.int n, .tup rows]) = n := rfl
      have er : rowsOf (.tup [.int n, .tup rows]) = rows := rfl
      rcases hw' with rfl | rfl | rfl | rfl | rfl | rfl | rfl
      · cases hc : isMore n v <;> simp [b_law_ask, askP, cmpD, cmpP, eqP, okP, hs, en, er, e6, hc, hd2]
      · cases hc : isMin n v <;> simp [b_law_ask, askP, cmpD, cmpP, eqP, okP, hs, en, er, e1, hc, hd3]
      · cases hc : isChain rows v <;> simp [b_law_ask, askP, cmpD, cmpP, eqP, okP, hs, en, er, e5, hc, hd4]
      · exact absurd rfl h3
      · simp [b_law_ask, askP, cmpD, cmpP, eqP, okP, hs, en, er, e2]
      · simp [b_law_ask, askP, cmpD, cmpP, eqP, okP, hs, en, er, e3]
      · simp [b_law_ask, askP, cmpD, cmpP, eqP, okP, hs, en, er, e4]
end K00

end
section
set_option Elab.async false
set_option maxRecDepth 100000
set_option linter.all false
set_option maxHeartbeats 4000000
namespace K00
open MP
variable {k : Nat} {h : Hh}
theorem s_due (w : Int) (s v : P) (hw : 0 ≤ w ∧ w ≤ 6) (hb : nOf s < big) (hl : (rowsOf s).length + (itemsP v).length ≤ 1000000) (hv : lenOf v ≤ 1000000) : rn (k + 8) 46 [.p (.int w), .p s, .p v] h = .ok (.p (askP w s v)) h := by
  rw [show rn (k + 8) 46 [.p (.int w), .p s, .p v] h = fin h (exs (rn (k + 7)) sb b_law_due [some (.p (.int w)), some (.p s), some (.p v), none, none, none, none, none] []) from run_gc (xs := [.int w, s, v]) (fn := f_law_due.fn) rfl rfl rfl]
  have hw' : w = 0 ∨ w = 1 ∨ w = 2 ∨ w = 3 ∨ w = 4 ∨ w = 5 ∨ w = 6 := by omega
  have l3 : 3 ≤ line := by decide
  have l2 : 2 ≤ line := by decide
  by_cases h3 : w = 3
  · subst h3
    have e := s_law_is_diff0 (k := k + 6) (h := []) v
    cases hd : isDiff v
    · simp [b_law_due, askP, cmpD, cmpP, eqP, okP, e, hd]
    · obtain ⟨x, y, c, rfl, _⟩ := isDiff_iff.mp hd
      simp [b_law_due, askP, cmpD, cmpP, eqP, okP, e, hd, ixD, at3_0, at3_1, at3_2, negD, binD, binP, binI, allP, turned, l3]
  · have es := s_law_is_system (k := k + 4) (h := []) s hb
    cases hs : isSys s
    · rcases hw' with rfl | rfl | rfl | rfl | rfl | rfl | rfl <;> first | exact absurd rfl h3 | simp [b_law_due, askP, cmpD, cmpP, eqP, okP, es, hs]
    · obtain ⟨n, rows, rfl, h0, hr⟩ := isSys_iff.mp hs
      have en : nOf (.tup [.int n, .tup rows]) = n := rfl
      have er : rowsOf (.tup [.int n, .tup rows]) = rows := rfl
      have hrl : rows.length ≤ 1000000 := by rw [er] at hl; omega
      rcases hw' with rfl | rfl | rfl | rfl | rfl | rfl | rfl
      · cases hc : isMore n v
        · cases v <;> try (simp [b_law_due, askP, cmpD, cmpP, eqP, okP, es, hs, en, er, hc, asg, asgs, isiD, isiP]; done)
          rename_i ms
          have hA : ms.all (isDiffN n) = false := hc
          have hc2 : ∀ a b, compV (rn (k + 7)) [some (.p (.int 0)), some (.p (.tup [.int n, .tup rows])), some (.p (.tup ms)), some (.p (.int n)), some (.p (.tup rows)), a, b, none] false .seq (.nm 6) .nil (.call 36 (.cons (.var 6) (.cons (.var 3) .nil))) [.p (.tup ms)] [] = .ok (.p (.lst (ms.map fun x => .bl (isDiffN n x)))) [] := fun a b => by
            rw [compV_map (g := fun x => .bl (isDiffN n x)) rfl (fun x hx => by simp [item, asg, wipeE, Tg.slots, evc, s_law_is_diff])]
            exact mkL_false
          simp [b_law_due, askP, cmpD, cmpP, eqP, okP, es, hs, en, er, hc, asg, asgs, isiD, isiP, hc2, biD, hA]
        · cases v <;> try (simp [isMore] at hc; done)
          rename_i ms
          have hA : ms.all (isDiffN n) = true := hc
          have hc2 : ∀ a b, compV (rn (k + 7)) [some (.p (.int 0)), some (.p (.tup [.int n, .tup rows])), some (.p (.tup ms)), some (.p (.int n)), some (.p (.tup rows)), a, b, none] false .seq (.nm 6) .nil (.call 36 (.cons (.var 6) (.cons (.var 3) .nil))) [.p (.tup ms)] [] = .ok (.p (.lst (ms.map fun x => .bl (isDiffN n x)))) [] := fun a b => by
            rw [compV_map (g := fun x => .bl (isDiffN n x)) rfl (fun x hx => by simp [item, asg, wipeE, Tg.slots, evc, s_law_is_diff])]
            exact mkL_false
          have hl2 : rows.length + ms.length ≤ line := hl
          simp [b_law_due, askP, cmpD, cmpP, eqP, okP, es, hs, en, er, hc, asg, asgs, isiD, isiP, hc2, biD, hA, binD, binP, hl2, allP, l2, itemsP]
      · cases hm : isMin n v
        · simp [b_law_due, askP, cmpD, cmpP, eqP, okP, es, hs, en, er, asg, asgs, s_law_is_minutes v n h0, hm]
        · obtain ⟨ts, rfl, F⟩ := isMin_fit hr hm
          simp [b_law_due, askP, cmpD, cmpP, eqP, okP, es, hs, en, er, asg, asgs, s_law_is_minutes _ n h0, hm, s_law_failing F hrl, itemsP]
      · have e5 := s_law_is_chain (k := k + 4) (h := []) v rows (rows_of hr) hv
        cases hc : isChain rows v
        · simp [b_law_due, askP, cmpD, cmpP, eqP, okP, es, hs, en, er, asg, asgs, e5, hc]
        · cases v <;> try (simp [isChain] at hc; done)
          rename_i vs
          have hc2 : ∀ a b, compV (rn (k + 7)) [some (.p (.int 2)), some (.p (.tup [.int n, .tup rows])), some (.p (.tup vs)), some (.p (.int n)), some (.p (.tup rows)), a, b, none] false .seq (.nm 7) .nil (.ix (.ix (.var 4) (.var 7)) (.cint 2)) [.p (.tup vs)] [] = .ok (.p (.lst (vs.map fun x => .int (rc (rowAt rows x))))) [] := fun a b => by
            rw [compV_map (g := fun x => .int (rc (rowAt rows x))) rfl (fun x hx => by
              obtain ⟨j, x1, y1, c1, rfl, b1, d1⟩ := row_at (rows_of hr) (List.all_eq_true.mp (isChain_all hc) x hx)
              simp [item, asg, wipeE, Tg.slots, evc, ixD, b1, okP, at3_2, d1, rc])]
            exact mkL_false
          simp [b_law_due, askP, cmpD, cmpP, eqP, okP, es, hs, en, er, asg, asgs, e5, hc, hc2, biD, itemsP, total]
      · exact absurd rfl h3
      · have e5 := s_law_is_world (k := k + 5) (h := []) v hs hrl
        simp [b_law_due, askP, cmpD, cmpP, eqP, okP, es, hs, en, er, asg, asgs, e5]
      · have e5 := s_law_is_chain (k := k + 4) (h := []) v rows (rows_of hr) hv
        simp [b_law_due, askP, cmpD, cmpP, eqP, okP, es, hs, en, er, asg, asgs, e5]
      · have e5 := s_law_bad_ring (k := k + 4) (h := []) v rows (rows_of hr) hv
        simp [b_law_due, askP, cmpD, cmpP, eqP, okP, es, hs, en, er, asg, asgs, e5]
end K00

end
section
set_option Elab.async false
set_option maxRecDepth 100000
set_option linter.all false
set_option maxHeartbeats 4000000
namespace K00
open MP
variable {k : Nat} {h : Hh}
/-! bent values -/
def Nice : Nat → Int → Nat → P → Prop
  | _, b, _, .int i => -b ≤ i ∧ i ≤ b
  | d + 1, b, w, .tup xs => xs.length ≤ w ∧ ∀ x ∈ xs, Nice d b w x
  | d + 1, b, w, .lst xs => xs.length ≤ w ∧ ∀ x ∈ xs, Nice d b w x
  | 0, _, _, .tup _ => False
  | 0, _, _, .lst _ => False
  | _, _, _, .non => True
  | _, _, _, .bl _ => True
  | _, _, _, .str _ => True
  | _, _, _, .edc => True
theorem Nice.mono {b b' : Int} {w w' : Nat} (hb : b ≤ b') (hw : w ≤ w') : ∀ (d d' : Nat) (x : P), d ≤ d' → Nice d b w x → Nice d' b' w' x
  | d, d', .int i, _, h => by
    have h1 : -b ≤ i ∧ i ≤ b := by cases d <;> exact h
    have : -b' ≤ i ∧ i ≤ b' := by omega
    cases d' <;> exact this
  | d, d', .non, _, _ => by cases d' <;> trivial
  | d, d', .bl _, _, _ => by cases d' <;> trivial
  | d, d', .str _, _, _ => by cases d' <;> trivial
  | d, d', .edc, _, _ => by cases d' <;> trivial
  | 0, _, .tup _, _, h => h.elim
  | 0, _, .lst _, _, h => h.elim
  | d + 1, 0, .tup _, hd, _ => by omega
  | d + 1, 0, .lst _, hd, _ => by omega
  | d + 1, d' + 1, .tup xs, hd, h => ⟨Nat.le_trans h.1 hw, fun x hx => Nice.mono hb hw d d' x (by omega) (h.2 x hx)⟩
  | d + 1, d' + 1, .lst xs, hd, h => ⟨Nat.le_trans h.1 hw, fun x hx => Nice.mono hb hw d d' x (by omega) (h.2 x hx)⟩
theorem nice_int {d : Nat} {b : Int} {w : Nat} {i : Int} (h : -b ≤ i ∧ i ≤ b) : Nice d b w (.int i) := by cases d <;> exact h
theorem nice_int_of {d : Nat} {b : Int} {w : Nat} {i : Int} (h : Nice d b w (.int i)) : -b ≤ i ∧ i ≤ b := by cases d <;> exact h
theorem pick6 {α : Type} {a b c d e f : α} {r : Int} (h0 : 0 ≤ r) (h1 : r < 6) : ∃ x, at? [a, b, c, d, e, f] r = some x ∧ (x = a ∨ x = b ∨ x = c ∨ x = d ∨ x = e ∨ x = f) := by
  have : r = 0 ∨ r = 1 ∨ r = 2 ∨ r = 3 ∨ r = 4 ∨ r = 5 := by omega
  rcases this with rfl | rfl | rfl | rfl | rfl | rfl
  · exact ⟨a, rfl, .inl rfl⟩
  · exact ⟨b, rfl, .inr (.inl rfl)⟩
  · exact ⟨c, rfl, .inr (.inr (.inl rfl))⟩
  · exact ⟨d, rfl, .inr (.inr (.inr (.inl rfl)))⟩
  · exact ⟨e, rfl, .inr (.inr (.inr (.inr (.inl rfl))))⟩
  · exact ⟨f, rfl, .inr (.inr (.inr (.inr (.inr rfl))))⟩
theorem pick8 {α : Type} {a b c d e f g i : α} {r : Int} (h0 : 0 ≤ r) (h1 : r < 8) : ∃ x, at? [a, b, c, d, e, f, g, i] r = some x ∧ (x = a ∨ x = b ∨ x = c ∨ x = d ∨ x = e ∨ x = f ∨ x = g ∨ x = i) := by
  have : r = 0 ∨ r = 1 ∨ r = 2 ∨ r = 3 ∨ r = 4 ∨ r = 5 ∨ r = 6 ∨ r = 7 := by omega
  rcases this with rfl | rfl | rfl | rfl | rfl | rfl | rfl | rfl
  · exact ⟨a, rfl, .inl rfl⟩
  · exact ⟨b, rfl, .inr (.inl rfl)⟩
  · exact ⟨c, rfl, .inr (.inr (.inl rfl))⟩
  · exact ⟨d, rfl, .inr (.inr (.inr (.inl rfl)))⟩
  · exact ⟨e, rfl, .inr (.inr (.inr (.inr (.inl rfl))))⟩
  · exact ⟨f, rfl, .inr (.inr (.inr (.inr (.inr (.inl rfl)))))⟩
  · exact ⟨g, rfl, .inr (.inr (.inr (.inr (.inr (.inr (.inl rfl))))))⟩
  · exact ⟨i, rfl, .inr (.inr (.inr (.inr (.inr (.inr (.inr rfl))))))⟩
/-- the last lines of _law_bent -/
def bentEnd : Stms :=
  (.cons (.set 2 (.ite (.isi (.var 1) [.tuple]) (.listOf false (.var 1)) (.lst false (.cons (.var 1) .nil))))
  (.cons (.ret (.ix (.lst false (.cons (.cnon) (.cons (.tup .nil) (.cons (.var 2) (.cons (.cbl true) (.cons (.cstr "in") (.cons (.tup (.cons (.var 1) .nil)) (.cons (.cint 0) (.cons (.edc) .nil))))))))) (.call 30 (.cons (.var 0) (.cons (.cint 8) .nil))))) .nil))
theorem s_bentEnd {dk d w : Nat} {b : Int} {x : P} (D : Deck h dk) (hx : Nice d b w x) (hb : 0 ≤ b) (hw : 1 ≤ w) : ∃ (y : P) (h' : Hh), fin0 (exs (rn (k + 1)) sb bentEnd [some (.ref dk), some (.p x), none, none, none] h) = .ok (.p y) h' ∧ Nice (d + 1) b w y ∧ Hx dk h h' := by
  obtain ⟨r, h', e, r0, r1, H⟩ := s_draw (k := k) (m := 8) D (by decide) (by decide)
  have n1 : Nice (d + 1) b w x := hx.mono (Int.le_refl _) (Nat.le_refl _) d (d + 1) x (by omega)
  have n2 : Nice (d + 1) b w (.tup [x]) := ⟨hw, fun y hy => by rw [List.mem_singleton.mp hy]; exact hx⟩
  have n3 : Nice (d + 1) b w (.lst [x]) := ⟨hw, fun y hy => by rw [List.mem_singleton.mp hy]; exact hx⟩
  have l8 : 8 ≤ line := by decide
  have l1 : 1 ≤ line := by decide
  have go : ∀ inner : P, Nice (d + 1) b w inner → ∃ y, at? [P.non, .tup [], inner, .bl true, .str "in", .tup [x], .int 0, .edc] r = some y ∧ Nice (d + 1) b w y := fun inner hi => by
    obtain ⟨y, e1, e2⟩ := pick8 (a := P.non) (b := .tup []) (c := inner) (d := .bl true) (e := .str "in") (f := .tup [x]) (g := .int 0) (i := .edc) r0 r1
    refine ⟨y, e1, ?_⟩
    rcases e2 with rfl | rfl | rfl | rfl | rfl | rfl | rfl | rfl
    · trivial
    · exact ⟨Nat.zero_le _, fun _ hy => by cases hy⟩
    · exact hi
    · trivial
    · trivial
    · exact n2
    · exact nice_int (by omega)
    · trivial
  by_cases ht : ∃ xs, x = .tup xs
  · obtain ⟨xs, rfl⟩ := ht
    have ni : Nice (d + 1) b w (.lst xs) := n1
    obtain ⟨y, e1, ny⟩ := go (.lst xs) ni
    refine ⟨y, h', ?_, ny, H⟩
    simp [bentEnd, isiD, isiP, listD, allP, allP_map, mkL, okP, e, l8, l1, ixD, e1]
  · obtain ⟨y, e1, ny⟩ := go (.lst [x]) n3
    refine ⟨y, h', ?_, ny, H⟩
    have hi : isiD (.p x) [.tuple] = false := by
      cases x <;> first | rfl | exact absurd ⟨_, rfl⟩ ht
    simp [bentEnd, hi, listD, allP, mkL, okP, e, l8, l1, ixD, e1]
def bentInt : Stm := .iff (.andC (.isi (.var 1) [.int]) (.andC (.notC (.isi (.var 1) [.bool])) (.cmp .gt (.call 30 (.cons (.var 0) (.cons (.cint 5) .nil))) (.cint 0)))) (.cons (.ret (.bin .add (.var 1) (.ix (.lst false (.cons (.cint 1) (.cons (.neg (.cint 1)) (.cons (.cint 2) (.cons (.bin .pow (.cint 10) (.cint 9)) (.cons (.neg (.var 1)) (.cons (.neg (.cint 2)) .nil))))))) (.call 30 (.cons (.var 0) (.cons (.cint 6) .nil)))))) .nil) .nil
theorem s_bentInt {dk d w : Nat} {b : Int} {x : P} (D : Deck h dk) (hx : Nice d b w x) (hb : 0 ≤ b) (hw : 1 ≤ w) : ∃ (y : P) (h' : Hh), fin0 (exs (rn (k + 1)) sb (.cons bentInt bentEnd) [some (.ref dk), some (.p x), none, none, none] h) = .ok (.p y) h' ∧ Nice (d + 1) (b + 1000000000) w y ∧ Hx dk h h' := by
  by_cases hi : ∃ i, x = .int i
  · obtain ⟨i, rfl⟩ := hi
    have hib := nice_int_of hx
    obtain ⟨r, h1, e, r0, r1, H⟩ := s_draw (k := k) (m := 5) D (by decide) (by decide)
    by_cases hr : 0 < r
    · obtain ⟨q, h2, e2, q0, q1, H2⟩ := s_draw (k := k) (m := 6) H.deck (by decide) (by decide)
      obtain ⟨z, ez, hz⟩ := pick6 (a := P.int 1) (b := .int (-1)) (c := .int 2) (d := .int 1000000000) (e := .int (-i)) (f := .int (-2)) q0 q1
      obtain ⟨j, rfl, hj⟩ : ∃ j, z = .int j ∧ -(b + 1000000000) ≤ i + j ∧ i + j ≤ b + 1000000000 := by
        rcases hz with rfl | rfl | rfl | rfl | rfl | rfl
        · exact ⟨_, rfl, by omega, by omega⟩
        · exact ⟨_, rfl, by omega, by omega⟩
        · exact ⟨_, rfl, by omega, by omega⟩
        · exact ⟨_, rfl, by omega, by omega⟩
        · exact ⟨_, rfl, by omega, by omega⟩
        · exact ⟨_, rfl, by omega, by omega⟩
      refine ⟨.int (i + j), h2, ?_, nice_int hj, H.trans H2⟩
      have hp : binI .pow 10 9 = some 1000000000 := by decide
      have l6 : 6 ≤ line := by decide
      simp [bentInt, isiD, isiP, e, e2, cmpD, cmpP, okP, hr, negD, binD, binP, hp, show ∀ i j, binI .add i j = some (i + j) from fun _ _ => rfl, mkL, allP, l6, ixD, ez]
    · obtain ⟨y, h2, e2, ny, H2⟩ := s_bentEnd (k := k) H.deck hx hb hw
      refine ⟨y, h2, ?_, ny.mono (by omega) (Nat.le_refl _) _ _ _ (Nat.le_refl _), H.trans H2⟩
      rw [← e2]
      simp [-exs_cons, bentEnd]
      rw [exs_cons]
      simp [-exs_cons, bentInt, isiD, isiP, e, cmpD, cmpP, okP, hr]
  · obtain ⟨y, h2, e2, ny, H2⟩ := s_bentEnd (k := k) D hx hb hw
    refine ⟨y, h2, ?_, ny.mono (by omega) (Nat.le_refl _) _ _ _ (Nat.le_refl _), H2⟩
    rw [← e2, exs_cons]
    cases x <;> first | exact absurd ⟨_, rfl⟩ hi | simp [-exs_cons, bentInt, isiD, isiP]
end K00

end
section
set_option Elab.async false
set_option maxRecDepth 100000
set_option linter.all false
set_option maxHeartbeats 4000000
namespace K00
open MP
variable {k : Nat} {h : Hh}
theorem cut_lo {α : Type} {xs : List α} {j : Int} (h0 : 0 ≤ j) : cut xs none (some j) = xs.take j.toNat := by
  unfold cut cutAt
  simp only [if_neg (Int.not_lt.mpr h0), List.drop_zero, Nat.sub_zero]
  rcases Nat.le_total j.toNat xs.length with q | q
  · rw [Nat.min_eq_left q]
  · rw [Nat.min_eq_right q, List.take_length, List.take_of_length_le q]
theorem cut_hi {α : Type} {xs : List α} {j : Int} (h0 : 0 ≤ j) : cut xs (some j) none = xs.drop j.toNat := by
  unfold cut cutAt
  simp only [if_neg (Int.not_lt.mpr h0)]
  rcases Nat.le_total j.toNat xs.length with q | q
  · rw [Nat.min_eq_left q]
    exact List.take_of_length_le (by rw [List.length_drop]; exact Nat.le_refl _)
  · rw [Nat.min_eq_right q, List.drop_length, List.drop_eq_nil_of_le q]
    simp
theorem s_bent {dk w : Nat} {b : Int} (hb : 0 ≤ b) (hw : 1 ≤ w) (hw2 : w ≤ 1000) : ∀ (d : Nat) (x : P) (h : Hh), Deck h dk → Nice d b w x → ∃ (y : P) (h' : Hh), rn (k + d + 2) 34 [.ref dk, .p x] h = .ok (.p y) h' ∧ Nice (d + 1) (b + 1000000000) (w + 1) y ∧ Hx dk h h' := by
  intro d
  induction d with
  | zero =>
    intro x h D hx
    rw [show rn (k + 0 + 2) 34 [.ref dk, .p x] h = fin0 (exs (rn (k + 0 + 1)) sb b_law_bent [some (.ref dk), some (.p x), none, none, none] h) from run_in (ds := [.ref dk, .p x]) (fn := f_law_bent.fn) rfl rfl rfl]
    obtain ⟨y, h2, e2, ny, H2⟩ := s_bentInt (k := k) D hx hb hw
    refine ⟨y, h2, ?_, ny.mono (Int.le_refl _) (Nat.le_succ _) _ _ _ (Nat.le_refl _), H2⟩
    rw [← e2]
    have hi : isiD (.p x) [.tuple] = false := by
      cases x <;> first | rfl | exact hx.elim
    rw [show b_law_bent = .cons _ (.cons bentInt bentEnd) from rfl, exs_cons]
    simp [-exs_cons, hi]
  | succ d ih =>
    intro x h D hx
    rw [show rn (k + (d + 1) + 2) 34 [.ref dk, .p x] h = fin0 (exs (rn (k + (d + 1) + 1)) sb b_law_bent [some (.ref dk), some (.p x), none, none, none] h) from run_in (ds := [.ref dk, .p x]) (fn := f_law_bent.fn) rfl rfl rfl]
    -- where the tuple is left as it is
    have fall : ∀ h1, Hx dk h h1 → ∃ (y : P) (h' : Hh), fin0 (exs (rn (k + (d + 1) + 1)) sb (.cons bentInt bentEnd) [some (.ref dk), some (.p x), none, none, none] h1) = .ok (.p y) h' ∧ Nice (d + 1 + 1) (b + 1000000000) (w + 1) y ∧ Hx dk h h' := fun h1 H => by
      obtain ⟨y, h2, e2, ny, H2⟩ := s_bentInt (k := k + (d + 1)) H.deck hx hb hw
      exact ⟨y, h2, e2, ny.mono (Int.le_refl _) (Nat.le_succ _) _ _ _ (Nat.le_refl _), H.trans H2⟩
    by_cases ht : ∃ xs, x = .tup xs ∧ xs ≠ []
    · obtain ⟨xs, rfl, hne⟩ := ht
      have hp : 0 < xs.length := by cases xs <;> simp_all
      have hlw : xs.length ≤ w := hx.1
      have hxs : ∀ y ∈ xs, Nice d b w y := hx.2
      obtain ⟨r, h1, e, r0, r1, H⟩ := s_draw (k := k + (d + 1)) (m := 6) D (by decide) (by decide)
      by_cases hr : 0 < r
      · obtain ⟨q, h2, e2, q0, q1, H2⟩ := s_draw (k := k + (d + 1)) (m := xs.length) H.deck (by omega) (by omega)
        obtain ⟨wy, h3, e3, w0, w1, H3⟩ := s_draw (k := k + (d + 1)) (m := 9) H2.deck (by decide) (by decide)
        have H123 := (H.trans H2).trans H3
        obtain ⟨g, gm⟩ := val_at (vs := xs) (j := q) q0 q1
        have up : ∀ y ∈ xs, Nice (d + 1) (b + 1000000000) (w + 1) y := fun y hy => (hxs y hy).mono (by omega) (by omega) _ _ _ (by omega)
        have hq : q.toNat < xs.length := by omega
        have hq1 : (q + 1).toNat = q.toNat + 1 := by omega
        have mt : ∀ y ∈ xs.take q.toNat, y ∈ xs := fun y hy => List.mem_of_mem_take hy
        have md : ∀ n, ∀ y ∈ xs.drop n, y ∈ xs := fun n y hy => List.mem_of_mem_drop hy
        have lt : (xs.take q.toNat).length = q.toNat := by rw [List.length_take]; omega
        have ld : (xs.drop (q + 1).toNat).length = xs.length - (q.toNat + 1) := by rw [List.length_drop, hq1]
        have hln : xs.length + 2 ≤ line := by
          have : (1002 : Nat) ≤ line := by decide
          omega
        have q1' : 0 ≤ q + 1 := by omega
        by_cases c0 : wy = 0
        · have ha : (xs.take q.toNat).length + (xs.drop (q + 1).toNat).length ≤ line := by omega
          refine ⟨.tup (xs.take q.toNat ++ xs.drop (q + 1).toNat), h3, ?_, ⟨by rw [List.length_append, lt, ld]; omega, fun y hy => ?_⟩, H123⟩
          · simp [-List.length_take, -List.length_drop, b_law_bent, isiD, isiP, cmpD, cmpP, eqP, okP, allP, hne, e, hr, biD, bi1_len, e2, e3, c0, optI, slD, cut_lo q0, cut_hi q1', binD, binP, binI, ha]
          · rcases List.mem_append.mp hy with z | z
            · exact up y (mt y z)
            · exact up y (md _ y z)
        · by_cases c1 : wy = 1
          · have ha : (xs.take q.toNat).length + 2 ≤ line := by omega
            have ha2 : (xs.take q.toNat ++ [valAt xs q, valAt xs q]).length + (xs.drop (q + 1).toNat).length ≤ line := by rw [List.length_append, lt, ld]; simp; omega
            have l2 : 2 ≤ line := by decide
            refine ⟨.tup ((xs.take q.toNat ++ [valAt xs q, valAt xs q]) ++ xs.drop (q + 1).toNat), h3, ?_, ⟨by rw [List.length_append, List.length_append, lt, ld]; simp; omega, fun y hy => ?_⟩, H123⟩
            · simp [-List.length_take, -List.length_drop, -List.length_append, -List.append_assoc, b_law_bent, isiD, isiP, cmpD, cmpP, eqP, okP, allP, hne, e, hr, biD, bi1_len, e2, e3, c0, c1, optI, slD, cut_lo q0, cut_hi q1', binD, binP, binI, ha, ha2, ixD, g, l2]
            · rcases List.mem_append.mp hy with z | z
              · rcases List.mem_append.mp z with z | z
                · exact up y (mt y z)
                · have : y = valAt xs q := by simpa using z
                  rw [this]
                  exact up _ gm
              · exact up y (md _ y z)
          · by_cases c2 : wy = 2
            · have ld2 : (xs.drop q.toNat).reverse.length = xs.length - q.toNat := by rw [List.length_reverse, List.length_drop]
              have ha : (xs.take q.toNat).length + (xs.drop q.toNat).reverse.length ≤ line := by omega
              refine ⟨.tup (xs.take q.toNat ++ (xs.drop q.toNat).reverse), h3, ?_, ⟨by rw [List.length_append, lt, ld2]; omega, fun y hy => ?_⟩, H123⟩
              · simp [-List.length_take, -List.length_drop, -List.length_reverse, b_law_bent, isiD, isiP, cmpD, cmpP, eqP, okP, allP, hne, e, hr, biD, bi1_len, e2, e3, c0, c1, c2, optI, slD, cut_lo q0, cut_hi q0, binD, binP, binI, ha, revD]
              · rcases List.mem_append.mp hy with z | z
                · exact up y (mt y z)
                · exact up y (md _ y (List.mem_reverse.mp z))
            · obtain ⟨y, h4, e4, ny, H4⟩ := ih (valAt xs q) h3 H3.deck (hxs _ gm)
              have ha : (xs.take q.toNat).length + 1 ≤ line := by omega
              have ha2 : (xs.take q.toNat ++ [y]).length + (xs.drop (q + 1).toNat).length ≤ line := by rw [List.length_append, lt, ld]; simp; omega
              have l1 : 1 ≤ line := by decide
              refine ⟨.tup ((xs.take q.toNat ++ [y]) ++ xs.drop (q + 1).toNat), h4, ?_, ⟨by rw [List.length_append, List.length_append, lt, ld]; simp; omega, fun z hz => ?_⟩, H123.trans H4⟩
              · have e4' : rn (k + (d + 1) + 1) 34 [.ref dk, .p (valAt xs q)] h3 = .ok (.p y) h4 := e4
                simp [-List.length_take, -List.length_drop, -List.length_append, -List.append_assoc, b_law_bent, isiD, isiP, cmpD, cmpP, eqP, okP, allP, hne, e, hr, biD, bi1_len, e2, e3, c0, c1, c2, optI, slD, cut_lo q0, cut_hi q1', binD, binP, binI, ha, ha2, ixD, g, l1, e4']
              · rcases List.mem_append.mp hz with z1 | z1
                · rcases List.mem_append.mp z1 with z1 | z1
                  · exact up z (mt z z1)
                  · rw [List.mem_singleton.mp z1]
                    exact ny
                · exact up z (md _ z z1)
      · obtain ⟨y, h2, e2, ny, H2⟩ := fall h1 H
        refine ⟨y, h2, ?_, ny, H2⟩
        rw [← e2, show b_law_bent = .cons _ (.cons bentInt bentEnd) from rfl, exs_cons]
        simp [-exs_cons, isiD, isiP, cmpD, cmpP, eqP, okP, allP, hne, e, hr]
    · obtain ⟨y, h2, e2, ny, H2⟩ := fall h (Hx.refl D)
      refine ⟨y, h2, ?_, ny, H2⟩
      rw [← e2, show b_law_bent = .cons _ (.cons bentInt bentEnd) from rfl, exs_cons]
      cases x <;> try (simp [-exs_cons, isiD, isiP]; done)
      rename_i xs
      have : xs = [] := by
        by_cases q : xs = []
        · exact q
        · exact absurd ⟨xs, rfl, q⟩ ht
      subst this
      simp [-exs_cons, isiD, isiP, cmpD, cmpP, eqP, okP, allP]
end K00

end
section
set_option Elab.async false
set_option maxRecDepth 100000
set_option linter.all false
set_option maxHeartbeats 4000000
namespace K00
open MP
variable {k : Nat} {h : Hh}
theorem s_kept (s o : P) (hb : nOf o < big) : rn (k + 4) 44 [.p s, .p o] h = .ok (.p (if isSys o = true ∧ nOf o > 12 then s else o)) h := by
  rw [show rn (k + 4) 44 [.p s, .p o] h = fin h (exs (rn (k + 3)) sb b_law_kept_small [some (.p s), some (.p o)] []) from run_gc (xs := [s, o]) (fn := f_law_kept_small.fn) rfl rfl rfl]
  have es := s_law_is_system (k := k) (h := []) o hb
  cases hs : isSys o
  · simp [b_law_kept_small, es, hs]
  · obtain ⟨n, rows, rfl, _⟩ := isSys_iff.mp hs
    have en : nOf (.tup [.int n, .tup rows]) = n := rfl
    by_cases h12 : 12 < n
    · simp [b_law_kept_small, es, hs, ixD, at2_0, okP, cmpD, cmpP, en, h12]
    · simp [b_law_kept_small, es, hs, ixD, at2_0, okP, cmpD, cmpP, en, h12]
theorem s_system_error (v : P) (hs : isSys v = false) : rn (k + 8) 49 [.p v] h = .ok (.p (.bl true)) h := by
  rw [show rn (k + 8) 49 [.p v] h = fin h (exs (rn (k + 7)) sb b_law_system_error [some (.p v), none, none] []) from run_gc (xs := [v]) (fn := f_law_system_error.fn) rfl rfl rfl]
  have e := e_decide (k := k) (h := []) v hs
  have t : ex (rn (k + 7)) sb (.tryAs (.cons (.expr (.call 27 (.cons (.var 0) .nil))) .nil) 0 2 1 (.andS (.isE 1) (.andS (.isE 5) (.notS (.isE 2))))) [some (.p v), some (.p (.bl false)), none] [] = .nx [some (.p v), some (.p (.bl true)), none] [] := by
    have e2 : exs (rn (k + 7)) sb (.cons (.expr (.call 27 (.cons (.var 0) .nil))) .nil) [some (.p v), some (.p (.bl false)), none] [] = .exc 1 [some (.p v), some (.p (.bl false)), none] [] := by simp [e]
    simp only [ex, e2, show sb 1 0 = some true from rfl, evS, show sb 1 1 = some true from rfl, show sb 1 5 = some true from rfl, show sb 1 2 = some false from rfl, Option.map_some]
    rfl
  simp [b_law_system_error, t]
/-! a drawn system -/
structure Drawn (most many : Int) (s : P) : Prop where
  sys : isSys s = true
  n : 0 ≤ nOf s ∧ nOf s ≤ most
  rows : ((rowsOf s).length : Int) ≤ many
  cs : ∀ r ∈ rowsOf s, -1000000000 ≤ rc r ∧ rc r ≤ 1000000000
end K00

end
section
set_option Elab.async false
set_option maxRecDepth 100000
set_option linter.all false
set_option maxHeartbeats 4000000
namespace K00
open MP
variable {k : Nat} {h : Hh}
theorem forL_inv {body : En → Hh → MP.X} {tg : Tg} (Inv : Nat → En → Hh → Prop) : ∀ {xs : List P} {i : Nat} {ρ : En} {h : Hh}, (∀ j x ρ h, xs[j]? = some x → Inv (i + j) ρ h → ∃ ρ1 ρ2 h2, asg tg x ρ = some ρ1 ∧ body ρ1 h = .nx ρ2 h2 ∧ Inv (i + j + 1) ρ2 h2) → Inv i ρ h →
    ∃ ρ' h', forL body tg xs ρ h = .nx ρ' h' ∧ Inv (i + xs.length) ρ' h'
  | [], i, ρ, h, _, hi => ⟨ρ, h, rfl, hi⟩
  | x :: xs, i, ρ, h, hs, hi => by
    obtain ⟨ρ1, ρ2, h2, e1, e2, i2⟩ := hs 0 x ρ h rfl hi
    obtain ⟨ρ', h', e3, i3⟩ := forL_inv Inv (xs := xs) (i := i + 1) (ρ := ρ2) (h := h2) (fun j y ρ h hj hI => by
      obtain ⟨a, b, c, q1, q2, q3⟩ := hs (j + 1) y ρ h (by simpa using hj) (by rw [show i + (j + 1) = i + 1 + j by omega]; exact hI)
      exact ⟨a, b, c, q1, q2, by rw [show i + 1 + j + 1 = i + (j + 1) + 1 by omega]; exact q3⟩) i2
    refine ⟨ρ', h', ?_, by rw [List.length_cons, show i + (xs.length + 1) = i + 1 + xs.length by omega]; exact i3⟩
    simp only [forL, e1, e2, e3]
theorem pick4 {α : Type} {a b c d : α} {r : Int} (h0 : 0 ≤ r) (h1 : r < 4) : ∃ x, at? [a, b, c, d] r = some x ∧ (x = a ∨ x = b ∨ x = c ∨ x = d) := by
  have : r = 0 ∨ r = 1 ∨ r = 2 ∨ r = 3 := by omega
  rcases this with rfl | rfl | rfl | rfl
  · exact ⟨a, rfl, .inl rfl⟩
  · exact ⟨b, rfl, .inr (.inl rfl)⟩
  · exact ⟨c, rfl, .inr (.inr (.inl rfl))⟩
  · exact ⟨d, rfl, .inr (.inr (.inr rfl))⟩
/-- one row drawn -/
def sysBody : Stms := (.cons (.set 7 (.call 30 (.cons (.var 0) (.cons (.bin .add (.var 3) (.cint 1)) .nil))))
    (.cons (.set 8 (.bin .mod (.bin .add (.bin .add (.var 7) (.cint 1)) (.call 30 (.cons (.var 0) (.cons (.var 3) .nil)))) (.bin .add (.var 3) (.cint 1))))
    (.cons (.app (.var 5) (.tup (.cons (.var 7) (.cons (.var 8) (.cons (.bin .sub (.call 30 (.cons (.var 0) (.cons (.var 4) .nil))) (.ix (.lst false (.cons (.cint 0) (.cons (.cint 1) (.cons (.cint 2) (.cons (.bin .fdiv (.var 4) (.cint 2)) .nil))))) (.call 30 (.cons (.var 0) (.cons (.cint 4) .nil))))) .nil))))) .nil)))
def RowD (n : Int) (r : P) : Prop := isDiffN n r = true ∧ -1000000000 ≤ rc r ∧ rc r ≤ 1000000000
theorem s_sysBody {dk rid : Nat} {most many n wide : Int} {o6 o7 o8 : Option D} {rows : List P} (D0 : Deck h dk) (hn : 0 < n) (hn2 : n ≤ 100) (hw : 6 ≤ wide) (hw2 : wide ≤ 500000000) (hne : rid ≠ dk) (hr : h[rid]? = some (rows.map D.p)) (hl : rows.length < 1000000) :
    ∃ (r : P) (h' : Hh) (x y : Option D), exs (rn (k + 1)) sb sysBody [some (.ref dk), some (.p (.int most)), some (.p (.int many)), some (.p (.int n)), some (.p (.int wide)), some (.ref rid), o6, o7, o8] h = .nx [some (.ref dk), some (.p (.int most)), some (.p (.int many)), some (.p (.int n)), some (.p (.int wide)), some (.ref rid), o6, x, y] h' ∧
      RowD n r ∧ Deck h' dk ∧ h.length ≤ h'.length ∧ h'[rid]? = some ((rows ++ [r]).map D.p) ∧ ∀ m, m < h.length → m ≠ dk → m ≠ rid → h'[m]? = h[m]? := by
  have hlt : rid < h.length := lt_of_get hr
  obtain ⟨x, h1, e1, x0, x1, H1⟩ := s_draw (k := k) (m := n + 1) D0 (by omega) (by omega)
  obtain ⟨t, h2, e2, t0, t1, H2⟩ := s_draw (k := k) (m := n) H1.deck hn (by omega)
  obtain ⟨c, h3, e3, c0, c1, H3⟩ := s_draw (k := k) (m := wide) H2.deck (by omega) (by omega)
  obtain ⟨q, h4, e4, q0, q1, H4⟩ := s_draw (k := k) (m := 4) H3.deck (by decide) (by decide)
  have H := ((H1.trans H2).trans H3).trans H4
  obtain ⟨z, ez, hz⟩ := pick4 (a := P.int 0) (b := .int 1) (c := .int 2) (d := .int (wide / 2)) q0 q1
  obtain ⟨j, rfl, j0, j1⟩ : ∃ j, z = .int j ∧ 0 ≤ j ∧ j ≤ wide := by
    rcases hz with rfl | rfl | rfl | rfl
    · exact ⟨_, rfl, by omega, by omega⟩
    · exact ⟨_, rfl, by omega, by omega⟩
    · exact ⟨_, rfl, by omega, by omega⟩
    · exact ⟨_, rfl, by omega, by omega⟩
  have y0 : 0 ≤ (x + 1 + t) % (n + 1) := Int.emod_nonneg _ (by omega)
  have y1 : (x + 1 + t) % (n + 1) < n + 1 := Int.emod_lt_of_pos _ (by omega)
  have yx : x ≠ (x + 1 + t) % (n + 1) := by
    rcases (show x + 1 + t < n + 1 ∨ n + 1 ≤ x + 1 + t by omega) with q | q
    · rw [Int.emod_eq_of_lt (by omega) q]; omega
    · have : (x + 1 + t) % (n + 1) = x + 1 + t - (n + 1) := by
        rw [← Int.sub_emod_right, Int.emod_eq_of_lt (by omega) (by omega)]
      rw [this]; omega
  have hr4 : h4[rid]? = some (rows.map D.p) := (H.same rid hlt hne).trans hr
  have hlt4 : rid < h4.length := lt_of_get hr4
  have hll : rows.length < line := hl
  refine ⟨.tup [.int x, .int ((x + 1 + t) % (n + 1)), .int (c - j)], h4.set rid ((rows ++ [P.tup [.int x, .int ((x + 1 + t) % (n + 1)), .int (c - j)]]).map D.p), some (.p (.int x)), some (.p (.int ((x + 1 + t) % (n + 1)))), ?_, ⟨?_, ?_, ?_⟩, ?_, ?_, List.getElem?_set_self hlt4, fun m hm m1 m2 => ?_⟩
  · have l4 : 4 ≤ line := by decide
    have l3 : 3 ≤ line := by decide
    simp [sysBody, binD, binP, binI, okP, e1, e2, e3, e4, mkL, allP, l4, l3, ixD, ez, hr4, hll, show 0 < n + 1 by omega]
  · exact isDiffN_eq.mpr ⟨_, _, _, rfl, x0, y0, yx, by omega, by omega⟩
  · simp only [rc]; omega
  · simp only [rc]; omega
  · obtain ⟨a, b, e, ha, hb⟩ := H.deck
    exact ⟨a, b, by rw [List.getElem?_set_ne hne]; exact e, ha, hb⟩
  · rw [List.length_set]; exact H.len
  · rw [List.getElem?_set_ne (Ne.symm m2)]
    exact H.same m hm m1
end K00

end
section
set_option Elab.async false
set_option maxRecDepth 100000
set_option linter.all false
set_option maxHeartbeats 4000000
namespace K00
open MP
variable {k : Nat} {h : Hh}
theorem rangeP_len {a b : Int} : (rangeP a b).length = (b - a).toNat := by simp [rangeP]
/-- the loop of _law_system -/
theorem s_sysLoop {dk rid : Nat} {most many n wide m : Int} (D0 : Deck h dk) (hn : 0 < m → 0 < n) (hn2 : n ≤ 100) (hw : 6 ≤ wide) (hw2 : wide ≤ 500000000) (hne : rid ≠ dk) (hr : h[rid]? = some []) (hm : m ≤ 1000) :
    ∃ (rows : List P) (h' : Hh) (o6 o7 o8 : Option D), forL (exs (rn (k + 1)) sb sysBody) (.nm 6) (rangeP 0 m) [some (.ref dk), some (.p (.int most)), some (.p (.int many)), some (.p (.int n)), some (.p (.int wide)), some (.ref rid), none, none, none] h =
      .nx [some (.ref dk), some (.p (.int most)), some (.p (.int many)), some (.p (.int n)), some (.p (.int wide)), some (.ref rid), o6, o7, o8] h' ∧ rows.length = m.toNat ∧ (∀ r ∈ rows, RowD n r) ∧ Deck h' dk ∧ h.length ≤ h'.length ∧ h'[rid]? = some (rows.map D.p) ∧ ∀ i, i < h.length → i ≠ dk → i ≠ rid → h'[i]? = h[i]? := by
  have hl : (rangeP 0 m).length = m.toNat := by rw [rangeP_len, Int.sub_zero]
  obtain ⟨ρ', h', e, o6, o7, o8, rows, e1, e2, e3, e4, e5, e6, e7⟩ := forL_inv (body := exs (rn (k + 1)) sb sysBody) (tg := .nm 6) (fun i ρ h' => ∃ (o6 o7 o8 : Option D) (rows : List P), ρ = [some (.ref dk), some (.p (.int most)), some (.p (.int many)), some (.p (.int n)), some (.p (.int wide)), some (.ref rid), o6, o7, o8] ∧
      rows.length = i ∧ (∀ r ∈ rows, RowD n r) ∧ Deck h' dk ∧ h.length ≤ h'.length ∧ h'[rid]? = some (rows.map D.p) ∧ ∀ i, i < h.length → i ≠ dk → i ≠ rid → h'[i]? = h[i]?) (xs := rangeP 0 m) (i := 0) (ρ := [some (.ref dk), some (.p (.int most)), some (.p (.int many)), some (.p (.int n)), some (.p (.int wide)), some (.ref rid), none, none, none]) (h := h) (fun j x ρ h1 hj hI => by
      obtain ⟨o6, o7, o8, rows, rfl, l1, v1, d1, g1, r1, s1⟩ := hI
      have hjl := lt_of_get hj
      rw [hl] at hjl
      have hmp : 0 < m := by omega
      obtain ⟨r, h2, a, b, b1, b2, b3, b4, b5, b6⟩ := s_sysBody (k := k) (most := most) (many := many) (o6 := some (.p x)) (o7 := o7) (o8 := o8) d1 (hn hmp) hn2 hw hw2 hne r1 (by omega)
      refine ⟨_, _, h2, rfl, b1, some (.p x), a, b, rows ++ [r], rfl, by rw [List.length_append, l1]; rfl, fun y hy => ?_, b3, Nat.le_trans g1 b4, b5, fun i hi i1 i2 => (b6 i (Nat.lt_of_lt_of_le hi g1) i1 i2).trans (s1 i hi i1 i2)⟩
      rcases List.mem_append.mp hy with z | z
      · exact v1 y z
      · rw [List.mem_singleton.mp z]
        exact b2) ⟨none, none, none, [], rfl, rfl, (fun _ hq => absurd hq (List.not_mem_nil)), D0, Nat.le_refl _, hr, fun _ _ _ _ => rfl⟩
  subst e1
  rw [Nat.zero_add, hl] at e2
  exact ⟨rows, h', o6, o7, o8, e, e2, e3, e4, e5, e6, e7⟩
end K00

end
section
set_option Elab.async false
set_option maxRecDepth 100000
set_option linter.all false
set_option maxHeartbeats 4000000
namespace K00
open MP
variable {k : Nat} {h : Hh}
theorem s_system {dk : Nat} {most many : Int} (D0 : Deck h dk) (m0 : 0 ≤ most) (m1 : most ≤ 50) (n0 : 0 ≤ many) (n1 : many ≤ 100) :
    ∃ (s : P) (h' : Hh), rn (k + 2) 35 [.ref dk, .p (.int most), .p (.int many)] h = .ok (.p s) h' ∧ Drawn most many s ∧ Hx dk h h' := by
  rw [show rn (k + 2) 35 [.ref dk, .p (.int most), .p (.int many)] h = fin0 (exs (rn (k + 1)) sb b_law_system [some (.ref dk), some (.p (.int most)), some (.p (.int many)), none, none, none, none, none, none] h) from run_in (ds := [.ref dk, .p (.int most), .p (.int many)]) (fn := f_law_system.fn) rfl rfl rfl]
  obtain ⟨n, h1, e1, x0, x1, H1⟩ := s_draw (k := k) (m := most + 1) D0 (by omega) (by omega)
  obtain ⟨q, h2, e2, q0, q1, H2⟩ := s_draw (k := k) (m := 4) H1.deck (by decide) (by decide)
  obtain ⟨z, ez, hz⟩ := pick4 (a := P.int 6) (b := .int 6) (c := .int 12) (d := .int 500000000) q0 q1
  obtain ⟨wide, rfl, w0, w1⟩ : ∃ j, z = .int j ∧ 6 ≤ j ∧ j ≤ 500000000 := by
    rcases hz with rfl | rfl | rfl | rfl
    · exact ⟨_, rfl, by omega, by omega⟩
    · exact ⟨_, rfl, by omega, by omega⟩
    · exact ⟨_, rfl, by omega, by omega⟩
    · exact ⟨_, rfl, by omega, by omega⟩
  have H12 := H1.trans H2
  have dlt : dk < h2.length := by
    obtain ⟨a, b, e, _⟩ := H12.deck
    exact lt_of_get e
  have D3 : Deck (h2 ++ [[]]) dk := by
    obtain ⟨a, b, e, ha, hb⟩ := H12.deck
    exact ⟨a, b, by rw [List.getElem?_append_left dlt]; exact e, ha, hb⟩
  have hp : binI .pow 10 9 = some 1000000000 := by decide
  have hf : binI .fdiv 1000000000 2 = some 500000000 := by decide
  have l4 : 4 ≤ line := by decide
  have l0 : 0 ≤ line := by decide
  have l2 : 2 ≤ line := by decide
  -- how many turns
  obtain ⟨m, h3, em, t0, t1, tn, H3⟩ : ∃ (m : Int) (h3 : Hh), ev (rn (k + 1)) (.ite (.cmp .gt (.var 3) (.cint 0)) (.call 30 (.cons (.var 0) (.cons (.bin .add (.var 2) (.cint 1)) .nil))) (.cint 0)) [some (.ref dk), some (.p (.int most)), some (.p (.int many)), some (.p (.int n)), some (.p (.int wide)), some (.ref h2.length), none, none, none] (h2 ++ [[]]) = .ok (.p (.int m)) h3 ∧ 0 ≤ m ∧ m ≤ many ∧ (0 < m → 0 < n) ∧ Hx dk (h2 ++ [[]]) h3 := by
    by_cases hn : 0 < n
    · obtain ⟨m, h3, e3, a, b, H3⟩ := s_draw (k := k) (m := many + 1) D3 (by omega) (by omega)
      exact ⟨m, h3, by simp [cmpD, cmpP, okP, hn, binD, binP, binI, e3], a, by omega, fun _ => hn, H3⟩
    · exact ⟨0, _, by simp [cmpD, cmpP, okP, hn], by omega, n0, fun hh => by omega, Hx.refl D3⟩
  have rne : h2.length ≠ dk := by omega
  have hrid : h3[h2.length]? = some [] := by
    rw [H3.same _ (by simp) rne]
    simp
  obtain ⟨rows, h4, o6, o7, o8, el, rl, rv, D4, g4, r4, s4⟩ := s_sysLoop (k := k) (dk := dk) (rid := h2.length) (most := most) (many := many) (n := n) (wide := wide) (m := m) H3.deck tn (by omega) w0 w1 rne hrid (by omega)
  have hk : rgOk 0 m = true := rgOk_small t0 (by omega)
  have hfor : ex (rn (k + 1)) sb (.forS .range (.cons (.ite (.cmp .gt (.var 3) (.cint 0)) (.call 30 (.cons (.var 0) (.cons (.bin .add (.var 2) (.cint 1)) .nil))) (.cint 0)) .nil) (.nm 6) sysBody) [some (.ref dk), some (.p (.int most)), some (.p (.int many)), some (.p (.int n)), some (.p (.int wide)), some (.ref h2.length), none, none, none] (h2 ++ [[]]) = .nx [some (.ref dk), some (.p (.int most)), some (.p (.int many)), some (.p (.int n)), some (.p (.int wide)), some (.ref h2.length), o6, o7, o8] h4 := by
    rw [ex_for_items (ds := [.p (.int m)]) (h1 := h3) (xs := rangeP 0 m) (by rw [evs_cons, em]; simp) (by simp [itemsOf, hk])]
    exact el
  refine ⟨.tup [.int n, .tup rows], h4, ?_, ⟨isSys_iff.mpr ⟨n, rows, rfl, x0, fun r hr => (rv r hr).1⟩, ⟨x0, by show n ≤ most; omega⟩, by show (rows.length : Int) ≤ many; omega, fun r hr => (rv r hr).2⟩, ?_⟩
  · have hfor' := hfor
    unfold sysBody at hfor'
    simp [-ev_ite, b_law_system, binD, binP, okP, e1, e2, hp, hf, show ∀ i j, binI .add i j = some (i + j) from fun _ _ => rfl, mkL, allP, l4, l0, l2, ixD, ez, hfor', biD, bi1, r4, allP_map]
  · refine ⟨D4, ?_, fun i hi hd => ?_⟩
    · have := H12.len
      have := H3.len
      simp at this
      omega
    · have hi2 : i < h2.length := Nat.lt_of_lt_of_le hi H12.len
      rw [s4 i (by have := H3.len; simp at this; omega) hd (by omega), H3.same i (by simp; omega) hd, List.getElem?_append_left hi2]
      exact H12.same i hi hd
end K00

end
section
set_option Elab.async false
set_option maxRecDepth 100000
set_option linter.all false
set_option maxHeartbeats 4000000
namespace K00
open MP
variable {k : Nat} {h : Hh}
def walkBody : Stms := (.cons (.set 5 (.comp false .range (.cons (.bi .len (.cons (.var 1) .nil)) .nil) (.nm 6) (.cons (.cmp .eq (.ix (.ix (.var 1) (.var 6)) (.cint 0)) (.ix (.ix (.var 1) (.ix (.var 3) (.neg (.cint 1)))) (.cint 1))) .nil) (.var 6)))
    (.cons (.iff (.cmp .ne (.var 5) (.lst false .nil)) (.cons (.app (.var 3) (.ix (.var 5) (.call 30 (.cons (.var 0) (.cons (.bi .len (.cons (.var 5) .nil)) .nil))))) .nil) .nil) .nil))
theorem at_last {α : Type} {xs : List α} (hn : xs ≠ []) : at? xs (-1) = some (xs.getLast hn) := by
  have hp : 0 < xs.length := by cases xs <;> simp_all
  unfold at?
  rw [if_neg (by decide), if_pos (by omega), List.getLast_eq_getElem, List.getElem?_eq_getElem (by omega)]
  congr 2
  omega
theorem s_walkBody {dk rid : Nat} {rows vs : List P} {most : Int} {o4 o5 o6 : Option D} (D0 : Deck h dk) (hr : RowsP rows) (hl : rows.length ≤ 1000) (hne : rid ≠ dk) (hv : h[rid]? = some (vs.map D.p)) (hn : vs ≠ []) (ha : vs.all (isIx rows.length) = true) (hvl : vs.length ≤ 1000) :
    ∃ (vs' : List P) (h' : Hh) (y : Option D), exs (rn (k + 1)) sb walkBody [some (.ref dk), some (.p (.tup rows)), some (.p (.int most)), some (.ref rid), o4, o5, o6] h = .nx [some (.ref dk), some (.p (.tup rows)), some (.p (.int most)), some (.ref rid), o4, y, o6] h' ∧
      vs' ≠ [] ∧ vs'.all (isIx rows.length) = true ∧ vs'.length ≤ vs.length + 1 ∧ Deck h' dk ∧ h.length ≤ h'.length ∧ h'[rid]? = some (vs'.map D.p) ∧ ∀ m, m < h.length → m ≠ dk → m ≠ rid → h'[m]? = h[m]? := by
  have hk : rgOk 0 (rows.length : Int) = true := rgOk_small (by omega) (by omega)
  have hvn : vs.map D.p ≠ [] := by simpa using hn
  have elast : at? (vs.map D.p) (-1) = some (.p (vs.getLast hn)) := by rw [at_last hvn, List.getLast_map]
  obtain ⟨i0, x0, y0, c0, a0, b0, d0⟩ := row_at hr (List.all_eq_true.mp ha _ (List.getLast_mem hn))
  have hc : compV (rn (k + 1)) [some (.ref dk), some (.p (.tup rows)), some (.p (.int most)), some (.ref rid), o4, o5, o6] false .range (.nm 6) (.cons (.cmp .eq (.ix (.ix (.var 1) (.var 6)) (.cint 0)) (.ix (.ix (.var 1) (.ix (.var 3) (.neg (.cint 1)))) (.cint 1))) .nil) (.var 6) [.p (.int rows.length)] h = .ok (.p (.lst ((rangeP 0 rows.length).filter fun j => decide (rx (rowAt rows j) = y0)))) h := by
    refine compV_filter (g := fun j => decide (rx (rowAt rows j) = y0)) (by simp [itemsOf, hk]) (fun x hx => ?_)
    obtain ⟨j, rfl, e0, hm⟩ := row_in hx
    obtain ⟨x1, y1, c1, e1⟩ := hr _ hm
    rw [e1] at e0
    by_cases hf : x1 = y0
    · simp [item, asg, wipeE, Tg.slots, evc, ixD, e0, e1, okP, okD, negD, at3_0, at3_1, hv, elast, a0, b0, cmpD, cmpP, eqP, rx, hf]
    · simp [item, asg, wipeE, Tg.slots, evc, ixD, e0, e1, okP, okD, negD, at3_0, at3_1, hv, elast, a0, b0, cmpD, cmpP, eqP, rx, hf]
  generalize hon : (rangeP 0 (rows.length : Int)).filter (fun j => decide (rx (rowAt rows j) = y0)) = on at hc
  have l0 : 0 ≤ line := by decide
  by_cases ho : on = []
  · subst ho
    refine ⟨vs, h, some (.p (.lst [])), ?_, hn, ha, Nat.le_succ _, D0, Nat.le_refl _, hv, fun _ _ _ _ => rfl⟩
    simp [walkBody, biD, bi1_len, hc, l0, mkL, allP, cmpD, cmpP, eqP, okP]
  · have hop : 0 < on.length := by cases on <;> simp_all
    have hol : on.length ≤ 1000 := by
      rw [← hon]
      refine Nat.le_trans (List.length_filter_le _ _) ?_
      rw [rangeP_len]; omega
    obtain ⟨r, h2, e2, r0, r1, H⟩ := s_draw (k := k) (m := on.length) D0 (by omega) (by omega)
    obtain ⟨g, gm⟩ := val_at (vs := on) (j := r) r0 r1
    have gi : isIx rows.length (valAt on r) = true := by
      rw [← hon] at gm
      obtain ⟨j, ej, j0, j1⟩ := mem_rangeP (List.mem_filter.mp gm).1
      rw [hon] at ej
      exact isIx_iff.mpr ⟨j, ej, j0, j1⟩
    have hlt : rid < h.length := lt_of_get hv
    have hv2 : h2[rid]? = some (vs.map D.p) := (H.same rid hlt hne).trans hv
    have hll : vs.length < line := by
      have : (1001 : Nat) ≤ line := by decide
      omega
    refine ⟨vs ++ [valAt on r], h2.set rid ((vs ++ [valAt on r]).map D.p), some (.p (.lst on)), ?_, by simp, by simp [ha, gi], by simp, ?_, by rw [List.length_set]; exact H.len, List.getElem?_set_self (lt_of_get hv2), fun m hm m1 m2 => by rw [List.getElem?_set_ne (Ne.symm m2)]; exact H.same m hm m1⟩
    · simp [walkBody, biD, bi1_len, hc, l0, mkL, allP, cmpD, cmpP, eqP, okP, ho, bi1, e2, ixD, g, hv2, hll]
    · obtain ⟨a, b, e, hha, hhb⟩ := H.deck
      exact ⟨a, b, by rw [List.getElem?_set_ne hne]; exact e, hha, hhb⟩
end K00

end
section
set_option Elab.async false
set_option maxRecDepth 100000
set_option linter.all false
set_option maxHeartbeats 4000000
namespace K00
open MP
variable {k : Nat} {h : Hh}
theorem s_walk {dk : Nat} {rows : List P} {most : Int} (D0 : Deck h dk) (hr : RowsP rows) (hl : rows.length ≤ 1000) (m0 : 0 < most) (m1 : most ≤ 100) :
    ∃ (vs : List P) (h' : Hh), rn (k + 2) 42 [.ref dk, .p (.tup rows), .p (.int most)] h = .ok (.p (.tup vs)) h' ∧ (rows ≠ [] → vs ≠ []) ∧ (rows = [] → vs = []) ∧ vs.all (isIx rows.length) = true ∧ vs.length ≤ 101 ∧ Hx dk h h' := by
  rw [show rn (k + 2) 42 [.ref dk, .p (.tup rows), .p (.int most)] h = fin0 (exs (rn (k + 1)) sb b_law_walk [some (.ref dk), some (.p (.tup rows)), some (.p (.int most)), none, none, none, none] h) from run_in (ds := [.ref dk, .p (.tup rows), .p (.int most)]) (fn := f_law_walk.fn) rfl rfl rfl]
  have l0 : 0 ≤ line := by decide
  have l1 : 1 ≤ line := by decide
  by_cases hne : rows = []
  · subst hne
    exact ⟨[], h, by simp [b_law_walk, cmpD, cmpP, eqP, okP, allP, l0], fun z => absurd rfl z, fun _ => rfl, rfl, Nat.zero_le _, Hx.refl D0⟩
  · have hp : 0 < rows.length := by cases rows <;> simp_all
    obtain ⟨r, h1, e1, r0, r1, H1⟩ := s_draw (k := k) (m := rows.length) D0 (by omega) (by omega)
    have dlt : dk < h1.length := by
      obtain ⟨a, b, e, _⟩ := H1.deck
      exact lt_of_get e
    have D2 : Deck (h1 ++ [[.p (.int r)]]) dk := by
      obtain ⟨a, b, e, ha, hb⟩ := H1.deck
      exact ⟨a, b, by rw [List.getElem?_append_left dlt]; exact e, ha, hb⟩
    obtain ⟨t, h2, e2, t0, t1, H2⟩ := s_draw (k := k) (m := most) D2 m0 (by omega)
    have rne : h1.length ≠ dk := by omega
    have hv2 : h2[h1.length]? = some ([P.int r].map D.p) := by
      rw [H2.same _ (by simp) rne]
      simp
    have hk : rgOk 0 t = true := rgOk_small t0 (by omega)
    have hlen : (rangeP 0 t).length = t.toNat := by rw [rangeP_len, Int.sub_zero]
    obtain ⟨ρ', h3, el, o4, o5, o6, vs, f1, f2, f3, f4, f5, f6, f7, f8⟩ := forL_inv (body := exs (rn (k + 1)) sb walkBody) (tg := .nm 4) (fun i ρ h' => ∃ (o4 o5 o6 : Option D) (vs : List P), ρ = [some (.ref dk), some (.p (.tup rows)), some (.p (.int most)), some (.ref h1.length), o4, o5, o6] ∧
        vs ≠ [] ∧ vs.all (isIx rows.length) = true ∧ vs.length ≤ i + 1 ∧ Deck h' dk ∧ h2.length ≤ h'.length ∧ h'[h1.length]? = some (vs.map D.p) ∧ ∀ i, i < h2.length → i ≠ dk → i ≠ h1.length → h'[i]? = h2[i]?) (xs := rangeP 0 t) (i := 0) (ρ := [some (.ref dk), some (.p (.tup rows)), some (.p (.int most)), some (.ref h1.length), none, none, none]) (h := h2) (fun j x ρ h4 hj hI => by
        obtain ⟨o4, o5, o6, vs, rfl, g1, g2, g3, g4, g5, g6, g7⟩ := hI
        have hjl := lt_of_get hj
        rw [hlen] at hjl
        obtain ⟨vs', h5, y, b1, b2, b3, b4, b5, b6, b7, b8⟩ := s_walkBody (k := k) (most := most) (o4 := some (.p x)) (o5 := o5) (o6 := o6) g4 hr hl rne g6 g1 g2 (by omega)
        exact ⟨_, _, h5, rfl, b1, some (.p x), y, o6, vs', rfl, b2, b3, by omega, b5, Nat.le_trans g5 b6, b7, fun i hi i1 i2 => (b8 i (Nat.lt_of_lt_of_le hi g5) i1 i2).trans (g7 i hi i1 i2)⟩) ⟨none, none, none, [.int r], rfl, by simp, by simp [isIx, r0, r1], Nat.le_refl _, H2.deck, Nat.le_refl _, hv2, fun _ _ _ _ => rfl⟩
    subst f1
    have hfor : ex (rn (k + 1)) sb (.forS .range (.cons (.call 30 (.cons (.var 0) (.cons (.var 2) .nil))) .nil) (.nm 4) walkBody) [some (.ref dk), some (.p (.tup rows)), some (.p (.int most)), some (.ref h1.length), none, none, none] (h1 ++ [[.p (.int r)]]) = .nx [some (.ref dk), some (.p (.tup rows)), some (.p (.int most)), some (.ref h1.length), o4, o5, o6] h3 := by
      rw [ex_for_items (ds := [.p (.int t)]) (h1 := h2) (xs := rangeP 0 t) (by simp [e2]) (by simp [itemsOf, hk])]
      exact el
    refine ⟨vs, h3, ?_, fun _ => f2, fun z => absurd z hne, f3, by omega, ⟨f5, ?_, fun i hi hd => ?_⟩⟩
    · unfold walkBody at hfor
      simp [b_law_walk, cmpD, cmpP, eqP, okP, allP, l0, l1, hne, biD, bi1_len, e1, mkL, hfor, bi1, f7, allP_map]
    · have := H1.len
      have := H2.len
      simp at this
      omega
    · have hi2 : i < h1.length := Nat.lt_of_lt_of_le hi H1.len
      rw [f8 i (by have := H2.len; simp at this; omega) hd (by omega), H2.same i (by simp; omega) hd, List.getElem?_append_left hi2]
      exact H1.same i hi hd
end K00

end
section
set_option Elab.async false
set_option maxRecDepth 100000
set_option linter.all false
set_option maxHeartbeats 4000000
namespace K00
open MP
variable {k : Nat} {h : Hh}
theorem s_verdict_world {n : Int} {rows : List P} (v : P) (hs : isSys (.tup [.int n, .tup rows]) = true) (hl : rows.length ≤ 1000000) : rn (k + 4) 43 [.p (.tup [.int n, .tup rows]), .p (.tup [.str "world", v])] h = .ok (.p (.bl (isWorld n rows v))) h := by
  rw [show rn (k + 4) 43 [.p (.tup [.int n, .tup rows]), .p (.tup [.str "world", v])] h = fin h (exs (rn (k + 3)) sb b_law_verdict_right [some (.p (.tup [.int n, .tup rows])), some (.p (.tup [.str "world", v]))] []) from run_gc (xs := [.tup [.int n, .tup rows], .tup [.str "world", v]]) (fn := f_law_verdict_right.fn) rfl rfl rfl]
  have e := s_law_is_world (k := k + 1) (h := []) v hs hl
  simp [b_law_verdict_right, isiD, isiP, biD, bi1_len, cmpD, cmpP, eqP, okP, ixD, at2_0, at2_1, e]
theorem s_verdict_ring {n : Int} {rows : List P} (v : P) (hs : isSys (.tup [.int n, .tup rows]) = true) (hl : lenOf v ≤ 1000000) : rn (k + 4) 43 [.p (.tup [.int n, .tup rows]), .p (.tup [.str "ring", v])] h = .ok (.p (.bl (isBad rows v))) h := by
  rw [show rn (k + 4) 43 [.p (.tup [.int n, .tup rows]), .p (.tup [.str "ring", v])] h = fin h (exs (rn (k + 3)) sb b_law_verdict_right [some (.p (.tup [.int n, .tup rows])), some (.p (.tup [.str "ring", v]))] []) from run_gc (xs := [.tup [.int n, .tup rows], .tup [.str "ring", v]]) (fn := f_law_verdict_right.fn) rfl rfl rfl]
  obtain ⟨n', rows', e', h0, hr⟩ := isSys_iff.mp hs
  cases e'
  have e := s_law_bad_ring (k := k) (h := []) v rows (rows_of hr) hl
  have ne : ¬ (PySem.Str.ofString "ring" = PySem.Str.ofString "world") := by decide
  simp [b_law_verdict_right, isiD, isiP, biD, bi1_len, cmpD, cmpP, eqP, okP, ixD, at2_0, at2_1, e, ne]
end K00

end
section
set_option Elab.async false
set_option maxRecDepth 100000
set_option linter.all false
set_option maxHeartbeats 4000000
namespace K00
open MP
variable {k : Nat} {h : Hh}
/-- a comprehension that draws -/
theorem compL_draws {dk : Nat} {f : P → Hh → R (Option D)} {Q : P → Prop} : ∀ {xs : List P} {h : Hh}, (∀ x ∈ xs, ∀ h, Deck h dk → ∃ y h', f x h = .ok (some (.p y)) h' ∧ Q y ∧ Hx dk h h') → Deck h dk →
    ∃ (ys : List P) (h' : Hh), compL f xs h = .ok (ys.map D.p) h' ∧ ys.length = xs.length ∧ (∀ y ∈ ys, Q y) ∧ Hx dk h h'
  | [], h, _, D0 => ⟨[], h, rfl, rfl, (fun _ hy => absurd hy List.not_mem_nil), Hx.refl D0⟩
  | x :: xs, h, hf, D0 => by
    obtain ⟨y, h1, e1, q1, H1⟩ := hf x List.mem_cons_self h D0
    obtain ⟨ys, h2, e2, l2, q2, H2⟩ := compL_draws (xs := xs) (fun x hx => hf x (List.mem_cons_of_mem _ hx)) H1.deck
    refine ⟨y :: ys, h2, ?_, by simp [l2], fun z hz => ?_, H1.trans H2⟩
    · simp only [compL, e1, e2, List.map_cons]
    · rcases List.mem_cons.mp hz with rfl | z
      · exact q1
      · exact q2 _ z
theorem nice_row {n : Int} {r : P} {b : Int} {w : Nat} (hd : isDiffN n r = true) (hn : n ≤ b) (hc : -b ≤ rc r ∧ rc r ≤ b) (hw : 3 ≤ w) : Nice 1 b w r := by
  obtain ⟨x, y, c, rfl, x0, y0, _, x1, y1⟩ := isDiffN_eq.mp hd
  refine ⟨hw, fun z hz => ?_⟩
  have hc : -b ≤ c ∧ c ≤ b := hc
  rcases List.mem_cons.mp hz with rfl | hz
  · exact nice_int ⟨by omega, by omega⟩
  rcases List.mem_cons.mp hz with rfl | hz
  · exact nice_int ⟨by omega, by omega⟩
  rcases List.mem_cons.mp hz with rfl | hz
  · exact nice_int hc
  · cases hz
theorem drawn_iff {most many : Int} {s : P} (S : Drawn most many s) : ∃ (n : Int) (rows : List P), s = .tup [.int n, .tup rows] ∧ 0 ≤ n ∧ n ≤ most ∧ (rows.length : Int) ≤ many ∧ (∀ r ∈ rows, isDiffN n r = true) ∧ ∀ r ∈ rows, -1000000000 ≤ rc r ∧ rc r ≤ 1000000000 := by
  obtain ⟨n, rows, rfl, h0, hr⟩ := isSys_iff.mp S.sys
  exact ⟨n, rows, rfl, h0, S.n.2, S.rows, hr, S.cs⟩
theorem nice_drawn {most many : Int} {s : P} (S : Drawn most many s) (hm : most ≤ 50) (hn : many ≤ 100) : Nice 3 1000000000 101 s := by
  obtain ⟨n, rows, rfl, h0, h1, h2, h3, h4⟩ := drawn_iff S
  refine ⟨by show 2 ≤ 101; decide, fun z hz => ?_⟩
  rcases List.mem_cons.mp hz with rfl | hz
  · exact nice_int ⟨by omega, by omega⟩
  rcases List.mem_cons.mp hz with rfl | hz
  · exact ⟨by omega, fun r hr => nice_row (h3 r hr) (by omega) (h4 r hr) (by decide)⟩
  · cases hz
/-- the values: seven, all tuples of tuples of numbers -/
theorem s_values {dk : Nat} {s : P} (D0 : Deck h dk) (S : Drawn 4 8 s) : ∃ (vs : List P) (h' : Hh), rn (k + 3) 47 [.ref dk, .p s] h = .ok (.p (.lst vs)) h' ∧ vs.length = 7 ∧ (∀ v ∈ vs, Nice 2 1000000000 101 v) ∧ Hx dk h h' := by
  rw [show rn (k + 3) 47 [.ref dk, .p s] h = fin0 (exs (rn (k + 2)) sb b_law_values [some (.ref dk), some (.p s), none, none, none, none, none, none, none, none, none] h) from run_in (ds := [.ref dk, .p s]) (fn := f_law_values.fn) rfl rfl rfl]
  obtain ⟨n, rows, rfl, n0, n1, r1, r2, r3⟩ := drawn_iff S
  obtain ⟨s2, h1, e1, S2, H1⟩ := s_system (k := k) (most := 4) (many := 3) D0 (by decide) (by decide) (by decide) (by decide)
  obtain ⟨n', more, rfl, m0, m1, q1, q2, q3⟩ := drawn_iff S2
  have hk : rgOk 0 n = true := rgOk_small n0 (by omega)
  have hln : (rangeP 0 n).length = n.toNat := by rw [rangeP_len, Int.sub_zero]
  have hcd : ∀ (a : En) (h : Hh), Deck h dk → a[0]? = some (some (.ref dk)) → 10 < a.length → ∃ (ts : List P) (h' : Hh), compV (rn (k + 2)) a false .range (.nm 10) .nil (.bin .sub (.call 30 (.cons (.var 0) (.cons (.cint 12) .nil))) (.cint 3)) [.p (.int n)] h = .ok (.p (.lst ts)) h' ∧ ts.length = n.toNat ∧ (∀ t ∈ ts, ∃ i, t = .int i ∧ -10 ≤ i ∧ i ≤ 10) ∧ Hx dk h h' := fun a h Dh ha hal => by
    obtain ⟨ys, h', e, l, q, H⟩ := compL_draws (dk := dk) (f := item (rn (k + 2)) a (.nm 10) .nil (.bin .sub (.call 30 (.cons (.var 0) (.cons (.cint 12) .nil))) (.cint 3))) (Q := fun t => ∃ i, t = .int i ∧ -10 ≤ i ∧ i ≤ 10) (xs := rangeP 0 n) (h := h) (fun x hx h Dh => by
      obtain ⟨r, h2, e2, x0, x1, H2⟩ := s_draw (k := k + 1) (m := 12) Dh (by decide) (by decide)
      have ha2 : ((a.set 10 none).set 10 (some (.p x)))[0]? = some (some (.ref dk)) := by
        rw [List.getElem?_set_ne (by decide), List.getElem?_set_ne (by decide), ha]
      exact ⟨.int (r - 3), h2, by simp [item, asg, wipeE, Tg.slots, evc, ha, e2, binD, binP, binI, okP], ⟨_, rfl, by omega, by omega⟩, H2⟩) Dh
    refine ⟨ys, h', ?_, by rw [l, hln], q, H⟩
    unfold compV
    rw [show itemsOf .range [.p (.int n)] = some (rangeP 0 n) by simp [itemsOf, hk]]
    simp only [e]
    exact mkL_false
  obtain ⟨ts, h2, e2, l2, q2', H2⟩ := hcd [some (.ref dk), some (.p (.tup [.int n, .tup rows])), some (.p (.tup more)), none, none, none, none, some (.p (.int n)), some (.p (.tup rows)), none, none] h1 H1.deck rfl (by simp)
  have hR := rows_of r2
  obtain ⟨ch, h3, e3, c1, c2, c3, c4, H3⟩ := s_walk (k := k) (most := 6) H2.deck hR (by omega) (by decide) (by decide)
  have hkc : rgOk 0 (ch.length : Int) = true := rgOk_small (by omega) (by omega)
  have hcr : ∀ (a b c : Option D), ∃ rs : List P, compV (rn (k + 2)) [some (.ref dk), some (.p (.tup [.int n, .tup rows])), some (.p (.tup more)), some (.p (.tup (.int 0 :: ts))), some (.p (.tup ch)), a, b, some (.p (.int n)), some (.p (.tup rows)), none, c] false .range (.nm 9) (.cons (.cmp .eq (.ix (.ix (.var 8) (.ix (.var 4) (.var 9))) (.cint 1)) (.ix (.ix (.var 8) (.ix (.var 4) (.cint 0))) (.cint 0))) .nil) (.sl (.var 4) .nil (.cons (.bin .add (.var 9) (.cint 1)) .nil)) [.p (.int ch.length)] h3 = .ok (.p (.lst rs)) h3 ∧ ∀ r ∈ rs, ∃ m, r = .tup (ch.take m) := fun a b c => by
    by_cases hcn : ch = []
    · subst hcn
      refine ⟨[], ?_, (fun _ hq => absurd hq List.not_mem_nil)⟩
      rfl
    · have hcp : 0 < ch.length := by cases ch <;> simp_all
      obtain ⟨v0, vm0⟩ := val_at (vs := ch) (j := 0) (by decide) (by omega)
      obtain ⟨i0, x0, y0, z0, a0, b0, d0⟩ := row_at hR (List.all_eq_true.mp c3 _ vm0)
      let g : P → Option D := fun x => match x with
        | .int j => if ry (rowAt rows (valAt ch j)) = x0 then some (.p (.tup (ch.take (j + 1).toNat))) else none
        | _ => none
      have hc : compV (rn (k + 2)) [some (.ref dk), some (.p (.tup [.int n, .tup rows])), some (.p (.tup more)), some (.p (.tup (.int 0 :: ts))), some (.p (.tup ch)), a, b, some (.p (.int n)), some (.p (.tup rows)), none, c] false .range (.nm 9) (.cons (.cmp .eq (.ix (.ix (.var 8) (.ix (.var 4) (.var 9))) (.cint 1)) (.ix (.ix (.var 8) (.ix (.var 4) (.cint 0))) (.cint 0))) .nil) (.sl (.var 4) .nil (.cons (.bin .add (.var 9) (.cint 1)) .nil)) [.p (.int ch.length)] h3 = mkL false ((rangeP 0 ch.length).filterMap g) h3 :=
        compV_filterMap (by simp [itemsOf, hkc]) (fun x hx => by
          obtain ⟨j, rfl, j0, j1⟩ := mem_rangeP hx
          obtain ⟨v1, vm1⟩ := val_at (vs := ch) (j := j) j0 j1
          obtain ⟨i1, x1, y1, z1, a1, b1, d1⟩ := row_at hR (List.all_eq_true.mp c3 _ vm1)
          have hg : g (.int j) = if y1 = x0 then some (.p (.tup (ch.take (j + 1).toNat))) else none := by
            show (if ry (rowAt rows (valAt ch j)) = x0 then _ else _) = _
            rw [d1]
            rfl
          rw [hg]
          rw [a0] at v0
          rw [a1] at v1
          by_cases hf : y1 = x0
          · simp [item, asg, wipeE, Tg.slots, evc, ixD, v0, v1, b0, b1, at3_0, at3_1, okP, cmpD, cmpP, eqP, hf, binD, binP, binI, optI, slD, cut_lo (show 0 ≤ j + 1 by omega)]
          · simp [item, asg, wipeE, Tg.slots, evc, ixD, v0, v1, b0, b1, at3_0, at3_1, okP, cmpD, cmpP, eqP, hf])
      have hq : ∃ rs : List P, (rangeP 0 ch.length).filterMap g = rs.map D.p ∧ ∀ r ∈ rs, ∃ m, r = .tup (ch.take m) := by
        generalize rangeP 0 (ch.length : Int) = L
        induction L with
        | nil => exact ⟨[], rfl, (fun _ hq => absurd hq List.not_mem_nil)⟩
        | cons x L ih =>
          obtain ⟨rs, e, q⟩ := ih
          cases hgx : g x with
          | none => exact ⟨rs, by rw [List.filterMap_cons, hgx]; exact e, q⟩
          | some y =>
            have : ∃ m, y = .p (.tup (ch.take m)) := by
              revert hgx
              simp only [g]
              split
              · split
                · intro h; cases h; exact ⟨_, rfl⟩
                · intro h; cases h
              · intro h; cases h
            obtain ⟨m, rfl⟩ := this
            exact ⟨.tup (ch.take m) :: rs, by rw [List.filterMap_cons, hgx]; simp [e], fun r hr => by
              rcases List.mem_cons.mp hr with rfl | hr
              · exact ⟨m, rfl⟩
              · exact q r hr⟩
      obtain ⟨rs, e, q⟩ := hq
      exact ⟨rs, by rw [hc, e]; exact mkL_false, q⟩
  obtain ⟨rs, e4, q4⟩ := hcr none none none
  have l0 : 0 ≤ line := by decide
  have l1 : 1 ≤ line := by decide
  have l3 : 3 ≤ line := by decide
  have l7 : 7 ≤ line := by decide
  have lt : 1 + ts.length ≤ line := by
    have : (100 : Nat) ≤ line := by decide
    omega
  -- the difference
  obtain ⟨one, eo, no⟩ : ∃ one : P, (∀ (a : Option D) (h : Hh), ev (rn (k + 2)) (.ite (.cmp .ne (.var 2) (.tup .nil)) (.ix (.var 2) (.cint 0)) (.tup (.cons (.cint 0) (.cons (.cint 1) (.cons (.neg (.cint 4)) .nil))))) [some (.ref dk), some (.p (.tup [.int n, .tup rows])), some (.p (.tup more)), some (.p (.tup (.int 0 :: ts))), some (.p (.tup ch)), a, none, some (.p (.int n)), some (.p (.tup rows)), none, none] h = .ok (.p one) h) ∧ Nice 1 1000000000 101 one := by
    cases more with
    | nil => exact ⟨.tup [.int 0, .int 1, .int (-4)], fun a h => by simp [cmpD, cmpP, eqP, okP, allP, l0, l3, negD], by
        refine ⟨by decide, fun z hz => ?_⟩
        rcases List.mem_cons.mp hz with rfl | hz
        · exact nice_int ⟨by decide, by decide⟩
        rcases List.mem_cons.mp hz with rfl | hz
        · exact nice_int ⟨by decide, by decide⟩
        rcases List.mem_cons.mp hz with rfl | hz
        · exact nice_int ⟨by decide, by decide⟩
        · cases hz⟩
    | cons r more =>
      have ea : at? (r :: more) 0 = some r := rfl
      exact ⟨r, fun a h => by simp [cmpD, cmpP, eqP, okP, allP, l0, ixD, ea], nice_row (q2 r List.mem_cons_self) (by omega) (q3 r List.mem_cons_self) (by decide)⟩
  obtain ⟨last, el, nl⟩ : ∃ last : P, (∀ (a : Option D) (h : Hh), ev (rn (k + 2)) (.ite (.cmp .ne (.var 5) (.lst false .nil)) (.ix (.var 5) (.cint 0)) (.var 4)) [some (.ref dk), some (.p (.tup [.int n, .tup rows])), some (.p (.tup more)), some (.p (.tup (.int 0 :: ts))), some (.p (.tup ch)), some (.p (.lst rs)), a, some (.p (.int n)), some (.p (.tup rows)), none, none] h = .ok (.p last) h) ∧ ∃ m, last = .tup (ch.take m) := by
    cases rs with
    | nil => exact ⟨.tup ch, fun a h => by simp [cmpD, cmpP, eqP, okP, allP, l0, mkL], ch.length, by rw [List.take_length]⟩
    | cons r rs =>
      have ea : at? (r :: rs) 0 = some r := rfl
      exact ⟨r, fun a h => by simp [cmpD, cmpP, eqP, okP, allP, l0, mkL, ixD, ea], q4 r List.mem_cons_self⟩
  refine ⟨[.tup more, .tup (.int 0 :: ts), .tup ch, one, .tup (.int 0 :: ts), .tup ch, last], h3, ?_, rfl, fun v hv => ?_, (H1.trans H2).trans H3⟩
  · simp [-ev_ite, b_law_values, asg, asgs, e1, ixD, at2_1, okP, e2, mkL, allP, binD, binP, lt, l1, l3, l7, biD, bi1, bi1_len, e3, e4, eo, el]
  · have hm : Nice 2 1000000000 101 (.tup more) := ⟨by omega, fun r hr => nice_row (q2 r hr) (by omega) (q3 r hr) (by decide)⟩
    have ht : Nice 2 1000000000 101 (.tup (.int 0 :: ts)) := ⟨by simp; omega, fun r hr => by
      rcases List.mem_cons.mp hr with rfl | hr
      · exact nice_int ⟨by decide, by decide⟩
      · obtain ⟨i, rfl, i0, i1⟩ := q2' r hr
        exact nice_int ⟨by omega, by omega⟩⟩
    have hch : ∀ m, Nice 2 1000000000 101 (.tup (ch.take m)) := fun m => ⟨by rw [List.length_take]; omega, fun r hr => by
      obtain ⟨i, rfl, i0, i1⟩ := isIx_iff.mp (List.all_eq_true.mp c3 r (List.mem_of_mem_take hr))
      exact nice_int ⟨by omega, by omega⟩⟩
    have hc0 : Nice 2 1000000000 101 (.tup ch) := by
      have := hch ch.length
      rwa [List.take_length] at this
    have ho : Nice 2 1000000000 101 one := no.mono (Int.le_refl _) (Nat.le_refl _) _ _ _ (by decide)
    simp only [List.mem_cons, List.not_mem_nil, or_false] at hv
    rcases hv with rfl | rfl | rfl | rfl | rfl | rfl | rfl
    · exact hm
    · exact ht
    · exact hc0
    · exact ho
    · exact ht
    · exact hc0
    · obtain ⟨m, rfl⟩ := nl
      exact hch m
end K00

end
section
set_option Elab.async false
set_option maxRecDepth 100000
set_option linter.all false
set_option maxHeartbeats 4000000
namespace K00
open MP
variable {k : Nat} {h : Hh}
theorem nice_len {d : Nat} {b : Int} {w : Nat} {v : P} (hn : Nice d b w v) : lenOf v ≤ w ∧ (itemsP v).length ≤ w := by
  cases v <;> try exact ⟨Nat.zero_le _, Nat.zero_le _⟩
  all_goals
    cases d with
    | zero => exact hn.elim
    | succ d => exact ⟨hn.1, hn.1⟩
theorem nice_sys {d : Nat} {b : Int} {w : Nat} {v : P} (hb : 0 ≤ b) (hn : Nice d b w v) : (rowsOf v).length ≤ w ∧ nOf v ≤ b := by
  constructor
  · unfold rowsOf
    split
    · rename_i a rows
      cases d with
      | zero => exact hn.elim
      | succ d =>
        have : Nice d b w (.tup rows) := hn.2 _ (by simp)
        exact (nice_len this).1
    · exact Nat.zero_le _
  · unfold nOf
    split
    · rename_i n a
      cases d with
      | zero => exact hn.elim
      | succ d =>
        have : Nice d b w (.int n) := hn.2 _ (by simp)
        exact (nice_int_of this).2
    · exact hb
theorem pl_row {n : Int} {r : P} (hr : isDiffN n r = true) : Pl 1 r := by
  obtain ⟨x, y, c, rfl, _⟩ := isDiffN_eq.mp hr
  exact ⟨by simp, fun z hz => by
    simp only [List.mem_cons, List.not_mem_nil, or_false] at hz
    rcases hz with rfl | rfl | rfl <;> trivial⟩
theorem pl_ask (w : Int) (s v : P) (hl : (rowsOf s).length + (itemsP v).length ≤ 1000000) : Pl 3 (askP w s v) := by
  unfold askP
  split
  · split
    · rename_i hd
      obtain ⟨x, y, c, rfl, _⟩ := isDiff_iff.mp hd
      exact ⟨by simp, fun z hz => by
        simp only [List.mem_cons, List.not_mem_nil, or_false] at hz
        rcases hz with rfl | rfl | rfl <;> trivial⟩
    · trivial
  · split
    · rename_i hs
      obtain ⟨n, rows, rfl, h0, hr⟩ := isSys_iff.mp hs
      split
      · split
        · rename_i hm
          refine ⟨by simp, fun z hz => ?_⟩
          simp only [List.mem_cons, List.not_mem_nil, or_false] at hz
          rcases hz with rfl | rfl
          · trivial
          · refine ⟨by rw [List.length_append]; exact hl, fun r hr2 => ?_⟩
            rcases List.mem_append.mp hr2 with q | q
            · exact pl_row (hr r q)
            · unfold isMore at hm
              split at hm
              · exact pl_row (List.all_eq_true.mp hm r q)
              · cases hm
        · trivial
      · split
        · split
          · refine ⟨?_, fun z hz => ?_⟩
            · refine Nat.le_trans (List.length_filter_le _ _) ?_
              rw [rangeP_len]
              simp only [Int.sub_zero, Int.toNat_natCast]
              omega
            · obtain ⟨j, rfl, _⟩ := mem_rangeP (List.mem_filter.mp hz).1
              trivial
          · trivial
        · split
          · split
            · trivial
            · trivial
          · split
            · trivial
            · split
              · trivial
              · trivial
    · trivial
theorem pick3 {α : Type} {a b c : α} {r : Int} (h0 : 0 ≤ r) (h1 : r < 3) : ∃ x, at? [a, b, c] r = some x ∧ (x = a ∨ x = b ∨ x = c) := by
  have : r = 0 ∨ r = 1 ∨ r = 2 := by omega
  rcases this with rfl | rfl | rfl
  · exact ⟨a, rfl, .inl rfl⟩
  · exact ⟨b, rfl, .inr (.inl rfl)⟩
  · exact ⟨c, rfl, .inr (.inr rfl)⟩
def askBody : Stms := (.cons (.set 5 (.call 44 (.cons (.var 1) (.cons (.ix (.lst false (.cons (.var 1) (.cons (.var 1) (.cons (.call 34 (.cons (.var 0) (.cons (.var 1) .nil))) .nil)))) (.call 30 (.cons (.var 0) (.cons (.cint 3) .nil)))) .nil))))
      (.cons (.iff (.notC (.call 31 (.cons (.call 45 (.cons (.var 3) (.cons (.var 5) (.cons (.var 4) .nil)))) (.cons (.call 46 (.cons (.var 3) (.cons (.var 5) (.cons (.var 4) .nil)))) .nil)))) (.cons (.ret (.cbl false)) .nil) .nil)
      (.cons (.iff (.notC (.call 31 (.cons (.call 18 (.cons (.var 4) .nil)) (.cons (.call 36 (.cons (.var 4) (.cons (.cnon) .nil))) .nil)))) (.cons (.ret (.cbl false)) .nil) .nil) .nil)))
theorem big_lt : (2000000000 : Int) < big := by decide
theorem s_askBody {dk : Nat} {s v : P} {w : Int} {vals : P} {o5 : Option D} (D0 : Deck h dk) (S : Drawn 4 8 s) (hw : 0 ≤ w ∧ w ≤ 6) (hv : Nice 3 2000000000 102 v) : ∃ (o : P) (h' : Hh), exs (rn (k + 8)) sb askBody [some (.ref dk), some (.p s), some (.p vals), some (.p (.int w)), some (.p v), o5] h = .nx [some (.ref dk), some (.p s), some (.p vals), some (.p (.int w)), some (.p v), some (.p o)] h' ∧ Hx dk h h' := by
  have nS := nice_drawn S (by decide) (by decide)
  obtain ⟨y, h1, e1, ny, H1⟩ := s_bent (k := k + 3) (b := 1000000000) (w := 101) (by decide) (by decide) (by decide) 3 s h D0 nS
  have e1 : rn (k + 8) 34 [.ref dk, .p s] h = .ok (.p y) h1 := e1
  obtain ⟨r, h2, e2, r0, r1, H2⟩ := s_draw (k := k + 7) (m := 3) H1.deck (by decide) (by decide)
  obtain ⟨z, ez, hz⟩ := pick3 (a := s) (b := s) (c := y) r0 r1
  have nz : Nice 4 2000000000 102 z := by
    have ns : Nice 4 2000000000 102 s := nS.mono (by decide) (by decide) _ _ _ (by decide)
    rcases hz with rfl | rfl | rfl
    · exact ns
    · exact ns
    · exact ny
  have zb := nice_sys (by decide) nz
  have e3 : rn (k + 8) 44 [.p s, .p z] h2 = .ok (.p (if isSys z = true ∧ nOf z > 12 then s else z)) h2 := s_kept (k := k + 4) s z (Int.lt_of_le_of_lt zb.2 big_lt)
  have no : Nice 4 2000000000 102 (if isSys z = true ∧ nOf z > 12 then s else z) := by
    split
    · exact nS.mono (by decide) (by decide) _ _ _ (by decide)
    · exact nz
  generalize (if isSys z = true ∧ nOf z > 12 then s else z) = o at e3 no
  have ob := nice_sys (by decide) no
  have vb := nice_len hv
  have hl : (rowsOf o).length + (itemsP v).length ≤ 1000000 := by omega
  have e4 := s_ask (k := k) (h := h2) w o v hw hl (by omega)
  have e5 := s_due (k := k) (h := h2) w o v hw (Int.lt_of_le_of_lt ob.2 big_lt) hl (by omega)
  have e6 : rn (k + 8) 31 [.p (askP w o v), .p (askP w o v)] h2 = .ok (.p (.bl true)) h2 := s_same (k := k + 4) h2 3 _ (pl_ask w o v hl)
  have e7 : rn (k + 8) 18 [.p v] h2 = _ := s_is_difference (k := k + 4) (h := h2) v
  have e8 : rn (k + 8) 36 [.p v, .p .non] h2 = _ := s_law_is_diff0 (k := k + 7) (h := h2) v
  have e9 : rn (k + 8) 31 [.p (.bl (isDiff v)), .p (.bl (isDiff v))] h2 = .ok (.p (.bl true)) h2 := s_same (k := k + 7) h2 0 _ trivial
  have l3 : 3 ≤ line := by decide
  exact ⟨o, h2, by simp [askBody, e1, e2, mkL, allP, l3, ixD, ez, okP, e3, e4, e5, e6, e7, e8, e9], H1.trans H2⟩
def askOuter : Stms := (.cons (.forS .seq (.cons (.lst false (.cons (.ix (.var 2) (.var 3)) (.cons (.call 34 (.cons (.var 0) (.cons (.ix (.var 2) (.var 3)) .nil))) (.cons (.ix (.var 2) (.call 30 (.cons (.var 0) (.cons (.cint 7) .nil)))) .nil)))) .nil) (.nm 4) askBody)
    (.cons (.iff (.notC (.call 31 (.cons (.call 19 (.cons (.ix (.var 2) (.var 3)) .nil)) (.cons (.call 37 (.cons (.ix (.var 2) (.var 3)) .nil)) .nil)))) (.cons (.ret (.cbl false)) .nil) .nil) .nil))
theorem s_askOuter {dk : Nat} {s : P} {w : Int} {vals : List P} {o4 o5 : Option D} (D0 : Deck h dk) (S : Drawn 4 8 s) (hw : 0 ≤ w ∧ w ≤ 6) (hv : ∀ v ∈ vals, Nice 2 1000000000 101 v) (hl : vals.length = 7) : ∃ (o4' o5' : Option D) (h' : Hh), exs (rn (k + 8)) sb askOuter [some (.ref dk), some (.p s), some (.p (.lst vals)), some (.p (.int w)), o4, o5] h = .nx [some (.ref dk), some (.p s), some (.p (.lst vals)), some (.p (.int w)), o4', o5'] h' ∧ Hx dk h h' := by
  obtain ⟨a0, m0⟩ := val_at (vs := vals) (j := w) hw.1 (by omega)
  have n0 := hv _ m0
  generalize valAt vals w = v0 at a0 m0 n0
  obtain ⟨y, h1, e1, ny, H1⟩ := s_bent (k := k + 4) (b := 1000000000) (w := 101) (by decide) (by decide) (by decide) 2 v0 h D0 n0
  have e1 : rn (k + 8) 34 [.ref dk, .p v0] h = .ok (.p y) h1 := e1
  obtain ⟨r, h2, e2, r0, r1, H2⟩ := s_draw (k := k + 7) (m := 7) H1.deck (by decide) (by decide)
  obtain ⟨a2, m2⟩ := val_at (vs := vals) (j := r) r0 (by omega)
  have n2 := hv _ m2
  generalize valAt vals r = v2 at a2 m2 n2
  have N : ∀ x ∈ [v0, y, v2], Nice 3 2000000000 102 x := fun x hx => by
    simp only [List.mem_cons, List.not_mem_nil, or_false] at hx
    rcases hx with rfl | rfl | rfl
    · exact n0.mono (by decide) (by decide) _ _ _ (by decide)
    · exact ny
    · exact n2.mono (by decide) (by decide) _ _ _ (by decide)
  have H12 := H1.trans H2
  obtain ⟨ρ', h3, el, o4', o5', f1, f2⟩ := forL_inv (body := exs (rn (k + 8)) sb askBody) (tg := .nm 4) (fun _ ρ h' => ∃ (a b : Option D), ρ = [some (.ref dk), some (.p s), some (.p (.lst vals)), some (.p (.int w)), a, b] ∧ Hx dk h h') (xs := [v0, y, v2]) (i := 0) (ρ := [some (.ref dk), some (.p s), some (.p (.lst vals)), some (.p (.int w)), o4, o5]) (h := h2) (fun j x ρ h4 hj hI => by
    obtain ⟨a, b, rfl, I⟩ := hI
    obtain ⟨o, h5, e5, H5⟩ := s_askBody (k := k) (vals := .lst vals) (o5 := b) I.deck S hw (N x (List.mem_of_getElem? hj))
    exact ⟨_, _, h5, rfl, e5, some (.p x), some (.p o), rfl, I.trans H5⟩) ⟨o4, o5, rfl, H12⟩
  subst f1
  have l3 : 3 ≤ line := by decide
  have hfor : ex (rn (k + 8)) sb (.forS .seq (.cons (.lst false (.cons (.ix (.var 2) (.var 3)) (.cons (.call 34 (.cons (.var 0) (.cons (.ix (.var 2) (.var 3)) .nil))) (.cons (.ix (.var 2) (.call 30 (.cons (.var 0) (.cons (.cint 7) .nil)))) .nil)))) .nil) (.nm 4) askBody) [some (.ref dk), some (.p s), some (.p (.lst vals)), some (.p (.int w)), o4, o5] h = .nx [some (.ref dk), some (.p s), some (.p (.lst vals)), some (.p (.int w)), o4', o5'] h3 := by
    rw [ex_for_items (ds := [.p (.lst [v0, y, v2])]) (h1 := h2) (xs := [v0, y, v2]) (by simp [ixD, a0, okP, e1, e2, a2, mkL, allP, l3]) rfl]
    exact el
  have b0 := nice_sys (by decide) n0
  have e6 : rn (k + 8) 19 [.p v0] h3 = _ := s_is_system (k := k + 2) (h := h3) v0
  have e7 : rn (k + 8) 37 [.p v0] h3 = _ := s_law_is_system (k := k + 5) (h := h3) v0 (Int.lt_of_le_of_lt b0.2 (by decide))
  have e8 : rn (k + 8) 31 [.p (.bl (isSys v0)), .p (.bl (isSys v0))] h3 = .ok (.p (.bl true)) h3 := s_same (k := k + 7) h3 0 _ trivial
  exact ⟨o4', o5', h3, by simp [askOuter, hfor, ixD, a0, okP, e6, e7, e8], f2⟩
theorem s_asked {dk : Nat} {s : P} (D0 : Deck h dk) (S : Drawn 4 8 s) : ∃ (h' : Hh), rn (k + 9) 48 [.ref dk, .p s] h = .ok (.p (.bl true)) h' ∧ Hx dk h h' := by
  rw [show rn (k + 9) 48 [.ref dk, .p s] h = fin0 (exs (rn (k + 8)) sb b_law_asked_right [some (.ref dk), some (.p s), none, none, none, none] h) from run_in (ds := [.ref dk, .p s]) (fn := f_law_asked_right.fn) rfl rfl rfl]
  obtain ⟨vals, h1, e1, hl, hv, H1⟩ := s_values (k := k + 5) D0 S
  have e1 : rn (k + 8) 47 [.ref dk, .p s] h = .ok (.p (.lst vals)) h1 := e1
  have hk : rgOk 0 7 = true := by decide
  obtain ⟨ρ', h3, el, o3', o4', o5', f1, f2⟩ := forL_inv (body := exs (rn (k + 8)) sb askOuter) (tg := .nm 3) (fun _ ρ h' => ∃ (z a b : Option D), ρ = [some (.ref dk), some (.p s), some (.p (.lst vals)), z, a, b] ∧ Hx dk h h') (xs := rangeP 0 7) (i := 0) (ρ := [some (.ref dk), some (.p s), some (.p (.lst vals)), none, none, none]) (h := h1) (fun j x ρ h4 hj hI => by
    obtain ⟨z, a, b, rfl, I⟩ := hI
    obtain ⟨w, rfl, w0, w1⟩ := mem_rangeP (List.mem_of_getElem? hj)
    obtain ⟨c, d, h5, e5, H5⟩ := s_askOuter (k := k) (o4 := a) (o5 := b) I.deck S ⟨w0, by omega⟩ hv hl
    exact ⟨_, _, h5, rfl, e5, some (.p (.int w)), c, d, rfl, I.trans H5⟩) ⟨none, none, none, rfl, H1⟩
  subst f1
  have hfor : ex (rn (k + 8)) sb (.forS .range (.cons (.cint 7) .nil) (.nm 3) askOuter) [some (.ref dk), some (.p s), some (.p (.lst vals)), none, none, none] h1 = .nx [some (.ref dk), some (.p s), some (.p (.lst vals)), o3', o4', o5'] h3 := by
    rw [ex_for_items (ds := [.p (.int 7)]) (h1 := h1) (xs := rangeP 0 7) (by simp) (by simp [itemsOf, hk])]
    exact el
  refine ⟨h3, ?_, f2⟩
  unfold askOuter askBody at hfor
  simp [b_law_asked_right, e1, hfor]
end K00

end
section
set_option Elab.async false
set_option linter.all false
/-! Bellman-Ford with parents: what the passes of settle leave, in plain Lean. -/
namespace BF
structure Row where
  x : Nat
  y : Nat
  c : Int
/-- least, parent's row, time of the last change (0: never) -/
structure S where
  least : Nat → Int
  via : Nat → Option Nat
  time : Nat → Nat
def up {α : Type} (f : Nat → α) (a : Nat) (v : α) : Nat → α := fun b => if b = a then v else f b
theorem up_same {α : Type} {f : Nat → α} {a : Nat} {v : α} : up f a v a = v := if_pos rfl
theorem up_ne {α : Type} {f : Nat → α} {a b : Nat} {v : α} (h : b ≠ a) : up f a v b = f b := if_neg h
/-- row i looked at, at time T -/
def look (r : Row) (i T : Nat) (s : S) : S := if s.least r.y + r.c < s.least r.x then ⟨up s.least r.x (s.least r.y + r.c), up s.via r.x (some i), up s.time r.x T⟩ else s
/-- what holds behind T looks; R rows; e j: the time of row j's last look -/
structure Inv (rows : List Row) (T : Nat) (e : Nat → Nat) (s : S) : Prop where
  tle : ∀ x, s.time x ≤ T
  none0 : ∀ x, s.via x = none ↔ s.time x = 0
  seen : ∀ j r, rows[j]? = some r → 0 < e j → s.time r.y > e j ∨ s.least r.x ≤ s.least r.y + r.c
  par : ∀ x i, s.via x = some i → ∃ r, rows[i]? = some r ∧ r.x = x ∧ s.time x ≤ s.time r.y + rows.length ∧
    (s.least x > s.least r.y + r.c ∨ (s.least x = s.least r.y + r.c ∧ s.time r.y < s.time x))
theorem look_inv {rows : List Row} {T : Nat} {e : Nat → Nat} {s : S} {i : Nat} {r : Row} (hr : rows[i]? = some r) (hxy : r.x ≠ r.y) (I : Inv rows T e s) (he : ∀ j, e j ≤ T) (hi : 0 < e i → e i + rows.length = T + 1) (h0 : e i = 0 → T + 1 ≤ rows.length) :
    Inv rows (T + 1) (up e i (T + 1)) (look r i (T + 1) s) := by
  unfold look
  split
  · rename_i hv
    refine ⟨fun x => ?_, fun x => ?_, fun j q hj hp => ?_, fun x j hj => ?_⟩
    · show up s.time r.x (T + 1) x ≤ T + 1
      by_cases hx : x = r.x
      · subst hx; rw [up_same]; exact Nat.le_refl _
      · rw [up_ne hx]; exact Nat.le_succ_of_le (I.tle x)
    · show up s.via r.x (some i) x = none ↔ up s.time r.x (T + 1) x = 0
      by_cases hx : x = r.x
      · subst hx; rw [up_same, up_same]; simp
      · rw [up_ne hx, up_ne hx]; exact I.none0 x
    · show up s.time r.x (T + 1) q.y > up e i (T + 1) j ∨ up s.least r.x (s.least r.y + r.c) q.x ≤ up s.least r.x (s.least r.y + r.c) q.y + q.c
      by_cases hji : j = i
      · subst hji
        rw [hr] at hj
        cases hj
        refine .inr ?_
        rw [up_same, up_ne (Ne.symm hxy)]
        exact Int.le_refl _
      · rw [up_ne hji] at hp ⊢
        by_cases hy : q.y = r.x
        · rw [hy, up_same]
          have := he j
          exact .inl (by omega)
        · rw [up_ne hy, up_ne hy]
          rcases I.seen j q hj hp with z | z
          · exact .inl z
          · refine .inr ?_
            by_cases hx : q.x = r.x
            · rw [hx, up_same]
              rw [hx] at z
              omega
            · rw [up_ne hx]
              exact z
    · have hj : up s.via r.x (some i) x = some j := hj
      show ∃ q, rows[j]? = some q ∧ q.x = x ∧ up s.time r.x (T + 1) x ≤ up s.time r.x (T + 1) q.y + rows.length ∧ (up s.least r.x (s.least r.y + r.c) x > up s.least r.x (s.least r.y + r.c) q.y + q.c ∨ (up s.least r.x (s.least r.y + r.c) x = up s.least r.x (s.least r.y + r.c) q.y + q.c ∧ up s.time r.x (T + 1) q.y < up s.time r.x (T + 1) x))
      by_cases hx : x = r.x
      · subst hx
        rw [up_same] at hj
        cases hj
        refine ⟨r, hr, rfl, ?_, .inr ⟨?_, ?_⟩⟩
        · rw [up_same, up_ne (Ne.symm hxy)]
          by_cases hz : e i = 0
          · have := h0 hz; omega
          · have h1 := hi (by omega)
            rcases I.seen i r hr (by omega) with z | z
            · omega
            · omega
        · rw [up_same, up_ne (Ne.symm hxy)]
        · rw [up_same, up_ne (Ne.symm hxy)]
          have := I.tle r.y
          omega
      · rw [up_ne hx] at hj
        obtain ⟨q, a1, a2, a3, a4⟩ := I.par x j hj
        refine ⟨q, a1, a2, ?_, ?_⟩
        · rw [up_ne hx]
          by_cases hy : q.y = r.x
          · rw [hy, up_same]
            have := I.tle x
            omega
          · rw [up_ne hy]; exact a3
        · rw [up_ne hx, up_ne hx]
          by_cases hy : q.y = r.x
          · rw [hy, up_same]
            rw [hy] at a4
            refine .inl ?_
            rcases a4 with z | ⟨z, _⟩
            · omega
            · omega
          · rw [up_ne hy, up_ne hy]; exact a4
  · rename_i hv
    refine ⟨fun x => Nat.le_succ_of_le (I.tle x), I.none0, fun j q hj hp => ?_, I.par⟩
    by_cases hji : j = i
    · subst hji
      rw [hr] at hj
      cases hj
      exact .inr (Int.not_lt.mp hv)
    · rw [up_ne hji] at hp ⊢
      exact I.seen j q hj hp
/-- the parent of a node -/
def par (rows : List Row) (s : S) (x : Nat) : Option Nat := (s.via x).bind fun i => (rows[i]?).map (·.y)
def cost (rows : List Row) (s : S) (x : Nat) : Int := match s.via x with
  | some i => match rows[i]? with
    | some r => r.c
    | none => 0
  | none => 0
/-- m parents up, with the sum of the costs -/
inductive Path (rows : List Row) (s : S) : Nat → Nat → Nat → Int → Prop
  | nil (x : Nat) : Path rows s 0 x x 0
  | step {m x y z : Nat} {c : Int} (h : par rows s x = some y) (p : Path rows s m y z c) : Path rows s (m + 1) x z (cost rows s x + c)
theorem par_step {rows : List Row} {T : Nat} {e : Nat → Nat} {s : S} (I : Inv rows T e s) {x y : Nat} (h : par rows s x = some y) : s.time x ≤ s.time y + rows.length ∧ (s.least x > s.least y + cost rows s x ∨ (s.least x = s.least y + cost rows s x ∧ s.time y < s.time x)) := by
  unfold par at h
  cases hv : s.via x with
  | none => rw [hv] at h; cases h
  | some i =>
    rw [hv] at h
    obtain ⟨r, h1, h2, h3, h4⟩ := I.par x i hv
    simp only [Option.bind_some, h1, Option.map_some, Option.some.injEq] at h
    subst h
    unfold cost
    rw [hv]
    simp only [h1]
    exact ⟨h3, h4⟩
theorem path_drop {rows : List Row} {T : Nat} {e : Nat → Nat} {s : S} (I : Inv rows T e s) : ∀ {m x z : Nat} {c : Int}, Path rows s m x z c → 0 < m → s.least x > s.least z + c ∨ (s.least x = s.least z + c ∧ s.time z < s.time x)
  | _, _, _, _, .nil x, h => absurd h (Nat.lt_irrefl 0)
  | _, _, _, _, .step (m := m) hp p, _ => by
    obtain ⟨_, h2⟩ := par_step I hp
    cases m with
    | zero =>
      cases p
      rcases h2 with z | ⟨z, w⟩
      · exact .inl (by omega)
      · exact .inr ⟨by omega, w⟩
    | succ m =>
      rcases path_drop I p (Nat.succ_pos m) with z | ⟨z, w⟩ <;> rcases h2 with u | ⟨u, v⟩
      · exact .inl (by omega)
      · exact .inl (by omega)
      · exact .inl (by omega)
      · exact .inr ⟨by omega, by omega⟩
/-- a cycle of parents is negative -/
theorem cycle_neg {rows : List Row} {T : Nat} {e : Nat → Nat} {s : S} (I : Inv rows T e s) {m x : Nat} {c : Int} (p : Path rows s m x x c) (hm : 0 < m) : c < 0 := by
  rcases path_drop I p hm with z | ⟨_, w⟩
  · omega
  · exact absurd w (Nat.lt_irrefl _)
theorem par_some {rows : List Row} {T : Nat} {e : Nat → Nat} {s : S} (I : Inv rows T e s) {x : Nat} (h : 0 < s.time x) : ∃ y, par rows s x = some y := by
  cases hv : s.via x with
  | none => have := (I.none0 x).mp hv; omega
  | some i =>
    obtain ⟨r, h1, _⟩ := I.par x i hv
    exact ⟨r.y, by simp [par, hv, h1]⟩
/-- so long a chain of parents -/
theorem chain_up {rows : List Row} {T : Nat} {e : Nat → Nat} {s : S} (I : Inv rows T e s) : ∀ (m : Nat) {x : Nat}, m * rows.length < s.time x → ∃ z c, Path rows s (m + 1) x z c
  | 0, x, h => by
    obtain ⟨y, hy⟩ := par_some I (x := x) (by omega)
    exact ⟨y, _, .step hy (.nil y)⟩
  | m + 1, x, h => by
    obtain ⟨y, hy⟩ := par_some I (x := x) (by omega)
    obtain ⟨ht, _⟩ := par_step I hy
    rw [Nat.succ_mul] at h
    obtain ⟨z, c, p⟩ := chain_up I m (x := y) (by omega)
    exact ⟨z, _, .step hy p⟩
theorem pigeon : ∀ (n : Nat) (p : Nat → Nat), (∀ i, i ≤ n + 1 → p i ≤ n) → ∃ i j, i < j ∧ j ≤ n + 1 ∧ p i = p j
  | 0, p, h => ⟨0, 1, by omega, by omega, by have := h 0 (by omega); have := h 1 (by omega); omega⟩
  | n + 1, p, h => by
    by_cases hx : ∃ i, i ≤ n + 1 ∧ p i = p (n + 2)
    · obtain ⟨i, hi, e⟩ := hx
      exact ⟨i, n + 2, by omega, by omega, e⟩
    · have hx : ∀ i, i ≤ n + 1 → p i ≠ p (n + 2) := fun i hi e => hx ⟨i, hi, e⟩
      obtain ⟨i, j, hij, hj, e⟩ := pigeon n (fun i => if p i = n + 1 then p (n + 2) else p i) (fun i hi => by
        have h1 := h i (by omega)
        have h2 := h (n + 2) (by omega)
        have h3 := hx i hi
        show (if p i = n + 1 then p (n + 2) else p i) ≤ n
        split <;> omega)
      refine ⟨i, j, hij, by omega, ?_⟩
      have h1 := hx i (by omega)
      have h2 := hx j hj
      have e : (if p i = n + 1 then p (n + 2) else p i) = (if p j = n + 1 then p (n + 2) else p j) := e
      split at e <;> split at e <;> omega
/-- the m-th parent -/
def nth (rows : List Row) (s : S) (x : Nat) : Nat → Nat
  | 0 => x
  | m + 1 => (par rows s (nth rows s x m)).getD 0
theorem nth_time {rows : List Row} {T : Nat} {e : Nat → Nat} {s : S} (I : Inv rows T e s) {x n : Nat} (h : n * rows.length < s.time x) : ∀ i, i ≤ n → (n - i) * rows.length < s.time (nth rows s x i) ∧ par rows s (nth rows s x i) = some (nth rows s x (i + 1))
  | 0, _ => by
    obtain ⟨y, hy⟩ := par_some I (x := x) (by omega)
    exact ⟨h, by simp [nth, hy]⟩
  | i + 1, hi => by
    obtain ⟨h1, h2⟩ := nth_time I h i (by omega)
    obtain ⟨ht, _⟩ := par_step I h2
    have e1 : n - i = (n - (i + 1)) + 1 := by omega
    rw [e1, Nat.succ_mul] at h1
    have h3 : (n - (i + 1)) * rows.length < s.time (nth rows s x (i + 1)) := by omega
    obtain ⟨y, hy⟩ := par_some I (x := nth rows s x (i + 1)) (by omega)
    exact ⟨h3, by rw [hy]; show some y = some ((par rows s (nth rows s x (i + 1))).getD 0); rw [hy]; rfl⟩
/-- n + 1 steps up from a node that changed in the last pass lead onto a cycle -/
theorem on_cycle {rows : List Row} {T : Nat} {e : Nat → Nat} {s : S} (I : Inv rows T e s) {x n : Nat} (h : n * rows.length < s.time x) (hn : ∀ i, i ≤ n + 1 → nth rows s x i ≤ n) : ∃ i j, i < j ∧ j ≤ n + 1 ∧ nth rows s x i = nth rows s x j :=
  pigeon n (nth rows s x) hn
end BF

end
section
set_option Elab.async false
set_option linter.all false
namespace BF
variable {rows : List Row} {s : S}
theorem nth_add {x a : Nat} : ∀ b, nth rows s (nth rows s x a) b = nth rows s x (a + b)
  | 0 => rfl
  | b + 1 => by
    show (par rows s (nth rows s (nth rows s x a) b)).getD 0 = (par rows s (nth rows s x (a + b))).getD 0
    rw [nth_add b]
theorem par_le {n : Nat} (hr : ∀ r ∈ rows, r.y ≤ n) {x y : Nat} (h : par rows s x = some y) : y ≤ n := by
  unfold par at h
  cases hv : s.via x with
  | none => rw [hv] at h; cases h
  | some i =>
    rw [hv] at h
    simp only [Option.bind_some] at h
    cases hi : rows[i]? with
    | none => rw [hi] at h; cases h
    | some r =>
      rw [hi] at h
      simp only [Option.map_some, Option.some.injEq] at h
      exact h ▸ hr r (List.mem_of_getElem? hi)
theorem nth_le {n x : Nat} (hr : ∀ r ∈ rows, r.y ≤ n) (hx : x ≤ n) : ∀ i, nth rows s x i ≤ n
  | 0 => hx
  | i + 1 => by
    show (par rows s (nth rows s x i)).getD 0 ≤ n
    cases h : par rows s (nth rows s x i) with
    | none => exact Nat.zero_le _
    | some y => exact par_le hr h
theorem least_q {p : Nat → Prop} : ∀ q : Nat, 0 < q → p q → ∃ m, 0 < m ∧ m ≤ q ∧ p m ∧ ∀ j, 0 < j → j < m → ¬ p j := by
  intro q
  induction q using Nat.strongRecOn with
  | ind q ih =>
    intro h0 hp
    by_cases h : ∃ j, 0 < j ∧ j < q ∧ p j
    · obtain ⟨j, j0, j1, pj⟩ := h
      obtain ⟨m, a, b, c, d⟩ := ih j j1 j0 pj
      exact ⟨m, a, by omega, c, d⟩
    · exact ⟨q, h0, Nat.le_refl _, hp, fun j a b c => h ⟨j, a, b, c⟩⟩
/-- n + 1 steps up one is on a cycle of at most n + 1 places -/
theorem cyc {T : Nat} {e : Nat → Nat} (I : Inv rows T e s) {x n : Nat} (h : n * rows.length < s.time x) (hr : ∀ r ∈ rows, r.y ≤ n) (hx : x ≤ n) :
    ∃ z, z = nth rows s x (n + 1) ∧ (∀ a, par rows s (nth rows s z a) = some (nth rows s z (a + 1)) ∧ nth rows s z a ≤ n) ∧ ∃ q, 0 < q ∧ q ≤ n + 1 ∧ nth rows s z q = z ∧ ∀ m, 0 < m → m < q → nth rows s z m ≠ z := by
  obtain ⟨i, j, hij, hj, he⟩ := on_cycle I h (fun i _ => nth_le hr hx i)
  have back : ∀ m, ∃ m', i ≤ m' ∧ m' < j ∧ nth rows s x (i + m) = nth rows s x m' := by
    intro m
    induction m with
    | zero => exact ⟨i, Nat.le_refl _, hij, rfl⟩
    | succ m ih =>
      obtain ⟨m', a, b, c⟩ := ih
      have e1 : nth rows s x (i + (m + 1)) = nth rows s x (m' + 1) := by
        show (par rows s (nth rows s x (i + m))).getD 0 = (par rows s (nth rows s x m')).getD 0
        rw [c]
      by_cases hm : m' + 1 = j
      · exact ⟨i, Nat.le_refl _, hij, by rw [e1, hm, he]⟩
      · exact ⟨m' + 1, by omega, by omega, e1⟩
  refine ⟨_, rfl, fun a => ⟨?_, nth_le hr (nth_le hr hx _) _⟩, ?_⟩
  · rw [nth_add, nth_add]
    obtain ⟨m', m0, m1, e1⟩ := back (n + 1 + a - i)
    rw [show i + (n + 1 + a - i) = n + 1 + a by omega] at e1
    have := (nth_time I h m' (by omega)).2
    rw [← Nat.add_assoc]
    show par rows s (nth rows s x (n + 1 + a)) = some ((par rows s (nth rows s x (n + 1 + a))).getD 0)
    rw [e1, this]
    rfl
  · obtain ⟨m', m0, m1, e1⟩ := back (n + 1 - i)
    rw [show i + (n + 1 - i) = n + 1 by omega] at e1
    have hq : nth rows s (nth rows s x (n + 1)) (j - i) = nth rows s x (n + 1) := by
      have e2 : nth rows s x m' = nth rows s x (m' + (j - i)) := by
        obtain ⟨d, rfl⟩ : ∃ d, m' = i + d := ⟨m' - i, by omega⟩
        rw [show i + d + (j - i) = j + d by omega, ← nth_add (a := i), ← nth_add (a := j), he]
      rw [e1, nth_add]
      exact e2.symm
    obtain ⟨q, a, b, c, d⟩ := least_q (p := fun q => nth rows s (nth rows s x (n + 1)) q = nth rows s x (n + 1)) (j - i) (by omega) hq
    exact ⟨q, a, by omega, c, d⟩
def sumC (rows : List Row) (s : S) (z m : Nat) : Int := ((List.range m).map fun a => cost rows s (nth rows s z a)).sum
theorem path_nth : ∀ (m z : Nat), (∀ a, par rows s (nth rows s z a) = some (nth rows s z (a + 1))) → Path rows s m z (nth rows s z m) (sumC rows s z m)
  | 0, z, _ => .nil z
  | m + 1, z, h => by
    have h0 := h 0
    have p := path_nth m (nth rows s z 1) (fun a => by rw [nth_add, nth_add, ← Nat.add_assoc]; exact h (1 + a))
    rw [nth_add, Nat.add_comm 1 m] at p
    have e : sumC rows s z (m + 1) = cost rows s z + sumC rows s (nth rows s z 1) m := by
      unfold sumC
      rw [List.range_succ_eq_map, List.map_cons, List.sum_cons, List.map_map]
      congr 2
      refine List.map_congr_left fun a _ => ?_
      show cost rows s (nth rows s z (a + 1)) = cost rows s (nth rows s (nth rows s z 1) a)
      rw [nth_add, Nat.add_comm 1 a]
    rw [e]
    exact .step h0 p
theorem cyc_neg {T : Nat} {e : Nat → Nat} (I : Inv rows T e s) {z q : Nat} (hp : ∀ a, par rows s (nth rows s z a) = some (nth rows s z (a + 1))) (hq : 0 < q) (hz : nth rows s z q = z) : sumC rows s z q < 0 := by
  have p := path_nth q z hp
  rw [hz] at p
  exact cycle_neg I p hq
/-- the last looks: row j's, ahead of look i of pass t -/
def eF (R t i j : Nat) : Nat := if j < R then (if j < i then t * R + j + 1 else if t = 0 then 0 else (t - 1) * R + j + 1) else 0
theorem eF_up {R t i : Nat} (h : i < R) : up (eF R t i) i (t * R + i + 1) = eF R t (i + 1) := by
  funext j
  unfold up eF
  by_cases hj : j = i
  · subst hj; simp [h]
  · rw [if_neg hj]
    by_cases h1 : j < i
    · simp [h1, show j < i + 1 by omega]
    · simp [h1, show ¬ j < i + 1 by omega]
theorem eF_next {R t : Nat} : eF R t R = eF R (t + 1) 0 := by
  funext j
  unfold eF
  split <;> simp_all
theorem eF_le {R t i j : Nat} (h : i ≤ R) : eF R t i j ≤ t * R + i := by
  unfold eF
  split
  · split
    · omega
    · split
      · omega
      · cases t with
        | zero => omega
        | succ t => rw [Nat.succ_mul]; simp; omega
  · omega
theorem look_F {t i : Nat} {r : Row} (hr : rows[i]? = some r) (hxy : r.x ≠ r.y) (I : Inv rows (t * rows.length + i) (eF rows.length t i) s) : Inv rows (t * rows.length + (i + 1)) (eF rows.length t (i + 1)) (look r i (t * rows.length + i + 1) s) := by
  have hi : i < rows.length := (List.getElem?_eq_some_iff.mp hr).1
  have := look_inv hr hxy I (fun j => eF_le (Nat.le_of_lt hi)) (fun h0 => by
    unfold eF at h0 ⊢
    simp only [hi, if_true, Nat.lt_irrefl, if_false] at h0 ⊢
    cases t with
    | zero => simp at h0
    | succ t => simp [Nat.succ_mul]; omega) (fun h0 => by
    unfold eF at h0
    simp only [hi, if_true, Nat.lt_irrefl, if_false] at h0
    cases t with
    | zero => simp; omega
    | succ t => simp at h0)
  rw [eF_up hi] at this
  exact this
def s0 : S := ⟨fun _ => 0, fun _ => none, fun _ => 0⟩
theorem s0_inv : Inv rows (0 * rows.length + 0) (eF rows.length 0 0) s0 := by
  refine ⟨fun _ => Nat.zero_le _, fun _ => ⟨fun _ => rfl, fun _ => rfl⟩, fun j r _ h => ?_, fun x i h => by cases h⟩
  unfold eF at h
  simp at h
end BF

end
section
set_option Elab.async false
set_option maxRecDepth 100000
set_option linter.all false
set_option maxHeartbeats 4000000
namespace K00
open MP
variable {k : Nat} {h : Hh}
/-! settle -/
def toRow (r : P) : BF.Row := ⟨(rx r).toNat, (ry r).toNat, rc r⟩
def viaP : Option Nat → P
  | none => .non
  | some i => .int i
def leastL (N : Nat) (f : Nat → Int) : List D := (List.range N).map fun x => .p (.int (f x))
def viaL (N : Nat) (f : Nat → Option Nat) : List D := (List.range N).map fun x => .p (viaP (f x))
theorem at_rng {f : Nat → D} {N : Nat} {i : Int} (h0 : 0 ≤ i) (h1 : i < N) : at? ((List.range N).map f) i = some (f i.toNat) := by
  rw [at_nat h0, List.getElem?_map, List.getElem?_range (by omega)]
  rfl
theorem at_least {N : Nat} {f : Nat → Int} {i : Int} (h0 : 0 ≤ i) (h1 : i < N) : at? (leastL N f) i = some (.p (.int (f i.toNat))) := at_rng h0 h1
theorem at_via {N : Nat} {f : Nat → Option Nat} {i : Int} (h0 : 0 ≤ i) (h1 : i < N) : at? (viaL N f) i = some (.p (viaP (f i.toNat))) := at_rng h0 h1
theorem len_least {N : Nat} {f : Nat → Int} : (leastL N f).length = N := by simp [leastL]
theorem len_via {N : Nat} {f : Nat → Option Nat} : (viaL N f).length = N := by simp [viaL]
theorem set_least {N x : Nat} {f : Nat → Int} {v : Int} : (leastL N f).set x (.p (.int v)) = leastL N (BF.up f x v) := by
  unfold leastL
  refine List.ext_getElem (by simp) fun j h1 h2 => ?_
  rw [List.getElem_set]
  simp only [List.getElem_map, List.getElem_range, BF.up]
  split
  · rename_i e; subst e; simp
  · rename_i e; rw [if_neg (Ne.symm e)]
theorem set_via {N x : Nat} {f : Nat → Option Nat} {v : Nat} : (viaL N f).set x (.p (.int v)) = viaL N (BF.up f x (some v)) := by
  unfold viaL
  refine List.ext_getElem (by simp) fun j h1 h2 => ?_
  rw [List.getElem_set]
  simp only [List.getElem_map, List.getElem_range, BF.up]
  split
  · rename_i e; subst e; simp [viaP]
  · rename_i e; rw [if_neg (Ne.symm e)]
def hS (N : Nat) (s : BF.S) : Hh := [leastL N s.least, viaL N s.via]
theorem hS0 {N : Nat} {s : BF.S} : (hS N s)[0]? = some (leastL N s.least) := rfl
theorem hS1 {N : Nat} {s : BF.S} : (hS N s)[1]? = some (viaL N s.via) := rfl
theorem hSs {N i T : Nat} {s : BF.S} {r : BF.Row} (hv : s.least r.y + r.c < s.least r.x) : ((hS N s).set 0 ((leastL N s.least).set r.x (.p (.int (s.least r.y + r.c))))).set 1 ((viaL N s.via).set r.x (.p (.int i))) = hS N (BF.look r i T s) := by
  unfold BF.look
  rw [if_pos hv, set_least, set_via]
  rfl
def setIn : Stms := (.cons (.iff (.cmp .lt (.bin .add (.ix (.var 2) (.var 8)) (.var 9)) (.ix (.var 2) (.var 7))) (.cons (.put (.var 2) (.var 7) (.bin .add (.ix (.var 2) (.var 8)) (.var 9)))
        (.cons (.put (.var 3) (.var 7) (.var 6))
        (.cons (.set 4 (.var 7)) .nil))) .nil) .nil)
/-- the slots -/
def seE (n : Int) (rows : List P) (ch : P) (o5 o6 o7 o8 o9 : Option D) : En := [some (.p (.int n)), some (.p (.tup rows)), some (.ref 0), some (.ref 1), some (.p ch), o5, o6, o7, o8, o9, none]
theorem s_setIn {n : Int} {rows : List P} {ch : P} {o5 : Option D} {N i T : Nat} {s : BF.S} {x y c : Int} (x0 : 0 ≤ x) (x1 : x < N) (y0 : 0 ≤ y) (y1 : y < N) :
    exs (rn k) sb setIn (seE n rows ch o5 (some (.p (.int i))) (some (.p (.int x))) (some (.p (.int y))) (some (.p (.int c)))) (hS N s) =
      if s.least y.toNat + c < s.least x.toNat then .nx (seE n rows (.int x) o5 (some (.p (.int i))) (some (.p (.int x))) (some (.p (.int y))) (some (.p (.int c)))) (hS N (BF.look ⟨x.toNat, y.toNat, c⟩ i T s))
      else .nx (seE n rows ch o5 (some (.p (.int i))) (some (.p (.int x))) (some (.p (.int y))) (some (.p (.int c)))) (hS N s) := by
  have b1 : binI .add (s.least y.toNat) c = some (s.least y.toNat + c) := rfl
  have z1 : ∀ L, ((hS N s).set 0 L)[1]? = some (viaL N s.via) := fun _ => rfl
  by_cases hv : s.least y.toNat + c < s.least x.toNat
  · rw [if_pos hv]
    rw [← hSs (r := ⟨x.toNat, y.toNat, c⟩) (T := T) hv]
    simp [setIn, seE, ixD, hS0, hS1, at_least x0 x1, at_least y0 y1, okD, binD, binP, b1, okP, cmpD, cmpP, hv, len_least, len_via, x0, x1, z1]
  · rw [if_neg hv]
    simp [setIn, seE, ixD, hS0, hS1, at_least x0 x1, at_least y0 y1, okD, binD, binP, b1, okP, cmpD, cmpP, hv]
theorem enum_at {xs : List P} {j : Nat} {x : P} (hj : (enumP xs)[j]? = some x) : ∃ r, xs[j]? = some r ∧ x = .tup [.int j, r] := by
  unfold enumP at hj
  rw [List.getElem?_map, List.getElem?_zipIdx] at hj
  cases e : xs[j]? with
  | none => rw [e] at hj; simp at hj
  | some r =>
    rw [e] at hj
    simp at hj
    exact ⟨r, rfl, hj.symm⟩
theorem enum_lenX {xs : List P} : (enumP xs).length = xs.length := by simp [enumP]
/-- what is known of the place changed last in the pass -/
def Chg (N t i : Nat) (rs : List BF.Row) (s : BF.S) (ch : P) : Prop := (ch = .non ∧ ∀ j, j < i → ∀ r, rs[j]? = some r → s.least r.x ≤ s.least r.y + r.c) ∨ (∃ x : Nat, ch = .int x ∧ x < N ∧ t * rs.length < s.time x)
/-- a pass -/
theorem s_pass {n : Int} {rows : List P} {o5 o6 o7 o8 o9 : Option D} {N t : Nat} {s : BF.S} (hr : ∀ r ∈ rows, isDiffN n r = true) (hN : (N : Int) = n + 1) (I : BF.Inv (rows.map toRow) (t * (rows.map toRow).length + 0) (BF.eF (rows.map toRow).length t 0) s) :
    ∃ (s' : BF.S) (ch : P) (o6' o7' o8' o9' : Option D), forL (exs (rn k) sb setIn) (.tp [.nm 6, .tp [.nm 7, .nm 8, .nm 9]]) (enumP rows) (seE n rows .non o5 o6 o7 o8 o9) (hS N s) = .nx (seE n rows ch o5 o6' o7' o8' o9') (hS N s') ∧
      BF.Inv (rows.map toRow) (t * (rows.map toRow).length + (rows.map toRow).length) (BF.eF (rows.map toRow).length t (rows.map toRow).length) s' ∧ Chg N t (rows.map toRow).length (rows.map toRow) s' ch := by
  obtain ⟨ρ', h', e, s', ch, o6', o7', o8', o9', f1, f2, f3, f4⟩ := forL_inv (body := exs (rn k) sb setIn) (tg := .tp [.nm 6, .tp [.nm 7, .nm 8, .nm 9]]) (fun i ρ h' => ∃ (s' : BF.S) (ch : P) (o6' o7' o8' o9' : Option D), ρ = seE n rows ch o5 o6' o7' o8' o9' ∧ h' = hS N s' ∧
      BF.Inv (rows.map toRow) (t * (rows.map toRow).length + i) (BF.eF (rows.map toRow).length t i) s' ∧ Chg N t i (rows.map toRow) s' ch) (xs := enumP rows) (i := 0) (ρ := seE n rows .non o5 o6 o7 o8 o9) (h := hS N s) (fun j x ρ h1 hj hI => by
    obtain ⟨s1, ch, a6, a7, a8, a9, rfl, rfl, I1, C1⟩ := hI
    rw [Nat.zero_add] at I1 C1
    rw [Nat.zero_add]
    obtain ⟨r, hjr, rfl⟩ := enum_at hj
    obtain ⟨x, y, c, rfl, x0, y0, xy, x1, y1⟩ := isDiffN_eq.mp (hr r (List.mem_of_getElem? hjr))
    have hb : (rows.map toRow)[j]? = some ⟨x.toNat, y.toNat, c⟩ := by rw [List.getElem?_map, hjr]; rfl
    have I2 := BF.look_F hb (by show x.toNat ≠ y.toNat; omega) I1
    have es := s_setIn (k := k) (n := n) (rows := rows) (ch := ch) (o5 := o5) (N := N) (i := j) (T := t * (rows.map toRow).length + j + 1) (s := s1) (c := c) x0 (by omega) y0 (by omega)
    refine ⟨seE n rows ch o5 (some (.p (.int j))) (some (.p (.int x))) (some (.p (.int y))) (some (.p (.int c))), ?_⟩
    by_cases hv : s1.least y.toNat + c < s1.least x.toNat
    · rw [if_pos hv] at es
      refine ⟨_, _, rfl, es, _, .int x, _, _, _, _, rfl, rfl, I2, .inr ⟨x.toNat, by rw [Int.toNat_of_nonneg x0], by omega, ?_⟩⟩
      unfold BF.look
      rw [if_pos hv]
      show _ < BF.up s1.time x.toNat _ x.toNat
      rw [BF.up_same]
      omega
    · rw [if_neg hv] at es
      have el : BF.look ⟨x.toNat, y.toNat, c⟩ j (t * (rows.map toRow).length + j + 1) s1 = s1 := if_neg hv
      rw [el] at I2
      refine ⟨_, _, rfl, es, s1, ch, _, _, _, _, rfl, rfl, I2, ?_⟩
      rcases C1 with ⟨e1, q⟩ | q
      · refine .inl ⟨e1, fun l hl r hlr => ?_⟩
        by_cases hlj : l = j
        · subst hlj
          rw [hb] at hlr
          cases hlr
          exact Int.not_lt.mp hv
        · exact q l (by omega) r hlr
      · exact .inr q) ⟨s, .non, o6, o7, o8, o9, rfl, rfl, I, .inl ⟨rfl, fun j hj => absurd hj (Nat.not_lt_zero _)⟩⟩
  subst f1
  subst f2
  rw [enum_lenX, Nat.zero_add] at f3 f4
  have hl : (rows.map toRow).length = rows.length := List.length_map ..
  rw [← hl] at f3 f4
  exact ⟨s', ch, o6', o7', o8', o9', e, f3, f4⟩
/-- a list of one's own gone through -/
theorem compR_map {f : P → Hh → R (Option D)} {n : Nat} {xs : List P} {g : P → P} {h : Hh} (hx : h[n]? = some (xs.map D.p)) (hf : ∀ x ∈ xs, f x h = .ok (some (.p (g x))) h) : ∀ (k i : Nat), xs.length < k + i → i ≤ xs.length → compR f .seq n k i h = .ok (((xs.drop i).map g).map D.p) h
  | 0, i, h1, h2 => by omega
  | k + 1, i, h1, h2 => by
    unfold compR
    rw [hx]
    simp only
    by_cases hi : i = xs.length
    · subst hi
      rw [List.getElem?_eq_none (by simp)]
      simp
    · have hlt : i < xs.length := by omega
      rw [List.getElem?_map, List.getElem?_eq_getElem hlt]
      simp only [Option.map_some, wrapI]
      rw [hf _ (List.getElem_mem hlt)]
      simp only
      rw [compR_map hx hf k (i + 1) (by omega) (by omega)]
      simp only
      rw [List.drop_eq_getElem_cons hlt]
      rfl
theorem compV_cell {ρ : En} {c : Bool} {tg : Tg} {cond : Codes} {elt : Code} {n : Nat} {xs : List P} {g : P → P} {call : Nat → List D → Hh → R D} (hx : h[n]? = some (xs.map D.p)) (hl : xs.length < 1000000) (hf : ∀ x ∈ xs, item call ρ tg cond elt x h = .ok (some (.p (g x))) h) :
    compV call ρ c .seq tg cond elt [.ref n] h = mkL c ((xs.map g).map D.p) h := by
  unfold compV
  rw [show itemsOf .seq [.ref n] = none from rfl, show cellOf .seq [.ref n] = some n from rfl]
  simp only
  rw [compR_map hx hf turns 0 (by show xs.length < 1000000 + 0; exact hl) (Nat.zero_le _)]
  rfl
end K00

end
section
set_option Elab.async false
set_option maxRecDepth 100000
set_option linter.all false
set_option maxHeartbeats 4000000
namespace K00
open MP
variable {k : Nat} {h : Hh}
/-! ring_at -/
theorem whlL_inv {c : En → Hh → R D} {body : En → Hh → MP.X} (Inv : Nat → En → Hh → Prop) {q : Nat} (step : ∀ m, m < q → ∀ ρ h, Inv m ρ h → c ρ h = .ok (.p (.bl true)) h ∧ ∃ ρ2 h2, body ρ h = .nx ρ2 h2 ∧ Inv (m + 1) ρ2 h2) (stop : ∀ ρ h, Inv q ρ h → c ρ h = .ok (.p (.bl false)) h) :
    ∀ (k m : Nat) (ρ : En) (h : Hh), m ≤ q → q < k + m → Inv m ρ h → ∃ ρ' h', whlL c body k ρ h = .nx ρ' h' ∧ Inv q ρ' h'
  | 0, m, ρ, h, h1, h2, _ => by omega
  | k + 1, m, ρ, h, h1, h2, I => by
    by_cases hm : m = q
    · subst hm
      exact ⟨ρ, h, by simp only [whlL, stop ρ h I, truth_bl], I⟩
    · obtain ⟨e1, ρ2, h2, e2, I2⟩ := step m (by omega) ρ h I
      obtain ⟨ρ', h', e3, I3⟩ := whlL_inv Inv step stop k (m + 1) ρ2 h2 (by omega) (by omega) I2
      exact ⟨ρ', h', by simp only [whlL, e1, truth_bl, e2, e3], I3⟩
theorem ex_whl {call : Nat → List D → Hh → R D} {sub : Nat → Nat → Option Bool} {ρ : En} {c : Code} {body : Stms} : ex call sub (.whl c body) ρ h = whlL (ev call c) (exs call sub body) turns ρ h := by simp only [ex]
theorem via_at {rows : List P} {s : BF.S} {T : Nat} {e : Nat → Nat} (I : BF.Inv (rows.map toRow) T e s) {n : Int} (hr : ∀ r ∈ rows, isDiffN n r = true) {p y : Nat} (h : BF.par (rows.map toRow) s p = some y) :
    ∃ i c, s.via p = some i ∧ i < rows.length ∧ rows[i]? = some (.tup [.int (p : Int), .int (y : Int), .int c]) ∧ BF.cost (rows.map toRow) s p = c := by
  unfold BF.par at h
  cases hv : s.via p with
  | none => rw [hv] at h; cases h
  | some i =>
    rw [hv] at h
    simp only [Option.bind_some] at h
    obtain ⟨r, hb, hx, _⟩ := I.par p i hv
    rw [hb] at h
    simp only [Option.map_some, Option.some.injEq] at h
    rw [List.getElem?_map] at hb
    cases hi : rows[i]? with
    | none => rw [hi] at hb; cases hb
    | some q =>
      rw [hi] at hb
      obtain ⟨x, y', c, rfl, x0, y0, _⟩ := isDiffN_eq.mp (hr q (List.mem_of_getElem? hi))
      simp only [Option.map_some, Option.some.injEq] at hb
      subst hb
      have hx : x.toNat = p := hx
      have h : y'.toNat = y := h
      refine ⟨i, c, rfl, (List.getElem?_eq_some_iff.mp hi).1, ?_, ?_⟩
      · rw [← hx, ← h, Int.toNat_of_nonneg x0, Int.toNat_of_nonneg y0]; exact hi
      · unfold BF.cost
        rw [hv]
        simp only [List.getElem?_map, hi, Option.map_some, toRow, rc]
def viaN (s : BF.S) (p : Nat) : P := .int ((s.via p).getD 0 : Nat)
def ringL (rows : List P) (s : BF.S) (z m : Nat) : List P := (List.range m).map fun a => viaN s (BF.nth (rows.map toRow) s z a)
def upBody : Stms := (.cons (.set 4 (.ix (.ix (.var 1) (.ix (.var 2) (.var 4))) (.cint 1))) .nil)
def ringBody : Stms := (.cons (.app (.var 6) (.ix (.var 2) (.var 7)))
    (.cons (.set 7 (.ix (.ix (.var 1) (.ix (.var 2) (.var 7))) (.cint 1))) .nil))
/-- what is known of a step of the ring -/
def Stp (rows : List P) (s : BF.S) (z m : Nat) : Prop := ∃ i c, s.via (BF.nth (rows.map toRow) s z m) = some i ∧ i < rows.length ∧ rows[i]? = some (.tup [.int (BF.nth (rows.map toRow) s z m : Nat), .int (BF.nth (rows.map toRow) s z (m + 1) : Nat), .int c]) ∧ BF.cost (rows.map toRow) s (BF.nth (rows.map toRow) s z m) = c
theorem ring_len {rows : List P} {s : BF.S} {z q : Nat} : (ringL rows s z q).length = q := by simp [ringL]
theorem ring_val {rows : List P} {s : BF.S} {z q a : Nat} (h : a < q) : valAt (ringL rows s z q) (a : Int) = viaN s (BF.nth (rows.map toRow) s z a) := by
  unfold valAt ringL
  rw [at_nat (by omega), Int.toNat_natCast, List.getElem?_map, List.getElem?_range h]
  rfl
theorem ring_last {rows : List P} {s : BF.S} {z q : Nat} (h : 0 < q) : valAt (ringL rows s z q) (-1) = viaN s (BF.nth (rows.map toRow) s z (q - 1)) := by
  rw [← ring_val (q := q) (by omega)]
  unfold valAt
  congr 1
  unfold at?
  rw [if_neg (by decide), if_pos (by rw [ring_len]; omega), if_pos (by omega), ring_len]
  congr 1
  omega
theorem ring_row {rows : List P} {s : BF.S} {z a : Nat} (h : Stp rows s z a) : ∃ c, rowAt rows (viaN s (BF.nth (rows.map toRow) s z a)) = .tup [.int (BF.nth (rows.map toRow) s z a : Nat), .int (BF.nth (rows.map toRow) s z (a + 1) : Nat), .int c] ∧ c = BF.cost (rows.map toRow) s (BF.nth (rows.map toRow) s z a) := by
  obtain ⟨i, c, v1, v2, v3, v4⟩ := h
  refine ⟨c, ?_, v4.symm⟩
  unfold viaN rowAt
  rw [v1]
  simp only [Option.getD_some, ixOf, Int.toNat_natCast, v3]
theorem ring_bad {rows : List P} {s : BF.S} {z q : Nat} (hs : ∀ m, Stp rows s z m) (q0 : 0 < q) (hq : BF.nth (rows.map toRow) s z q = z) (hneg : BF.sumC (rows.map toRow) s z q < 0) : isBad rows (.tup (ringL rows s z q)) = true := by
  have hne : ringL rows s z q ≠ [] := fun h => by
    have := ring_len (rows := rows) (s := s) (z := z) (q := q)
    rw [h] at this
    simp at this
    omega
  have htot : total rows (ringL rows s z q) = BF.sumC (rows.map toRow) s z q := by
    unfold total ringL BF.sumC
    rw [List.map_map]
    congr 1
    refine List.map_congr_left fun a _ => ?_
    obtain ⟨c, h1, h2⟩ := ring_row (hs a)
    show rc (rowAt rows (viaN s _)) = _
    rw [h1, ← h2]
    rfl
  have hch : isChain rows (.tup (ringL rows s z q)) = true := by
    simp only [isChain, Bool.and_eq_true, Bool.not_eq_true', List.isEmpty_eq_false_iff]
    refine ⟨hne, List.all_eq_true.mpr fun v hv => ?_, List.all_eq_true.mpr fun v hv => ?_⟩
    · obtain ⟨a, _, rfl⟩ := List.mem_map.mp hv
      obtain ⟨i, c, v1, v2, _⟩ := hs a
      unfold viaN
      rw [v1]
      exact isIx_iff.mpr ⟨i, rfl, by omega, by omega⟩
    · obtain ⟨j, rfl, j0, j1⟩ := mem_rangeP hv
      rw [ring_len] at j1
      obtain ⟨a, rfl⟩ : ∃ a : Nat, j = a := ⟨j.toNat, by omega⟩
      unfold link
      simp only
      rw [show ((a : Int) + 1) = ((a + 1 : Nat) : Int) by omega, ring_val (by omega), ring_val (by omega)]
      obtain ⟨c, h1, _⟩ := ring_row (hs a)
      obtain ⟨c', h2, _⟩ := ring_row (hs (a + 1))
      rw [h1, h2]
      simp [ry, rx]
  unfold isBad
  rw [hch]
  simp only [Bool.true_and, Bool.and_eq_true, decide_eq_true_eq]
  refine ⟨?_, by rw [htot]; exact hneg⟩
  rw [ring_last q0, show (0 : Int) = ((0 : Nat) : Int) from rfl, ring_val q0]
  obtain ⟨c, h1, _⟩ := ring_row (hs (q - 1))
  obtain ⟨c', h2, _⟩ := ring_row (hs 0)
  rw [h1, h2]
  simp only [ry, rx]
  rw [show q - 1 + 1 = q by omega, hq]
  rfl
theorem s_ring {n : Int} {rows : List P} {N T x : Nat} {s : BF.S} {e : Nat → Nat} (hr : ∀ r ∈ rows, isDiffN n r = true) (hN : (N : Int) = n + 1) (hN2 : N ≤ 1000) (I : BF.Inv (rows.map toRow) T e s) (hx : x < N) (ht : n.toNat * (rows.map toRow).length < s.time x) :
    ∃ (vs : List P) (h' : Hh), rn (k + 1) 3 [.p (.int n), .p (.tup rows), .ref 1, .p (.int (x : Int))] (hS N s) = .ok (.p (.tup vs)) h' ∧ isBad rows (.tup vs) = true ∧ vs.length ≤ 1000 := by
  rw [show rn (k + 1) 3 [.p (.int n), .p (.tup rows), .ref 1, .p (.int (x : Int))] (hS N s) = fin0 (exs (rn k) sb b_ring_at [some (.p (.int n)), some (.p (.tup rows)), some (.ref 1), some (.p (.int (x : Int))), none, none, none, none] (hS N s)) from run_in (ds := [.p (.int n), .p (.tup rows), .ref 1, .p (.int (x : Int))]) (fn := f_ring_at.fn) rfl rfl rfl]
  have hy : ∀ r ∈ rows.map toRow, r.y ≤ n.toNat := fun r hm => by
    obtain ⟨q, hq, rfl⟩ := List.mem_map.mp hm
    obtain ⟨a, b, c, rfl, _, _, _, _, _⟩ := isDiffN_eq.mp (hr q hq)
    show b.toNat ≤ n.toNat
    omega
  obtain ⟨z, hz, hc, q, q0, q1, hq, hmin⟩ := BF.cyc I ht hy (by omega : x ≤ n.toNat)
  have hup := BF.nth_time I ht
  have hk : rgOk 0 (n + 1) = true := rgOk_small (by omega) (by omega)
  have hb1 : binI .add n 1 = some (n + 1) := rfl
  have hln : (rangeP 0 (n + 1)).length = n.toNat + 1 := by rw [rangeP_len]; omega
  -- up to the cycle
  obtain ⟨ρ1, h1, e1, o5, f1, f2⟩ := forL_inv (body := exs (rn k) sb upBody) (tg := .nm 5) (fun i ρ h' => ∃ (o5 : Option D), ρ = [some (.p (.int n)), some (.p (.tup rows)), some (.ref 1), some (.p (.int (x : Int))), some (.p (.int (BF.nth (rows.map toRow) s x i : Nat))), o5, none, none] ∧ h' = hS N s) (xs := rangeP 0 (n + 1)) (i := 0) (ρ := [some (.p (.int n)), some (.p (.tup rows)), some (.ref 1), some (.p (.int (x : Int))), some (.p (.int (x : Int))), none, none, none]) (h := hS N s) (fun j v ρ h1 hj hI => by
    obtain ⟨a5, rfl, rfl⟩ := hI
    have hjl := lt_of_get hj
    rw [hln] at hjl
    rw [Nat.zero_add]
    have hp := (hup j (by omega)).2
    have hle := BF.nth_le (s := s) hy (by omega : x ≤ n.toNat) j
    obtain ⟨i, c, v1, v2, v3, _⟩ := via_at I hr hp
    have va : at? (viaL N s.via) (BF.nth (rows.map toRow) s x j : Nat) = some (.p (.int i)) := by
      rw [at_via (by omega) (by omega), Int.toNat_natCast, v1]; rfl
    have ra : at? rows (i : Int) = some (.tup [.int (BF.nth (rows.map toRow) s x j : Nat), .int (BF.nth (rows.map toRow) s x (j + 1) : Nat), .int c]) := by
      rw [at_nat (by omega), Int.toNat_natCast, v3]
    exact ⟨_, _, _, rfl, by simp [upBody, ixD, hS1, va, okD, ra, okP, at3_1], some (.p v), rfl, rfl⟩) ⟨none, rfl, rfl⟩
  subst f1
  subst f2
  rw [hln, Nat.zero_add, ← hz] at e1
  have hfor : ex (rn k) sb (.forS .range (.cons (.bin .add (.var 0) (.cint 1)) .nil) (.nm 5) upBody) [some (.p (.int n)), some (.p (.tup rows)), some (.ref 1), some (.p (.int (x : Int))), some (.p (.int (x : Int))), none, none, none] (hS N s) = .nx [some (.p (.int n)), some (.p (.tup rows)), some (.ref 1), some (.p (.int (x : Int))), some (.p (.int (z : Int))), o5, none, none] (hS N s) := by
    rw [ex_for_items (ds := [.p (.int (n + 1))]) (h1 := hS N s) (xs := rangeP 0 (n + 1)) (by simp [binD, binP, hb1, okP]) (by simp [itemsOf, hk])]
    exact e1
  -- along the cycle
  have stp : ∀ m, ∃ i c, s.via (BF.nth (rows.map toRow) s z m) = some i ∧ i < rows.length ∧ rows[i]? = some (.tup [.int (BF.nth (rows.map toRow) s z m : Nat), .int (BF.nth (rows.map toRow) s z (m + 1) : Nat), .int c]) ∧ BF.cost (rows.map toRow) s (BF.nth (rows.map toRow) s z m) = c ∧ at? (viaL N s.via) (BF.nth (rows.map toRow) s z m : Nat) = some (.p (.int i)) ∧ at? rows (i : Int) = some (.tup [.int (BF.nth (rows.map toRow) s z m : Nat), .int (BF.nth (rows.map toRow) s z (m + 1) : Nat), .int c]) ∧ viaN s (BF.nth (rows.map toRow) s z m) = .int i := fun m => by
    obtain ⟨hp, hle⟩ := hc m
    obtain ⟨i, c, v1, v2, v3, v4⟩ := via_at I hr hp
    refine ⟨i, c, v1, v2, v3, v4, ?_, ?_, ?_⟩
    · rw [at_via (by omega) (by omega), Int.toNat_natCast, v1]; rfl
    · rw [at_nat (by omega), Int.toNat_natCast, v3]
    · unfold viaN; rw [v1]; rfl
  obtain ⟨i0, c0, _, _, _, _, va0, ra0, vn0⟩ := stp 0
  have va0 : at? (viaL N s.via) (z : Int) = some (.p (.int i0)) := va0
  have hr1 : [D.p (.int i0)] = (ringL rows s z 1).map D.p := by
    show _ = [D.p (viaN s (BF.nth (rows.map toRow) s z 0))]
    rw [vn0]
  obtain ⟨ρ2, h2, e2, g1, g2⟩ := whlL_inv (c := ev (rn k) (.cmp .ne (.var 7) (.var 4))) (body := exs (rn k) sb ringBody) (fun m ρ h => 0 < m ∧ ρ = [some (.p (.int n)), some (.p (.tup rows)), some (.ref 1), some (.p (.int (x : Int))), some (.p (.int (z : Int))), o5, some (.ref 2), some (.p (.int (BF.nth (rows.map toRow) s z m : Nat)))] ∧ h = hS N s ++ [(ringL rows s z m).map D.p]) (q := q) (fun m hm ρ h I => by
    obtain ⟨m0, rfl, rfl⟩ := I
    have hne : ¬ ((BF.nth (rows.map toRow) s z m : Nat) : Int) = (z : Int) := fun h => hmin m m0 hm (by omega)
    obtain ⟨i, c, _, _, _, _, va, ra, vn⟩ := stp m
    have h1 : ∀ L, (hS N s ++ [L])[1]? = some (viaL N s.via) := fun _ => rfl
    have h2 : ∀ L, (hS N s ++ [L])[2]? = some L := fun _ => rfl
    have h3 : ∀ L M, (hS N s ++ [L]).set 2 M = hS N s ++ [M] := fun _ _ => rfl
    have hl : (ringL rows s z m).length < line := by
      have : (1001 : Nat) ≤ line := by decide
      simp [ringL]; omega
    have hrs : (ringL rows s z m).map D.p ++ [D.p (.int i)] = (ringL rows s z (m + 1)).map D.p := by
      unfold ringL
      rw [List.range_succ, List.map_append, List.map_append, ← vn]
      rfl
    refine ⟨by simp [cmpD, cmpP, eqP, okP, hne], _, _, ?_, by omega, rfl, rfl⟩
    simp [ringBody, ixD, h1, h2, h3, va, okD, ra, okP, at3_1, hl, ← hrs]) (fun ρ h I => by
    obtain ⟨m0, rfl, rfl⟩ := I
    rw [hq]
    simp [cmpD, cmpP, eqP, okP]) turns 1 [some (.p (.int n)), some (.p (.tup rows)), some (.ref 1), some (.p (.int (x : Int))), some (.p (.int (z : Int))), o5, some (.ref 2), some (.p (.int (BF.nth (rows.map toRow) s z 1 : Nat)))] (hS N s ++ [[D.p (.int i0)]]) q0 (by show q < 1000000 + 1; omega) ⟨by decide, rfl, by rw [hr1]⟩
  obtain ⟨rfl, rfl⟩ := g2
  have hs2 : ∀ m, Stp rows s z m := fun m => by
    obtain ⟨i, c, a, b, d, e, _⟩ := stp m
    exact ⟨i, c, a, b, d, e⟩
  have h2 : ∀ L, (hS N s ++ [L])[2]? = some L := fun _ => rfl
  have hbad := ring_bad hs2 q0 hq (BF.cyc_neg I (fun a => (hc a).1) q0 hq)
  refine ⟨ringL rows s z q, hS N s ++ [(ringL rows s z q).map D.p], ?_, hbad, by rw [ring_len]; omega⟩
  unfold upBody at hfor
  have ew := ex_whl (call := rn k) (sub := sb) (c := .cmp .ne (.var 7) (.var 4)) (body := ringBody) (ρ := [some (.p (.int n)), some (.p (.tup rows)), some (.ref 1), some (.p (.int (x : Int))), some (.p (.int (z : Int))), o5, some (.ref 2), some (.p (.int (BF.nth (rows.map toRow) s z 1 : Nat)))]) (h := hS N s ++ [[D.p (.int i0)]])
  rw [e2] at ew
  unfold ringBody at ew
  have hl : D.ref (hS N s).length = D.ref 2 := rfl
  have l1 : 1 ≤ line := by decide
  have ra0 : at? rows (i0 : Int) = some (.tup [.int (z : Nat), .int (BF.nth (rows.map toRow) s z 1 : Nat), .int c0]) := ra0
  have h1 : ∀ L, (hS N s ++ [L])[1]? = some (viaL N s.via) := fun _ => rfl
  simp [b_ring_at, hfor, ixD, hS1, h1, va0, okD, ra0, okP, at3_1, mkL, hl, l1, ew, biD, bi1, h2, allP_map]
end K00

end
section
set_option Elab.async false
set_option maxRecDepth 100000
set_option linter.all false
set_option maxHeartbeats 4000000
namespace K00
open MP
variable {k : Nat} {h : Hh}
theorem forL_inv2 {body : En → Hh → MP.X} {tg : Tg} (Inv : Nat → En → Hh → Prop) (Post : D → Hh → Prop) : ∀ {xs : List P} {i : Nat} {ρ : En} {h : Hh}, (∀ j x ρ h, xs[j]? = some x → Inv (i + j) ρ h → ∃ ρ1, asg tg x ρ = some ρ1 ∧ ((∃ ρ2 h2, body ρ1 h = .nx ρ2 h2 ∧ Inv (i + j + 1) ρ2 h2) ∨ ∃ d h2, body ρ1 h = .ret d h2 ∧ Post d h2)) → Inv i ρ h →
    (∃ ρ' h', forL body tg xs ρ h = .nx ρ' h' ∧ Inv (i + xs.length) ρ' h') ∨ ∃ d h', forL body tg xs ρ h = .ret d h' ∧ Post d h'
  | [], i, ρ, h, _, hi => .inl ⟨ρ, h, rfl, hi⟩
  | x :: xs, i, ρ, h, hs, hi => by
    obtain ⟨ρ1, e1, q⟩ := hs 0 x ρ h rfl hi
    rcases q with ⟨ρ2, h2, e2, i2⟩ | ⟨d, h2, e2, p2⟩
    · rcases forL_inv2 Inv Post (xs := xs) (i := i + 1) (ρ := ρ2) (h := h2) (fun j y ρ h hj hI => by
        have := hs (j + 1) y ρ h (by simpa using hj) (by rw [show i + (j + 1) = i + 1 + j by omega]; exact hI)
        rw [show i + 1 + j + 1 = i + (j + 1) + 1 by omega]
        exact this) i2 with ⟨ρ', h', e3, i3⟩ | ⟨d, h', e3, p3⟩
      · refine .inl ⟨ρ', h', ?_, by rw [List.length_cons, show i + (xs.length + 1) = i + 1 + xs.length by omega]; exact i3⟩
        simp only [forL, e1, e2, e3]
      · refine .inr ⟨d, h', ?_, p3⟩
        simp only [forL, e1, e2, e3]
    · exact .inr ⟨d, h2, by simp only [forL, e1, e2], p2⟩
def worldV (N : Nat) (f : Nat → Int) : List P := (List.range N).map fun x => .int (f x - f 0)
theorem worldV_ok {n : Int} {rows : List P} {N : Nat} {f : Nat → Int} (hr : ∀ r ∈ rows, isDiffN n r = true) (n0 : 0 ≤ n) (hN : (N : Int) = n + 1) (hh : ∀ j, j < (rows.map toRow).length → ∀ r, (rows.map toRow)[j]? = some r → f r.x ≤ f r.y + r.c) : isWorld n rows (.tup (worldV N f)) = true := by
  have hl : (worldV N f).length = N := by simp [worldV]
  have hi : (worldV N f).all isInt = true := List.all_eq_true.mpr fun v hv => by
    obtain ⟨a, _, rfl⟩ := List.mem_map.mp hv
    rfl
  have htv : ∀ x : Int, 0 ≤ x → x ≤ n → tv (worldV N f) x = f x.toNat - f 0 := fun x x0 x1 => by
    unfold tv worldV
    rw [at_nat x0, List.getElem?_map, List.getElem?_range (by omega)]
    rfl
  have hm : isMin n (.tup (worldV N f)) = true := by
    simp only [isMin, Bool.and_eq_true, decide_eq_true_eq]
    refine ⟨by rw [hl]; exact hN, hi, ?_⟩
    obtain ⟨M, rfl⟩ : ∃ M, N = M + 1 := ⟨N - 1, by omega⟩
    unfold worldV
    rw [List.range_succ_eq_map]
    simp [hd0]
  unfold isWorld
  rw [hm, Bool.true_and]
  refine List.all_eq_true.mpr fun r hm => ?_
  obtain ⟨x, y, c, rfl, x0, y0, _, x1, y1⟩ := isDiffN_eq.mp (hr r hm)
  obtain ⟨j, hj, e⟩ := List.mem_iff_getElem.mp hm
  have := hh j (by simpa using hj) ⟨x.toNat, y.toNat, c⟩ (by rw [List.getElem?_map, List.getElem?_eq_getElem hj, e]; rfl)
  simp only at this
  simp only [fails, itemsP, rx, ry, rc, htv x x0 x1, htv y y0 y1, Bool.not_eq_true', decide_eq_false_iff_not]
  omega
def setOut : Stms := (.cons (.set 4 (.cnon))
    (.cons (.forS .enum (.cons (.var 1) .nil) (.tp [.nm 6, .tp [.nm 7, .nm 8, .nm 9]]) setIn)
    (.cons (.iff (.cmp .is (.var 4) (.cnon)) (.cons (.ret (.tup (.cons (.cstr "world") (.cons (.bi .tuple (.cons (.comp false .seq (.cons (.var 2) .nil) (.nm 10) .nil (.bin .sub (.var 10) (.ix (.var 2) (.cint 0)))) .nil)) .nil)))) .nil) .nil) .nil)))
theorem s_setOut {n : Int} {rows : List P} {ch : P} {o5 o6 o7 o8 o9 : Option D} {N t : Nat} {s : BF.S} (hr : ∀ r ∈ rows, isDiffN n r = true) (n0 : 0 ≤ n) (hN : (N : Int) = n + 1) (hN2 : N ≤ 1000) (I : BF.Inv (rows.map toRow) (t * (rows.map toRow).length + 0) (BF.eF (rows.map toRow).length t 0) s) :
    (∃ (v : List P) (h' : Hh), exs (rn k) sb setOut (seE n rows ch o5 o6 o7 o8 o9) (hS N s) = .ret (.p (.tup [.str "world", .tup v])) h' ∧ isWorld n rows (.tup v) = true) ∨
    (∃ (s' : BF.S) (x : Nat) (o6' o7' o8' o9' : Option D), exs (rn k) sb setOut (seE n rows ch o5 o6 o7 o8 o9) (hS N s) = .nx (seE n rows (.int x) o5 o6' o7' o8' o9') (hS N s') ∧
      BF.Inv (rows.map toRow) ((t + 1) * (rows.map toRow).length + 0) (BF.eF (rows.map toRow).length (t + 1) 0) s' ∧ x < N ∧ t * (rows.map toRow).length < s'.time x) := by
  obtain ⟨s', ch', o6', o7', o8', o9', e, I', C⟩ := s_pass (k := k) (o5 := o5) (o6 := o6) (o7 := o7) (o8 := o8) (o9 := o9) hr hN I
  have hset : (seE n rows ch o5 o6 o7 o8 o9).set 4 (some (.p .non)) = seE n rows .non o5 o6 o7 o8 o9 := rfl
  have hfor : ex (rn k) sb (.forS .enum (.cons (.var 1) .nil) (.tp [.nm 6, .tp [.nm 7, .nm 8, .nm 9]]) setIn) (seE n rows .non o5 o6 o7 o8 o9) (hS N s) = .nx (seE n rows ch' o5 o6' o7' o8' o9') (hS N s') := by
    rw [ex_for_items (ds := [.p (.tup rows)]) (h1 := hS N s) (xs := enumP rows) (by simp [seE]) rfl]
    exact e
  unfold setIn at hfor
  have h4 : (seE n rows ch' o5 o6' o7' o8' o9')[4]? = some (some (.p ch')) := rfl
  have h2 : (seE n rows ch' o5 o6' o7' o8' o9')[2]? = some (some (.ref 0)) := rfl
  rcases C with ⟨rfl, hh⟩ | ⟨x, rfl, x1, x2⟩
  · refine .inl ⟨worldV N s'.least, hS N s', ?_, worldV_ok hr n0 hN hh⟩
    have hc : compV (rn k) (seE n rows .non o5 o6' o7' o8' o9') false .seq (.nm 10) .nil (.bin .sub (.var 10) (.ix (.var 2) (.cint 0))) [.ref 0] (hS N s') = .ok (.p (.lst (worldV N s'.least))) (hS N s') := by
      rw [compV_cell (xs := (List.range N).map fun x => .int (s'.least x)) (g := fun v => match v with | .int i => .int (i - s'.least 0) | v => v) (by rw [hS0]; simp [leastL]) (by simp; omega) (fun v hv => by
        obtain ⟨a, _, rfl⟩ := List.mem_map.mp hv
        have b1 : binI .sub (s'.least a) (s'.least 0) = some (s'.least a - s'.least 0) := rfl
        have a0 : at? (leastL N s'.least) 0 = some (.p (.int (s'.least 0))) := at_least (by decide) (by omega)
        simp [item, asg, wipeE, Tg.slots, evc, seE, ixD, hS0, a0, okD, binD, binP, b1, okP])]
      rw [mkL_false, List.map_map]
      rfl
    have l2 : 2 ≤ line := by decide
    simp [setOut, setIn, hset, hfor, h4, h2, cmpD, cmpP, okP, hc, biD, bi1, allP, l2]
  · refine .inr ⟨s', x, o6', o7', o8', o9', ?_, ?_, x1, x2⟩
    · simp [setOut, setIn, hset, hfor, h4, cmpD, cmpP, okP]
    · rw [BF.eF_next] at I'
      rw [Nat.succ_mul]
      exact I'
theorem s_settle {n : Int} {rows : List P} (hs : isSys (.tup [.int n, .tup rows]) = true) (hn : n ≤ 100) (hl : rows.length ≤ 1000) :
    (∃ v, rn (k + 2) 4 [.p (.int n), .p (.tup rows)] h = .ok (.p (.tup [.str "world", v])) h ∧ isWorld n rows v = true) ∨
    (∃ v, rn (k + 2) 4 [.p (.int n), .p (.tup rows)] h = .ok (.p (.tup [.str "ring", v])) h ∧ isBad rows v = true ∧ lenOf v ≤ 1000) := by
  rw [show rn (k + 2) 4 [.p (.int n), .p (.tup rows)] h = fin h (exs (rn (k + 1)) sb b_settle [some (.p (.int n)), some (.p (.tup rows)), none, none, none, none, none, none, none, none, none] []) from run_gc (xs := [.int n, .tup rows]) (fn := f_settle.fn) rfl rfl rfl]
  obtain ⟨n', rows', e', n0, hr⟩ := isSys_iff.mp hs
  cases e'
  obtain ⟨N, hN⟩ : ∃ N : Nat, (N : Int) = n + 1 := ⟨(n + 1).toNat, by omega⟩
  have hN2 : N ≤ 1000 := by omega
  have hNt : (n + 1).toNat = N := by omega
  have hk : rgOk 0 (n + 1) = true := rgOk_small (by omega) (by omega)
  have hsm : small (n + 1) = true := by
    have := hk
    simp only [rgOk, Bool.and_eq_true] at this
    exact this.1.2
  have hb1 : binI .add n 1 = some (n + 1) := rfl
  have hln : (rangeP 0 (n + 1)).length = N := by rw [rangeP_len]; omega
  have l1 : 1 ≤ line := by decide
  have lN : N ≤ line := by
    have : (1000 : Nat) ≤ line := by decide
    omega
  have f0 : (List.replicate N [D.p (.int 0)]).flatten = leastL N fun _ => 0 := by
    unfold leastL
    refine List.ext_getElem (by simp [List.flatten_replicate_singleton]) fun i h1 h2 => by simp [List.flatten_replicate_singleton]
  have f1 : (List.replicate N [D.p .non]).flatten = viaL N fun _ => none := by
    unfold viaL
    refine List.ext_getElem (by simp [List.flatten_replicate_singleton]) fun i h1 h2 => by simp [List.flatten_replicate_singleton, viaP]
  have hh0 : hS N BF.s0 = [leastL N fun _ => 0, viaL N fun _ => none] := rfl
  have key := forL_inv2 (body := exs (rn (k + 1)) sb setOut) (tg := .nm 5) (fun t ρ h' => ∃ (s : BF.S) (ch : P) (o5 o6 o7 o8 o9 : Option D), ρ = seE n rows ch o5 o6 o7 o8 o9 ∧ h' = hS N s ∧
      BF.Inv (rows.map toRow) (t * (rows.map toRow).length + 0) (BF.eF (rows.map toRow).length t 0) s ∧ (0 < t → ∃ x : Nat, ch = .int x ∧ x < N ∧ (t - 1) * (rows.map toRow).length < s.time x)) (fun d _ => ∃ v, d = .p (.tup [.str "world", v]) ∧ isWorld n rows v = true) (xs := rangeP 0 (n + 1)) (i := 0) (ρ := seE n rows .non none none none none none) (h := hS N BF.s0) (fun j x ρ h1 hj hI => by
    obtain ⟨s, ch, o5, o6, o7, o8, o9, rfl, rfl, I, _⟩ := hI
    rw [Nat.zero_add] at I
    rw [Nat.zero_add]
    refine ⟨seE n rows ch (some (.p x)) o6 o7 o8 o9, rfl, ?_⟩
    rcases s_setOut (k := k + 1) (ch := ch) (o5 := some (.p x)) (o6 := o6) (o7 := o7) (o8 := o8) (o9 := o9) hr n0 hN hN2 I with ⟨v, h', e, w⟩ | ⟨s', y, o6', o7', o8', o9', e, I', y1, y2⟩
    · exact .inr ⟨_, h', e, _, rfl, w⟩
    · exact .inl ⟨_, _, e, s', .int y, _, _, _, _, _, rfl, rfl, I', fun _ => ⟨y, rfl, y1, by simpa using y2⟩⟩) ⟨BF.s0, .non, none, none, none, none, none, rfl, rfl, BF.s0_inv, fun q => absurd q (by decide)⟩
  rw [hln, Nat.zero_add] at key
  have ea : evs (rn (k + 1)) (.cons (.bin .add (.var 0) (.cint 1)) .nil) (seE n rows .non none none none none none) (hS N BF.s0) = .ok [.p (.int (n + 1))] (hS N BF.s0) := by simp [seE, binD, binP, hb1, okP]
  have hfor := ex_for_items (sub := sb) (w := .range) (tg := .nm 5) (body := setOut) ea (xs := rangeP 0 (n + 1)) (by simp [itemsOf, hk])
  have hse : seE n rows .non none none none none none = [some (.p (.int n)), some (.p (.tup rows)), some (.ref 0), some (.ref 1), some (.p .non), none, none, none, none, none, none] := rfl
  rcases key with ⟨ρ', h', e, s, ch, o5, o6, o7, o8, o9, rfl, rfl, I, hx⟩ | ⟨d, h', e, v, rfl, w⟩
  · obtain ⟨x, rfl, x1, x2⟩ := hx (by omega)
    rw [show N - 1 = n.toNat by omega] at x2
    obtain ⟨vs, h2, e2, hb, hvl⟩ := s_ring (k := k) hr hN hN2 I x1 x2
    rw [e] at hfor
    unfold setOut setIn at hfor
    rw [hse, hh0] at hfor
    refine .inr ⟨.tup vs, ?_, hb, hvl⟩
    have l2 : 2 ≤ line := by decide
    have v0 : (seE n rows (.int x) o5 o6 o7 o8 o9)[0]? = some (some (.p (.int n))) := rfl
    have v1 : (seE n rows (.int x) o5 o6 o7 o8 o9)[1]? = some (some (.p (.tup rows))) := rfl
    have v3 : (seE n rows (.int x) o5 o6 o7 o8 o9)[3]? = some (some (.ref 1)) := rfl
    have v4 : (seE n rows (.int x) o5 o6 o7 o8 o9)[4]? = some (some (.p (.int x))) := rfl
    simp [b_settle, binD, binP, hb1, okP, l1, repD, hsm, hNt, lN, mkL, f0, f1, hfor, v0, v1, v3, v4, e2, allP, l2]
  · rw [e] at hfor
    unfold setOut setIn at hfor
    rw [hse, hh0] at hfor
    refine .inl ⟨v, ?_, w⟩
    simp [b_settle, binD, binP, hb1, okP, l1, repD, hsm, hNt, lN, mkL, f0, f1, hfor]
end K00

end
section
set_option Elab.async false
set_option maxRecDepth 100000
set_option linter.all false
set_option maxHeartbeats 4000000
namespace K00
open MP
variable {k : Nat} {h : Hh}
/-! a bad ring bars each world -/
theorem val_nat {vs : List P} {m : Nat} (h : m < vs.length) : valAt vs (m : Int) = vs[m] := by
  unfold valAt
  rw [at_nat (by omega), Int.toNat_natCast, List.getElem?_eq_getElem h]
  rfl
theorem row_holds {n : Int} {rows ts : List P} (hw : isWorld n rows (.tup ts) = true) {v : P} (hv : isIx rows.length v = true) : tv ts (rx (rowAt rows v)) - tv ts (ry (rowAt rows v)) ≤ rc (rowAt rows v) := by
  unfold isWorld at hw
  rw [Bool.and_eq_true] at hw
  obtain ⟨j, rfl, h0, h1⟩ := isIx_iff.mp hv
  have hlt : j.toNat < rows.length := by omega
  have e : rowAt rows (.int j) = rows[j.toNat] := by simp [rowAt, ixOf, List.getElem?_eq_getElem hlt]
  have := List.all_eq_true.mp hw.2 _ (List.getElem_mem hlt)
  rw [e]
  simp only [fails, itemsP, Bool.not_eq_true', decide_eq_false_iff_not] at this
  exact Int.not_lt.mp (of_decide_eq_false this)
theorem chain_le {n : Int} {rows ts vs : List P} (hw : isWorld n rows (.tup ts) = true) (hc : isChain rows (.tup vs) = true) : ∀ m, m < vs.length → tv ts (rx (rowAt rows (valAt vs 0))) - tv ts (ry (rowAt rows (valAt vs (m : Int)))) ≤ total rows (vs.take (m + 1)) := by
  have ha := isChain_all hc
  intro m
  induction m with
  | zero =>
    intro hm
    rw [List.take_add_one, List.getElem?_eq_getElem hm]
    have e : valAt vs 0 = vs[0] := val_nat (m := 0) hm
    rw [show ((0 : Nat) : Int) = 0 from rfl, e]
    simp only [List.take_zero, List.nil_append, Option.toList_some, total, List.map_cons, List.map_nil, List.sum_cons, List.sum_nil, Int.add_zero]
    exact row_holds hw (List.all_eq_true.mp ha _ (List.getElem_mem hm))
  | succ m ih =>
    intro hm
    have i1 := ih (by omega)
    have i2 := row_holds hw (List.all_eq_true.mp ha _ (List.getElem_mem hm))
    rw [List.take_add_one, List.getElem?_eq_getElem hm]
    have et : total rows (vs.take (m + 1) ++ (some vs[m + 1]).toList) = total rows (vs.take (m + 1)) + rc (rowAt rows vs[m + 1]) := by
      unfold total
      rw [List.map_append, List.sum_append]
      simp
    rw [et, val_nat hm]
    have hl : link rows vs (.int (m : Int)) = true := by
      simp only [isChain, Bool.and_eq_true] at hc
      refine List.all_eq_true.mp hc.2.2 _ ?_
      unfold rangeP
      exact List.mem_map.mpr ⟨m, List.mem_range.mpr (by omega), by simp⟩
    unfold link at hl
    simp only [decide_eq_true_eq] at hl
    rw [show ((m : Int) + 1) = ((m + 1 : Nat) : Int) by omega, val_nat hm] at hl
    rw [hl] at i1
    omega
theorem ring_bars {n : Int} {rows : List P} {v w : P} (hb : isBad rows v = true) : isWorld n rows w = false := by
  cases hw : isWorld n rows w with
  | false => rfl
  | true =>
    cases w <;> try (simp [isWorld, isMin] at hw; done)
    rename_i ts
    unfold isBad at hb
    rw [Bool.and_eq_true] at hb
    obtain ⟨hc, hb⟩ := hb
    split at hb
    · rename_i vs
      simp only [Bool.and_eq_true, decide_eq_true_eq] at hb
      obtain ⟨h1, h2⟩ := hb
      have hne := isChain_ne hc
      have hp : 0 < vs.length := by cases vs <;> simp_all
      have := chain_le hw hc (vs.length - 1) (by omega)
      rw [show vs.length - 1 + 1 = vs.length by omega, List.take_length] at this
      have el : valAt vs ((vs.length - 1 : Nat) : Int) = valAt vs (-1) := by
        unfold valAt at?
        rw [if_pos (by omega), if_neg (by decide), if_pos (by omega)]
        congr 2
        omega
      rw [el, h1] at this
      omega
    · cases hb
/-! decide, can_be -/
theorem s_decide {n : Int} {rows : List P} (hs : isSys (.tup [.int n, .tup rows]) = true) (hn : n ≤ 100) (hl : rows.length ≤ 1000) :
    (∃ v, rn (k + 7) 27 [.p (.tup [.int n, .tup rows])] h = .ok (.p (.tup [.str "world", v])) h ∧ isWorld n rows v = true) ∨
    (∃ v, rn (k + 7) 27 [.p (.tup [.int n, .tup rows])] h = .ok (.p (.tup [.str "ring", v])) h ∧ isBad rows v = true ∧ lenOf v ≤ 1000) := by
  rw [show rn (k + 7) 27 [.p (.tup [.int n, .tup rows])] h = fin h (exs (rn (k + 6)) sb b_decide [some (.p (.tup [.int n, .tup rows]))] []) from run_gc (xs := [.tup [.int n, .tup rows]]) (fn := f_decide.fn) rfl rfl rfl]
  rcases s_settle (k := k + 4) (h := []) hs hn hl with ⟨v, e, w⟩ | ⟨v, e, w⟩
  · exact .inl ⟨v, by simp [b_decide, s_check_system, hs, ixD, at2_0, at2_1, okP, e], w⟩
  · exact .inr ⟨v, by simp [b_decide, s_check_system, hs, ixD, at2_0, at2_1, okP, e], w⟩
theorem s_has_world {n : Int} {rows : List P} (hs : isSys (.tup [.int n, .tup rows]) = true) (hn : n ≤ 100) (hl : rows.length ≤ 1000) :
    (rn (k + 3) 5 [.p (.int n), .p (.tup rows)] h = .ok (.p (.bl true)) h ∧ ∃ v, isWorld n rows v = true) ∨
    (rn (k + 3) 5 [.p (.int n), .p (.tup rows)] h = .ok (.p (.bl false)) h ∧ ∃ v, isBad rows v = true) := by
  rw [show rn (k + 3) 5 [.p (.int n), .p (.tup rows)] h = fin h (exs (rn (k + 2)) sb b_has_world [some (.p (.int n)), some (.p (.tup rows))] []) from run_gc (xs := [.int n, .tup rows]) (fn := f_has_world.fn) rfl rfl rfl]
  have ne : ¬ (PySem.Str.ofString "ring" = PySem.Str.ofString "world") := by decide
  rcases s_settle (k := k) (h := []) hs hn hl with ⟨v, e, w⟩ | ⟨v, e, w, _⟩
  · exact .inl ⟨by simp [b_has_world, ixD, at2_0, okP, e, cmpD, cmpP, eqP], v, w⟩
  · exact .inr ⟨by simp [b_has_world, ixD, at2_0, okP, e, cmpD, cmpP, eqP, ne], v, w⟩
theorem s_can_be {n : Int} {rows : List P} (hs : isSys (.tup [.int n, .tup rows]) = true) (hn : n ≤ 100) (hl : rows.length ≤ 1000) :
    (rn (k + 7) 28 [.p (.tup [.int n, .tup rows])] h = .ok (.p (.bl true)) h ∧ ∃ v, isWorld n rows v = true) ∨
    (rn (k + 7) 28 [.p (.tup [.int n, .tup rows])] h = .ok (.p (.bl false)) h ∧ ∃ v, isBad rows v = true) := by
  rw [show rn (k + 7) 28 [.p (.tup [.int n, .tup rows])] h = fin h (exs (rn (k + 6)) sb b_can_be [some (.p (.tup [.int n, .tup rows]))] []) from run_gc (xs := [.tup [.int n, .tup rows]]) (fn := f_can_be.fn) rfl rfl rfl]
  rcases s_has_world (k := k + 3) (h := []) hs hn hl with ⟨e, w⟩ | ⟨e, w⟩
  · exact .inl ⟨by simp [b_can_be, s_check_system, hs, ixD, at2_0, at2_1, okP, e], w⟩
  · exact .inr ⟨by simp [b_can_be, s_check_system, hs, ixD, at2_0, at2_1, okP, e], w⟩
/-! _law_decided_right -/
theorem s_decided {n : Int} {rows : List P} (hs : isSys (.tup [.int n, .tup rows]) = true) (hn : n ≤ 100) (hl : rows.length ≤ 1000) : rn (k + 9) 50 [.p (.tup [.int n, .tup rows])] h = .ok (.p (.bl true)) h := by
  rw [show rn (k + 9) 50 [.p (.tup [.int n, .tup rows])] h = fin h (exs (rn (k + 8)) sb b_law_decided_right [some (.p (.tup [.int n, .tup rows])), none, none, none] []) from run_gc (xs := [.tup [.int n, .tup rows]]) (fn := f_law_decided_right.fn) rfl rfl rfl]
  have ne : ¬ (PySem.Str.ofString "ring" = PySem.Str.ofString "world") := by decide
  have l0 : 0 ≤ line := by decide
  have l1 : 1 ≤ line := by decide
  have l2 : 2 ≤ line := by decide
  obtain ⟨n', rows', e', n0, hr⟩ := isSys_iff.mp hs
  cases e'
  have sm : ∀ b : Bool, rn (k + 8) 31 [.p (.bl b), .p (.bl b)] [] = .ok (.p (.bl true)) [] := fun b => s_same (k := k + 7) [] 0 (.bl b) trivial
  rcases s_decide (k := k + 1) (h := []) hs hn hl with ⟨v, e, w⟩ | ⟨v, e, w, wl⟩
  · have e1 : rn (k + 8) 43 _ [] = _ := s_verdict_world (k := k + 4) (h := []) v hs (by omega)
    have e2 : rn (k + 8) 28 [.p (.tup [.int n, .tup rows])] [] = .ok (.p (.bl true)) [] := by
      rcases s_can_be (k := k + 1) (h := []) hs hn hl with ⟨e, _⟩ | ⟨_, u, hu⟩
      · exact e
      · rw [ring_bars hu] at w
        cases w
    have e3 : rn (k + 8) 22 _ [] = _ := s_is_world (k := k + 1) (h := []) v hs
    have e4 : rn (k + 8) 23 _ [] = _ := s_failing (k := k + 1) (h := []) v hs
    have hm : isMin n v = true := by
      unfold isWorld at w
      rw [Bool.and_eq_true] at w
      exact w.1
    have hf : failList rows (itemsP v) = [] := by
      unfold isWorld at w
      rw [Bool.and_eq_true, ← failList_nil, List.isEmpty_iff] at w
      exact w.2
    rw [hm, hf] at e4
    rw [w] at e1 e3
    simp [b_law_decided_right, e, e1, e2, e3, e4, sm, ixD, at2_0, at2_1, okP, cmpD, cmpP, eqP, allP, l0]
  · have e1 : rn (k + 8) 43 _ [] = _ := s_verdict_ring (k := k + 4) (h := []) v hs (by omega)
    have e2 : ∀ j, rn (k + 7 + j) 28 [.p (.tup [.int n, .tup rows])] [] = .ok (.p (.bl false)) [] := fun j => by
      rw [show k + 7 + j = k + j + 7 by omega]
      rcases s_can_be (k := k + j) (h := []) hs hn hl with ⟨_, u, hu⟩ | ⟨e, _⟩
      · rw [ring_bars w] at hu
        cases hu
      · exact e
    have e2a := e2 0
    have e2b := e2 1
    have e3 : rn (k + 8) 25 _ [] = _ := s_is_bad_ring (k := k + 1) (h := []) v hs (by omega)
    have e4 : rn (k + 8) 26 _ [] = _ := s_chain_sum (k := k + 1) (h := []) v hs (by omega)
    have w2 := w
    unfold isBad at w2
    rw [Bool.and_eq_true] at w2
    obtain ⟨hc, ht⟩ := w2
    have ht : total rows (itemsP v) < 0 := by
      split at ht
      · simp only [Bool.and_eq_true, decide_eq_true_eq] at ht
        exact ht.2
      · cases ht
    rw [hc] at e4
    rw [w] at e1 e3
    have e5 : rn (k + 8) 45 [.p (.int 7), .p (.tup [.int n, .tup rows]), .p .non] [] = .ok (.p (.bl false)) [] := by
      rw [show rn (k + 8) 45 [.p (.int 7), .p (.tup [.int n, .tup rows]), .p .non] [] = fin [] (exs (rn (k + 7)) sb b_law_ask [some (.p (.int 7)), some (.p (.tup [.int n, .tup rows])), some (.p .non), none] []) from run_gc (xs := [.int 7, .tup [.int n, .tup rows], .non]) (fn := f_law_ask.fn) rfl rfl rfl]
      have e2a : rn (k + 7) 28 [.p (.tup [.int n, .tup rows])] [] = .ok (.p (.bl false)) [] := e2a
      simp [b_law_ask, cmpD, cmpP, eqP, okP, e2a]
    have e2b : rn (k + 8) 28 [.p (.tup [.int n, .tup rows])] [] = .ok (.p (.bl false)) [] := e2b
    have e6 : ∀ x, rn (k + 8) 41 [.p (.tup [.int n, .tup rows]), .p x] [] = .ok (.p (.bl false)) [] := fun x => by
      have := s_law_is_world (k := k + 6) (h := []) x hs (by omega)
      rw [ring_bars w] at this
      exact this
    have hk : rgOk 0 (n + 1) = true := rgOk_small (by omega) (by omega)
    have hk0 : rgOk 0 n = true := rgOk_small (by omega) (by omega)
    have hsm : small (n + 1) = true := by
      simp only [rgOk, Bool.and_eq_true] at hk
      exact hk.1.2
    have hb1 : binI .add n 1 = some (n + 1) := rfl
    have hN : (n + 1).toNat ≤ line := by
      have : (1000 : Nat) ≤ line := by decide
      omega
    have ea : allP (List.replicate (n + 1).toNat (D.p (.int 0))) = some (List.replicate (n + 1).toNat (.int 0)) := by
      rw [show List.replicate (n + 1).toNat (D.p (.int 0)) = (List.replicate (n + 1).toNat (P.int 0)).map D.p by simp, allP_map]
    have eb : 1 + (rangeP 0 n).length ≤ line := by
      have : (1000 : Nat) ≤ line := by decide
      rw [rangeP_len]
      omega
    have ec : ∀ A B : P, compV (rn (k + 8)) [some (.p (.tup [.int n, .tup rows])), some (.p (.tup [.str "ring", v])), some (.p (.lst [A, B])), none] false .seq (.nm 3) .nil (.call 41 (.cons (.var 0) (.cons (.var 3) .nil))) [.p (.lst [A, B])] [] = .ok (.p (.lst ([A, B].map fun _ => .bl false))) [] := fun A B => by
      rw [compV_map (xs := [A, B]) (g := fun _ => .bl false) rfl (fun x _ => by simp [item, asg, wipeE, Tg.slots, evc, e6])]
      exact mkL_false
    have eany : bi1 .any (.p (.lst [P.bl false, P.bl false])) [] = .ok (.p (.bl false)) [] := rfl
    simp [b_law_decided_right, e, e1, e2b, e3, e4, e5, sm, ixD, at2_0, at2_1, okP, cmpD, cmpP, eqP, allP, l0, l1, l2, ne, binD, binP, hb1, repD, hsm, hN, mkL, ea, biD, bi1, boolsP, listRgD, hk0, allP_map, eb, ec, eany, ht]
end K00

end
section
set_option Elab.async false
set_option maxRecDepth 100000
set_option linter.all false
set_option maxHeartbeats 4000000
namespace K00
open MP
variable {k : Nat} {h : Hh}
def lawBody : Stms := (.cons (.set 2 (.call 29 (.cons (.var 1) .nil)))
    (.cons (.set 3 (.call 35 (.cons (.var 2) (.cons (.cint 4) (.cons (.cint 8) .nil)))))
    (.cons (.iff (.orC (.notC (.call 48 (.cons (.var 2) (.cons (.var 3) .nil)))) (.notC (.call 50 (.cons (.var 3) .nil)))) (.cons (.ret (.cbl false)) .nil) .nil)
    (.cons (.set 4 (.call 34 (.cons (.var 2) (.cons (.var 3) .nil))))
    (.cons (.iff (.notC (.call 31 (.cons (.call 19 (.cons (.var 4) .nil)) (.cons (.call 37 (.cons (.var 4) .nil)) .nil)))) (.cons (.ret (.cbl false)) .nil) .nil)
    (.cons (.iff (.andC (.notC (.call 37 (.cons (.var 4) .nil))) (.notC (.call 49 (.cons (.var 4) .nil)))) (.cons (.ret (.cbl false)) .nil) .nil)
    (.cons (.set 5 (.call 44 (.cons (.var 3) (.cons (.var 4) .nil))))
    (.cons (.iff (.andC (.call 37 (.cons (.var 5) .nil)) (.notC (.call 43 (.cons (.var 5) (.cons (.call 27 (.cons (.var 5) .nil)) .nil))))) (.cons (.ret (.cbl false)) .nil) .nil) .nil))))))))
theorem s_lawBody {sc : D} {c : Int} {o2 o3 o4 o5 : Option D} : ∃ (o2' o3' o4' o5' : Option D) (h' : Hh), exs (rn (k + 10)) sb lawBody [some sc, some (.p (.int c)), o2, o3, o4, o5] h = .nx [some sc, some (.p (.int c)), o2', o3', o4', o5'] h' := by
  obtain ⟨h1, e1, D1, _, _⟩ := s_deck (k := k + 9) (h := h) c
  generalize h.length = dk at e1 D1
  have e1 : rn (k + 10) 29 [.p (.int c)] h = .ok (.ref dk) h1 := e1
  obtain ⟨s, h2, e2, S, H2⟩ := s_system (k := k + 8) (most := 4) (many := 8) D1 (by decide) (by decide) (by decide) (by decide)
  have e2 : rn (k + 10) 35 [.ref dk, .p (.int 4), .p (.int 8)] h1 = .ok (.p s) h2 := e2
  obtain ⟨h3, e3, H3⟩ := s_asked (k := k + 1) H2.deck S
  have e3 : rn (k + 10) 48 [.ref dk, .p s] h2 = .ok (.p (.bl true)) h3 := e3
  have nS := nice_drawn S (by decide) (by decide)
  obtain ⟨n, rows, rfl, n0, n1, r1, r2, r3⟩ := drawn_iff S
  have e4 : rn (k + 10) 50 [.p (.tup [.int n, .tup rows])] h3 = .ok (.p (.bl true)) h3 := s_decided (k := k + 1) S.sys (by omega) (by omega)
  obtain ⟨y, h4, e5, ny, H4⟩ := s_bent (k := k + 5) (b := 1000000000) (w := 101) (by decide) (by decide) (by decide) 3 _ h3 H3.deck nS
  have e5 : rn (k + 10) 34 [.ref dk, .p (.tup [.int n, .tup rows])] h3 = .ok (.p y) h4 := e5
  have yb := nice_sys (by decide) ny
  have ylt : nOf y < big := Int.lt_of_le_of_lt yb.2 (by decide)
  have e6 : rn (k + 10) 19 [.p y] h4 = _ := s_is_system (k := k + 4) (h := h4) y
  have e7 : rn (k + 10) 37 [.p y] h4 = _ := s_law_is_system (k := k + 7) (h := h4) y ylt
  have sm : ∀ b : Bool, rn (k + 10) 31 [.p (.bl b), .p (.bl b)] h4 = .ok (.p (.bl true)) h4 := fun b => s_same (k := k + 9) h4 0 (.bl b) trivial
  have e8 : isSys y = false → rn (k + 10) 49 [.p y] h4 = .ok (.p (.bl true)) h4 := fun hy => s_system_error (k := k + 2) y hy
  have e9 : rn (k + 10) 44 [.p (.tup [.int n, .tup rows]), .p y] h4 = .ok (.p (if isSys y = true ∧ nOf y > 12 then (.tup [.int n, .tup rows]) else y)) h4 := s_kept (k := k + 6) _ y ylt
  obtain ⟨z, hz, zr, zn, zs⟩ : ∃ z, (if isSys y = true ∧ nOf y > 12 then (.tup [.int n, .tup rows]) else y) = z ∧ (rowsOf z).length ≤ 1000 ∧ nOf z < big ∧ (isSys z = true → nOf z ≤ 12) := by
    refine ⟨_, rfl, ?_⟩
    split
    · refine ⟨by show rows.length ≤ 1000; omega, by show n < big; exact Int.lt_of_le_of_lt n1 (by decide), fun _ => by show n ≤ 12; omega⟩
    · rename_i hc
      exact ⟨by omega, ylt, fun hs => by
        rcases Int.lt_or_le 12 (nOf y) with q | q
        · exact absurd ⟨hs, q⟩ hc
        · exact q⟩
  rw [hz] at e9
  have e10 : rn (k + 10) 37 [.p z] h4 = _ := s_law_is_system (k := k + 7) (h := h4) z zn
  have e11 : isSys z = true → ∃ v, rn (k + 10) 27 [.p z] h4 = .ok (.p v) h4 ∧ rn (k + 10) 43 [.p z, .p v] h4 = .ok (.p (.bl true)) h4 := fun hs => by
    have h12 := zs hs
    obtain ⟨m, qs, rfl, m0, hq⟩ := isSys_iff.mp hs
    have zr : qs.length ≤ 1000 := zr
    have h12 : m ≤ 12 := h12
    rcases s_decide (k := k + 3) (h := h4) hs (by omega) zr with ⟨v, e, w⟩ | ⟨v, e, w, wl⟩
    · refine ⟨_, e, ?_⟩
      have := s_verdict_world (k := k + 6) (h := h4) v hs (by omega)
      rw [w] at this
      exact this
    · refine ⟨_, e, ?_⟩
      have := s_verdict_ring (k := k + 6) (h := h4) v hs (by omega)
      rw [w] at this
      exact this
  refine ⟨some (.ref dk), some (.p (.tup [.int n, .tup rows])), some (.p y), some (.p z), h4, ?_⟩
  cases hy : isSys y
  · cases hzs : isSys z
    · simp [lawBody, e1, e2, e3, e4, e5, e6, e7, sm, e8 hy, e9, e10, hy, hzs]
    · obtain ⟨v, e12, e13⟩ := e11 hzs
      simp [lawBody, e1, e2, e3, e4, e5, e6, e7, sm, e8 hy, e9, e10, hy, hzs, e12, e13]
  · cases hzs : isSys z
    · simp [lawBody, e1, e2, e3, e4, e5, e6, e7, sm, e9, e10, hy, hzs]
    · obtain ⟨v, e12, e13⟩ := e11 hzs
      simp [lawBody, e1, e2, e3, e4, e5, e6, e7, sm, e9, e10, hy, hzs, e12, e13]
theorem s_law {ns : List Int} (hl : ns.length ≤ 63) : ∃ h', rn (k + 11) 51 [.p (.lst (ns.map P.int))] h = .ok (.p (.bl true)) h' := by
  obtain ⟨cs, hcs⟩ : ∃ cs : List Int, cut (P.int 9400813272 :: ns.map P.int) none (some 6) = cs.map P.int := by
    rw [cut_lo (by decide)]
    exact ⟨(9400813272 :: ns).take 6, by rw [List.map_take]; rfl⟩
  have ll : 1 + ns.length ≤ line := by
    have : (1000 : Nat) ≤ line := by decide
    omega
  have l1 : 1 ≤ line := by decide
  have go : ∀ h : Hh, ∃ h', exs (rn (k + 10)) sb b_law [some (.p (.lst (ns.map P.int))), none, none, none, none, none] h = .ret (.p (.bl true)) h' := fun h => by
    obtain ⟨ρ', h', e, o1, o2, o3, o4, o5, f1⟩ := forL_inv (body := exs (rn (k + 10)) sb lawBody) (tg := .nm 1) (fun _ ρ _ => ∃ (o1 o2 o3 o4 o5 : Option D), ρ = [some (.p (.lst (ns.map P.int))), o1, o2, o3, o4, o5]) (xs := cs.map P.int) (i := 0) (ρ := [some (.p (.lst (ns.map P.int))), none, none, none, none, none]) (h := h) (fun j x ρ h1 hj hI => by
      obtain ⟨o1, o2, o3, o4, o5, rfl⟩ := hI
      obtain ⟨c, _, rfl⟩ := List.mem_map.mp (List.mem_of_getElem? hj)
      obtain ⟨a2, a3, a4, a5, h2, e⟩ := s_lawBody (k := k) (h := h1) (sc := .p (.lst (ns.map P.int))) (c := c) (o2 := o2) (o3 := o3) (o4 := o4) (o5 := o5)
      exact ⟨_, _, h2, rfl, e, _, _, _, _, _, rfl⟩) ⟨none, none, none, none, none, rfl⟩
    subst f1
    have hfor : ex (rn (k + 10)) sb (.forS .seq (.cons (.sl (.bin .add (.lst false (.cons (.cint 9400813272) .nil)) (.var 0)) .nil (.cons (.cint 6) .nil)) .nil) (.nm 1) lawBody) [some (.p (.lst (ns.map P.int))), none, none, none, none, none] h = .nx [some (.p (.lst (ns.map P.int))), o1, o2, o3, o4, o5] h' := by
      rw [ex_for_items (ds := [.p (.lst (cs.map P.int))]) (h1 := h) (xs := cs.map P.int) (by simp [mkL, allP, l1, binD, binP, ll, okP, optI, slD, hcs]) rfl]
      exact e
    unfold lawBody at hfor
    exact ⟨h', by simp [b_law, hfor]⟩
  cases hg : f_law.fn.gc with
  | true =>
    obtain ⟨h', e⟩ := go []
    refine ⟨h, ?_⟩
    rw [show rn (k + 11) 51 [.p (.lst (ns.map P.int))] h = fin h (exs (rn (k + 10)) sb b_law [some (.p (.lst (ns.map P.int))), none, none, none, none, none] []) from run_gc (xs := [.lst (ns.map P.int)]) (fn := f_law.fn) rfl rfl rfl, e]
    rfl
  | false => cases hg
theorem law_pure : ∀ ns : List Int, ns.length ≤ 63 → ∃ h', MP.run lk.pg (subT tab) 60 51 [.p (.lst (ns.map P.int))] [] = MP.R.ok (.p (.bl true)) h' := fun ns hl => s_law (k := 49) (h := []) hl
end K00

end
section
set_option Elab.async false
set_option maxRecDepth 100000
set_option linter.all false
set_option maxHeartbeats 0
/-! k00: the head. -/
namespace K00
open PySem PySem.Spec PyProof.Rows MP L2
abbrev R : PySem.W.OpenRow := PySem.W.OpenLaw.row PySem.Challenge.rw_boardneverlies_k00_differences_and_chain
abbrev hk : PySem.W.Hook := He.hookX 4 (faOf lk) (lk.fns.map dOf) [] [] (exOf lk tab)
def ob (s : PySem.W.SharedT) : He.AlX := He.obsX 4 (faOf lk) (lk.fns.map dOf) [] [] (exOf lk tab) (HandSHeadRun.getT s)
theorem ob_eq (s : PySem.W.SharedT) : ob s = hk.obs s.abs := He.obsX_eq (HandSHeadRun.getT_eq s)
theorem run (w : World) : HandSHeadRun.RunEq R (PySem.W.view R.prog [63]) hk ob 8000 loose w := by
  intro os
  kernel_rfl
end K00

end
set_option Elab.async false
set_option maxRecDepth 100000
set_option linter.all false
set_option maxHeartbeats 0
open PySem PySem.W PySem.Calls PyProof.Rows
theorem PySem.Challenge.cw_boardneverlies_k00_differences_and_chain_holds : PySem.Challenge.rw_boardneverlies_k00_differences_and_chain.Holds := by
  w_on; o_law
  refine HandSHeadRun.head_any (r := OpenLaw.row PySem.Challenge.rw_boardneverlies_k00_differences_and_chain) (q := view (OpenLaw.row PySem.Challenge.rw_boardneverlies_k00_differences_and_chain).prog [63]) (H := K00.hk) (ob := K00.ob) (M := 8000) (loose := K00.loose) (d := HandSHeadRun.topDef (OpenLaw.row PySem.Challenge.rw_boardneverlies_k00_differences_and_chain).prog 63) (kwd := []) K00.ob_eq
    (by kernel_rfl) (fun s => by kernel_rfl) K00.run (by kernel_rfl) (by kernel_rfl) (by kernel_rfl) (by rfl) (by first | assumption | decide +kernel) (by decide +kernel) ⟨rfl, rfl, rfl, rfl, rfl, by decide +kernel⟩ ?hw ?hc
  case hw => w_witness2
  case hc =>
    exact MP.walk_mp (l := PySem.Challenge.rw_boardneverlies_k00_differences_and_chain) (n := 63) (k := 60) (fL := 51) (x := "script") (lk := K00.lk) (tab := K00.tab) (ft := K00.f_law) rfl (by decide) (by kernel_rfl) ⟨rfl, by decide, by decide⟩ rfl rfl (by kernel_rfl) K00.oks K00.bnds K00.bcls K00.law_pure
