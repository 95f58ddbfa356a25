import PyProof.Rows.All
import Wide.All
import OpenK.AllK
import Wide.FinOn
import HandS.ForMost
import HandS.TupAny
import HandS.DictComp
import HandS.IsInst
import HandS.Style
import HandS.NoneIn
import HandS.Defaults
import HandS.MakeKwOnly
import HandS.Small
import KE.GoesZip
import KE.GoesNew
import KE.GoesMore
import KE.GoesEnum
import HandS.Head0
import HandS.HeadHook2
import KE.KStateDown
import HandS.Ends
import HandS.Words
import HandS.Head1
import HandS.Head2
import HandS.HeadEnd
import HandS.HeadHook1
import HandS.HeadHook3
import HandS.HeadHook4
import Lean
import PySem.Challenge.RW_wholetongue_k88_images_made_by_hand
set_option linter.all false
/-! Se: a small evaluator over values with drawn numbers as letters. -/
namespace Se

/-! ### whole numbers: written ones, and sums of products of letters -/
inductive SI where
  | lit (i : Int)
  | pol (c : Int) (ms : List (List Nat × Int))
def mEv (θ : Nat → Int) : List Nat → Int
  | [] => 1
  | v :: r => θ v * mEv θ r
def msEv (θ : Nat → Int) : List (List Nat × Int) → Int
  | [] => 0
  | (m, k) :: r => k * mEv θ m + msEv θ r
def SI.ev (θ : Nat → Int) : SI → Int
  | .lit i => i
  | .pol c ms => c + msEv θ ms
def eqN : List Nat → List Nat → Bool
  | [], [] => true
  | a :: x, b :: y => match Nat.beq a b with
    | true => eqN x y
    | false => false
  | _, _ => false
def ltN : List Nat → List Nat → Bool
  | [], [] => false
  | [], _ :: _ => true
  | _ :: _, [] => false
  | a :: x, b :: y => match Nat.blt a b with
    | true => true
    | false => match Nat.beq a b with
      | true => ltN x y
      | false => false
def insM (m : List Nat) (k : Int) : List (List Nat × Int) → List (List Nat × Int)
  | [] => [(m, k)]
  | (n, j) :: r => match eqN m n with
    | true => match decide (k + j = 0) with
      | true => r
      | false => (n, k + j) :: r
    | false => match ltN m n with
      | true => (m, k) :: (n, j) :: r
      | false => (n, j) :: insM m k r
def addM : List (List Nat × Int) → List (List Nat × Int) → List (List Nat × Int)
  | [], b => b
  | (m, k) :: r, b => insM m k (addM r b)
def insV (v : Nat) : List Nat → List Nat
  | [] => [v]
  | w :: r => match Nat.ble v w with
    | true => v :: w :: r
    | false => w :: insV v r
def mrgV : List Nat → List Nat → List Nat
  | [], b => b
  | v :: r, b => insV v (mrgV r b)
def sclM (k : Int) : List (List Nat × Int) → List (List Nat × Int)
  | [] => []
  | (m, j) :: r => (m, k * j) :: sclM k r
def mulM1 (m : List Nat) (k : Int) : List (List Nat × Int) → List (List Nat × Int)
  | [] => []
  | (n, j) :: r => insM (mrgV m n) (k * j) (mulM1 m k r)
def mulM : List (List Nat × Int) → List (List Nat × Int) → List (List Nat × Int)
  | [], _ => []
  | (m, k) :: r, b => addM (mulM1 m k b) (mulM r b)
def nrm (c : Int) : List (List Nat × Int) → SI
  | [] => .lit c
  | p :: r => .pol c (p :: r)
def SI.add : SI → SI → SI
  | .lit a, .lit b => .lit (a + b)
  | .lit a, .pol c ms => .pol (a + c) ms
  | .pol c ms, .lit b => .pol (c + b) ms
  | .pol c ms, .pol d ns => nrm (c + d) (addM ms ns)
def SI.scl (k : Int) : SI → SI
  | .lit a => .lit (k * a)
  | .pol c ms => match decide (k = 0) with
    | true => .lit 0
    | false => .pol (k * c) (sclM k ms)
def SI.sub : SI → SI → SI
  | .lit a, .lit b => .lit (a - b)
  | a, b => a.add (b.scl (-1))
def SI.mul : SI → SI → SI
  | .lit a, .lit b => .lit (a * b)
  | .lit a, b => b.scl a
  | a, .lit b => a.scl b
  | .pol c ms, .pol d ns => (SI.scl c (.pol d ns)).add ((SI.scl d (nrm 0 ms)).add (nrm 0 (mulM ms ns)))

/-! what is known of the letters: how far they are from nought -/
abbrev Bd := List Int
def Bd.ok (Γ : Bd) (θ : Nat → Int) : Prop := ∀ v B, Γ[v]? = some B → -B ≤ θ v ∧ θ v ≤ B
def mBd (Γ : Bd) : List Nat → Option Int
  | [] => some 1
  | v :: r => match Γ[v]? with
    | none => none
    | some B => match mBd Γ r with
      | none => none
      | some C => some (B * C)
def absI (k : Int) : Int := match decide (0 ≤ k) with
  | true => k
  | false => -k
def msBd (Γ : Bd) : List (List Nat × Int) → Option Int
  | [] => some 0
  | (m, k) :: r => match mBd Γ m with
    | none => none
    | some B => match msBd Γ r with
      | none => none
      | some C => some (absI k * B + C)
def leD (Γ : Bd) : SI → Option Bool
  | .lit d => some (decide (0 ≤ d))
  | .pol c ms => match msBd Γ ms with
    | none => none
    | some R => match decide (0 ≤ c - R) with
      | true => some true
      | false => match decide (c + R < 0) with
        | true => some false
        | false => none
def eqD (Γ : Bd) : SI → Option Bool
  | .lit d => some (decide (d = 0))
  | .pol c ms => match msBd Γ ms with
    | none => none
    | some R => match decide (0 < c - R) with
      | true => some false
      | false => match decide (c + R < 0) with
        | true => some false
        | false => none
/-- a ≤ b -/
def SI.le (Γ : Bd) : SI → SI → Option Bool
  | .lit a, .lit b => some (decide (a ≤ b))
  | a, b => leD Γ (b.sub a)
/-- a < b -/
def SI.lt (Γ : Bd) : SI → SI → Option Bool
  | .lit a, .lit b => some (decide (a < b))
  | a, b => leD Γ ((b.sub a).add (.lit (-1)))
def SI.eq (Γ : Bd) : SI → SI → Option Bool
  | .lit a, .lit b => some (decide (a = b))
  | a, b => eqD Γ (a.sub b)

/-! ### values, objects, the heap -/
inductive U where
  | non
  | bl (b : Bool)
  | int (i : SI)
  | str (s : List Nat)
  | tup (xs : List U)
  | ref (i : Nat)
inductive KE where
  | i (n : Int)
  | s (z : List Nat)
def KE.beq : KE → KE → Bool
  | .i a, .i b => decide (a = b)
  | .s a, .s b => eqN a b
  | _, _ => false
def KE.beqs : List KE → List KE → Bool
  | [], [] => true
  | a :: x, b :: y => match KE.beq a b with
    | true => KE.beqs x y
    | false => false
  | _, _ => false
inductive MO where
  | lst (xs : List U)
  | dK (kvs : List (KE × U))
  | dT (kvs : List (List KE × U))
  | ins (c : Nat) (fs : List (Nat × U))
inductive Tr where
  | lf
  | nd (v : Option MO) (l r : Tr)
def Tr.get : Tr → Nat → Option MO
  | .lf, _ => none
  | .nd v l r, i => match i with
    | 0 => v
    | j + 1 => match Nat.beq (j % 2) 0 with
      | true => l.get (j / 2)
      | false => r.get (j / 2)
def Tr.set : Tr → Nat → MO → Tr
  | .lf, i, o => match i with
    | 0 => .nd (some o) .lf .lf
    | _ + 1 => .lf
  | .nd v l r, i, o => match i with
    | 0 => .nd (some o) l r
    | j + 1 => match Nat.beq (j % 2) 0 with
      | true => .nd v (l.set (j / 2) o) r
      | false => .nd v l (r.set (j / 2) o)
structure MH where
  n : Nat
  t : Tr
def MH.get (h : MH) (i : Nat) : Option MO := match Nat.blt i h.n with
  | true => h.t.get i
  | false => none
def MH.new (h : MH) (o : MO) : MH := ⟨h.n + 1, h.t.set h.n o⟩
def MH.upd (h : MH) (i : Nat) (o : MO) : MH := ⟨h.n, h.t.set i o⟩
def MH.lst (h : MH) (i : Nat) : Option (List U) := match h.get i with
  | some (.lst xs) => some xs
  | _ => none

/-! keys -/
def keyU : U → Option KE
  | .int (.lit i) => some (.i i)
  | .str z => some (.s z)
  | _ => none
def keysU : List U → Option (List KE)
  | [] => some []
  | x :: r => match keyU x with
    | none => none
    | some k => match keysU r with
      | none => none
      | some ks => some (k :: ks)
def getK (k : KE) : List (KE × U) → Option U
  | [] => none
  | (j, v) :: r => match KE.beq j k with
    | true => some v
    | false => getK k r
def anyK (k : KE) : List (KE × U) → Bool
  | [] => false
  | (j, _) :: r => match KE.beq j k with
    | true => true
    | false => anyK k r
def mapK (k : KE) (v : U) : List (KE × U) → List (KE × U)
  | [] => []
  | (j, w) :: r => match KE.beq j k with
    | true => (j, v) :: mapK k v r
    | false => (j, w) :: mapK k v r
def putK (k : KE) (v : U) (l : List (KE × U)) : List (KE × U) := match anyK k l with
  | true => mapK k v l
  | false => l ++ [(k, v)]
def getT (k : List KE) : List (List KE × U) → Option U
  | [] => none
  | (j, v) :: r => match KE.beqs j k with
    | true => some v
    | false => getT k r
def putT (k : List KE) (v : U) : List (List KE × U) → List (List KE × U)
  | [] => [(k, v)]
  | (j, w) :: r => match KE.beqs j k with
    | true => (j, v) :: r
    | false => (j, w) :: putT k v r
def fget (f : Nat) : List (Nat × U) → Option U
  | [] => none
  | (g, v) :: r => match Nat.beq f g with
    | true => some v
    | false => fget f r
def fput (f : Nat) (v : U) : List (Nat × U) → List (Nat × U)
  | [] => [(f, v)]
  | (g, w) :: r => match Nat.beq f g with
    | true => (g, v) :: r
    | false => (g, w) :: fput f v r

/-! == of data -/
def boolI (b : Bool) : Int := match b with
  | true => 1
  | false => 0
def ueqL (f : U → U → Option Bool) : List U → List U → Option Bool
  | [], [] => some true
  | x :: xs, y :: ys => match f x y with
    | none => none
    | some true => ueqL f xs ys
    | some false => some false
  | _, _ => some false
def ueq (Γ : Bd) (h : MH) : Nat → U → U → Option Bool
  | 0, _, _ => none
  | n + 1, .non, .non => some true
  | n + 1, .bl a, .bl b => some (a == b)
  | n + 1, .int a, .int b => SI.eq Γ a b
  | n + 1, .str a, .str b => some (eqN a b)
  | n + 1, .tup xs, .tup ys => ueqL (ueq Γ h n) xs ys
  | n + 1, .ref i, .ref j => match h.lst i with
    | none => none
    | some xs => match h.lst j with
      | none => none
      | some ys => ueqL (ueq Γ h n) xs ys
  | n + 1, .non, .int _ => some false
  | n + 1, .int _, .non => some false
  | n + 1, .non, .bl _ => some false
  | n + 1, .bl _, .non => some false
  | n + 1, .non, .str _ => some false
  | n + 1, .str _, .non => some false
  | n + 1, .int _, .str _ => some false
  | n + 1, .str _, .int _ => some false
  | n + 1, .bl _, .str _ => some false
  | n + 1, .str _, .bl _ => some false
  | _, _, _ => none
end Se
set_option linter.all false
/-! Se: the small trees of a program, and how they run. -/
namespace Se
inductive BO where
  | add | sub | mul
inductive CO where
  | eq | ne | lt | le | gt | ge | isN | notN | in_ | nin
inductive BI where
  | len | int | list | tuple
inductive Ty where
  | tuple | list | bool | int | str
inductive BM where
  | append | pop | extend
mutual
inductive ME where
  | no
  | var (i : Nat)
  | glo (g : Nat)
  | int (i : Int)
  | bl (b : Bool)
  | non
  | str (s : List Nat)
  | tup (es : List ME)
  | lst (es : List ME)
  | dnew (t : Bool)
  | bin (op : BO) (a b : ME)
  | neg (a : ME)
  | cmp (op : CO) (a b : ME)
  | chain (o1 o2 : CO) (a b c : ME)
  | and (es : List ME)
  | or (es : List ME)
  | not (a : ME)
  | ite (c a b : ME)
  | fld (a : ME) (f : Nat)
  | ix (a b : ME)
  | sl (a : ME) (lo hi : Option ME)
  | rev (a : ME)
  | call (j : Nat) (es ks : List ME)
  | make (c : Nat) (es ks : List ME)
  | meth (c m : Nat) (o : ME) (es : List ME)
  | bm (b : BM) (o : ME) (es : List ME)
  | bi (b : BI) (e : ME)
  | isi (e : ME) (t : Ty)
  | gget (g : Nat) (a b : ME)
  | lc (own : List Nat) (g : MG) (it : MI) (t : Option ME) (e : ME)
  | dc (own : List Nat) (g : MG) (it : MI) (k v : ME)
inductive MG where
  | name (i : Nat)
  | fld (o : ME) (f : Nat)
  | sub (o i : ME)
  | tup (gs : List MG)
inductive MI where
  | val (e : ME)
  | rng (a : ME)
  | enum (a : ME)
  | zip (a b : ME)
end
inductive MS where
  | no
  | exp (e : ME)
  | asg (g : MG) (e : ME)
  | par (is : List Nat) (es : List ME)
  | augF (o : ME) (f : Nat) (op : BO) (e : ME)
  | augN (i : Nat) (op : BO) (e : ME)
  | ite (c : ME) (a b : List MS)
  | whil (c : ME) (b : List MS)
  | for_ (g : MG) (it : MI) (b : List MS)
  | ret (e : ME)
  | retN
  | pass
abbrev Env := List (Option U)
inductive Fl where
  | nx
  | ret (u : U)
/-- an iterator -/
inductive IT where
  | lst (i : Nat)
  | tup (xs : List U)
  | rng (n : Int)
  | enT (xs : List U)
  | enL (i : Nat)
  | zTL (xs : List U) (j : Nat)
structure FD where
  np : Nat
  nk : Nat
  dk : List U
  nl : Nat
  body : List MS
structure Pg where
  defs : Nat → Option FD
  meth : Nat → Nat → Option Nat
  init : Nat → Option Nat
  glo : Nat → Option U
  gdic : Nat → Option (List (Int × U))
  fa : Nat → Nat → Bool
structure Fns where
  e : Nat → ME → Env → MH → Option (U × MH)
  t : Nat → ME → Env → MH → Option (Bool × MH)
  g : Nat → MG → U → Env → MH → Option (Env × MH)
  s : Nat → MS → Env → MH → Option (Fl × Env × MH)
  w : Nat → ME → List MS → Env → MH → Option (Fl × Env × MH)
  f : Nat → IT → Nat → MG → List MS → Env → MH → Option (Fl × Env × MH)
  l : Nat → IT → Nat → Nat → MG → Option ME → ME → Env → MH → Option MH
  d : Nat → IT → Nat → Nat → MG → ME → ME → Env → MH → Option MH
  c : Nat → Nat → List U → MH → Option (U × MH)
def evL (f : ME → Env → MH → Option (U × MH)) : List ME → Env → MH → Option (List U × MH)
  | [], _, h => some ([], h)
  | m :: r, us, h => match f m us h with
    | none => none
    | some (x, h1) => match evL f r us h1 with
      | none => none
      | some (xs, h2) => some (x :: xs, h2)
def evAnd (f : ME → Env → MH → Option (Bool × MH)) : List ME → Env → MH → Option (Bool × MH)
  | [], _, _ => none
  | [m], us, h => f m us h
  | m :: r, us, h => match f m us h with
    | none => none
    | some (true, h1) => evAnd f r us h1
    | some (false, h1) => some (false, h1)
def evOr (f : ME → Env → MH → Option (Bool × MH)) : List ME → Env → MH → Option (Bool × MH)
  | [], _, _ => none
  | [m], us, h => f m us h
  | m :: r, us, h => match f m us h with
    | none => none
    | some (true, h1) => some (true, h1)
    | some (false, h1) => evOr f r us h1
def evSs (f : MS → Env → MH → Option (Fl × Env × MH)) : List MS → Env → MH → Option (Fl × Env × MH)
  | [], us, h => some (.nx, us, h)
  | m :: r, us, h => match f m us h with
    | none => none
    | some (.nx, us1, h1) => evSs f r us1 h1
    | some (.ret u, us1, h1) => some (.ret u, us1, h1)
def evGs (f : MG → U → Env → MH → Option (Env × MH)) : List MG → List U → Env → MH → Option (Env × MH)
  | [], [], us, h => some (us, h)
  | g :: r, x :: xs, us, h => match f g x us h with
    | none => none
    | some (us1, h1) => evGs f r xs us1 h1
  | _, _, _, _ => none
/-- lists' and tuples' most items: sizeLine is 2 ^ 24; here far less -/
def small (xs : List U) : Bool := Nat.ble xs.length 1000000
def binop (Γ : Bd) (op : BO) (x y : U) (h : MH) : Option (U × MH) := match op with
  | .add => match x, y with
    | .int a, .int b => some (.int (a.add b), h)
    | .tup xs, .tup ys => match small (xs ++ ys) with
      | true => some (.tup (xs ++ ys), h)
      | false => none
    | .ref i, .ref j => match h.lst i with
      | none => none
      | some xs => match h.lst j with
        | none => none
        | some ys => match small (xs ++ ys) with
          | true => some (.ref h.n, h.new (.lst (xs ++ ys)))
          | false => none
    | _, _ => none
  | .sub => match x, y with
    | .int a, .int b => some (.int (a.sub b), h)
    | _, _ => none
  | .mul => match x, y with
    | .int a, .int b => match SI.le Γ a (.lit 1000000000000000000), SI.le Γ (.lit (-1000000000000000000)) a with
      | some true, some true => some (.int (a.mul b), h)
      | _, _ => none
    | .ref i, .int (.lit k) => match h.lst i with
      | none => none
      | some xs => match decide (0 ≤ k ∧ k ≤ 1000) with
        | true => match small (List.replicate k.toNat xs).flatten with
          | true => some (.ref h.n, h.new (.lst (List.replicate k.toNat xs).flatten))
          | false => none
        | false => none
    | _, _ => none
/-- in place: whole numbers -/
def binI (op : BO) (x y : U) : Option U := match x, y with
  | .int a, .int b => match op with
    | .add => some (.int (a.add b))
    | .sub => some (.int (a.sub b))
    | .mul => none
  | _, _ => none
def sameCls (x : U) (h h' : MH) : Bool := match x with
  | .ref r => match h.get r, h'.get r with
    | some (.ins c _), some (.ins c' _) => Nat.beq c c'
    | _, _ => false
  | _ => false
def datL (f : U → Bool) : List U → Bool
  | [] => true
  | x :: r => match f x with
    | true => datL f r
    | false => false
/-- what == tells apart as data -/
def dat (h : MH) : Nat → U → Bool
  | 0, _ => false
  | n + 1, .tup xs => datL (dat h n) xs
  | n + 1, .ref i => match h.lst i with
    | none => false
    | some xs => datL (dat h n) xs
  | n + 1, _ => true
def isScal : U → Bool
  | .tup _ => false
  | .ref _ => false
  | _ => true
def eqOp (Γ : Bd) (h : MH) (x y : U) : Option Bool := match dat h 40 x with
  | false => none
  | true => match dat h 40 y with
    | false => none
    | true => ueq Γ h 40 x y
/-- a flat thing among flat ones -/
def isFlat : U → Bool
  | .int _ => true
  | .str _ => true
  | _ => false
def inOp (Γ : Bd) (x : U) : List U → Option Bool
  | [] => some false
  | y :: r => match isFlat y with
    | false => none
    | true => match ueq Γ ⟨0, .lf⟩ 1 y x with
      | none => none
      | some true => match datL isFlat r with
        | true => some true
        | false => none
      | some false => inOp Γ x r
def notO : Option Bool → Option Bool
  | none => none
  | some b => some (!b)
def isNon : U → Bool
  | .non => true
  | _ => false
def cmpop (Γ : Bd) (op : CO) (x y : U) (h : MH) : Option Bool := match op with
  | .eq => eqOp Γ h x y
  | .ne => notO (eqOp Γ h x y)
  | .lt => match x, y with
    | .int a, .int b => SI.lt Γ a b
    | _, _ => none
  | .le => match x, y with
    | .int a, .int b => SI.le Γ a b
    | _, _ => none
  | .gt => match x, y with
    | .int a, .int b => SI.lt Γ b a
    | _, _ => none
  | .ge => match x, y with
    | .int a, .int b => SI.le Γ b a
    | _, _ => none
  | .isN => match y with
    | .non => some (isNon x)
    | _ => none
  | .notN => match y with
    | .non => some (!isNon x)
    | _ => none
  | .in_ => match y with
    | .tup ys => match isFlat x with
      | true => inOp Γ x ys
      | false => none
    | _ => none
  | .nin => match y with
    | .tup ys => match isFlat x with
      | true => notO (inOp Γ x ys)
      | false => none
    | _ => none
def nth {α : Type} : List α → Nat → Option α
  | [], _ => none
  | x :: _, 0 => some x
  | _ :: r, n + 1 => nth r n
/-- an item by a written place, from behind too -/
def at_ (xs : List U) (i : Int) : Option U := match decide (0 ≤ i) with
  | true => nth xs i.toNat
  | false => match decide (-(xs.length : Int) ≤ i) with
    | true => nth xs (i + xs.length).toNat
    | false => none
def ixop (x y : U) (h : MH) : Option U := match x with
  | .tup xs => match y with
    | .int (.lit i) => at_ xs i
    | _ => none
  | .ref r => match h.get r with
    | some (.lst xs) => match y with
      | .int (.lit i) => at_ xs i
      | _ => none
    | some (.dK kvs) => match keyU y with
      | some k => getK k kvs
      | none => none
    | _ => none
  | _ => none
/-- a part of a slice: none, or a written number -/
def part : Option U → Option (Option Int)
  | none => some none
  | some (.int (.lit i)) => some (some i)
  | _ => none
def clip (n d : Nat) : Option Int → Nat
  | none => d
  | some v => match decide (v < 0) with
    | true => (v + (n : Int)).toNat
    | false => match decide ((n : Int) < v) with
      | true => n
      | false => v.toNat
def cut (xs : List U) (lo hi : Option Int) : List U :=
  (xs.drop (clip xs.length 0 lo)).take (clip xs.length xs.length hi - clip xs.length 0 lo)
def slop (x : U) (lo hi : Option U) (h : MH) : Option (U × MH) := match part lo with
  | none => none
  | some l => match part hi with
    | none => none
    | some u => match x with
      | .tup xs => some (.tup (cut xs l u), h)
      | .ref r => match h.lst r with
        | none => none
        | some xs => some (.ref h.n, h.new (.lst (cut xs l u)))
      | _ => none
def biop (b : BI) (x : U) (h : MH) : Option (U × MH) := match b with
  | .len => match x with
    | .tup xs => some (.int (.lit xs.length), h)
    | .ref r => match h.lst r with
      | none => none
      | some xs => some (.int (.lit xs.length), h)
    | _ => none
  | .int => match x with
    | .bl b => some (.int (.lit (boolI b)), h)
    | .int a => some (.int a, h)
    | _ => none
  | .list => match x with
    | .tup xs => some (.ref h.n, h.new (.lst xs))
    | .ref r => match h.lst r with
      | none => none
      | some xs => some (.ref h.n, h.new (.lst xs))
    | _ => none
  | .tuple => match x with
    | .tup xs => some (.tup xs, h)
    | .ref r => match h.lst r with
      | none => none
      | some xs => some (.tup xs, h)
    | _ => none
def isiop (h : MH) (x : U) (t : Ty) : Option Bool := match x with
  | .non => some false
  | .bl _ => match t with
    | .bool => some true
    | .int => some true
    | _ => some false
  | .int _ => match t with
    | .int => some true
    | _ => some false
  | .str _ => match t with
    | .str => some true
    | _ => some false
  | .tup _ => match t with
    | .tuple => some true
    | _ => some false
  | .ref r => match h.lst r with
    | none => none
    | some _ => match t with
      | .list => some true
      | _ => some false
def lastOf : List U → Option U
  | [] => none
  | [x] => some x
  | _ :: r => lastOf r
def bmop (b : BM) (x : U) (ys : List U) (h : MH) : Option (U × MH) := match x with
  | .ref r => match h.lst r with
    | none => none
    | some xs => match b with
      | .append => match ys with
        | [y] => match small xs with
          | true => some (.non, h.upd r (.lst (xs ++ [y])))
          | false => none
        | _ => none
      | .pop => match ys with
        | [] => match lastOf xs with
          | none => none
          | some y => some (y, h.upd r (.lst xs.dropLast))
        | _ => none
      | .extend => match ys with
        | [.ref q] => match h.lst q with
          | none => none
          | some zs => match small (xs ++ zs) with
            | true => some (.non, h.upd r (.lst (xs ++ zs)))
            | false => none
        | _ => none
  | _ => none
def fldop (x : U) (f : Nat) (h : MH) : Option U := match x with
  | .ref r => match h.get r with
    | some (.ins _ fs) => fget f fs
    | _ => none
  | _ => none
/-- an attribute is stored -/
def fldset (fa : Nat → Nat → Bool) (x : U) (f : Nat) (v : U) (h : MH) : Option MH := match x with
  | .ref r => match h.get r with
    | some (.ins c fs) => match fa c f with
      | true => match Nat.ble fs.length 900 with
        | true => some (h.upd r (.ins c (fput f v fs)))
        | false => none
      | false => none
    | _ => none
  | _ => none
def setN {α : Type} : List α → Nat → α → Option (List α)
  | [], _, _ => none
  | _ :: r, 0, y => some (y :: r)
  | x :: r, n + 1, y => match setN r n y with
    | none => none
    | some q => some (x :: q)
def subset (x i v : U) (h : MH) : Option MH := match x with
  | .ref r => match h.get r with
    | some (.lst xs) => match i with
      | .int (.lit k) => match decide (0 ≤ k) with
        | true => match setN xs k.toNat v with
          | some ys => some (h.upd r (.lst ys))
          | none => none
        | false => none
      | _ => none
    | some (.dK kvs) => match keyU i with
      | some k => match Nat.ble kvs.length 1000000 with
        | true => some (h.upd r (.dK (putK k v kvs)))
        | false => none
      | none => none
    | _ => none
  | _ => none
def getV : Env → Nat → Option U
  | [], _ => none
  | x :: _, 0 => x
  | _ :: r, n + 1 => getV r n
def setV : Env → Nat → U → Env
  | [], _, _ => []
  | _ :: r, 0, u => some u :: r
  | x :: r, n + 1, u => x :: setV r n u
def setVs : Env → List Nat → List U → Option Env
  | us, [], [] => some us
  | us, i :: r, x :: xs => setVs (setV us i x) r xs
  | _, _, _ => none
def wipeN : Env → Nat → Env
  | [], _ => []
  | _ :: r, 0 => none :: r
  | x :: r, n + 1 => x :: wipeN r n
def wipe : Env → List Nat → Env
  | us, [] => us
  | us, v :: r => wipeN (wipe us r) v
/-- the next item: none for stuck, some none at the end -/
def next (it : IT) (i : Nat) (h : MH) : Option (Option U) := match it with
  | .lst r => match h.lst r with
    | none => none
    | some xs => some (nth xs i)
  | .tup xs => some (nth xs i)
  | .rng n => match decide ((i : Int) < n) with
    | true => some (some (.int (.lit i)))
    | false => some none
  | .enT xs => match nth xs i with
    | none => match Nat.beq i xs.length with
      | true => some none
      | false => none
    | some x => some (some (.tup [.int (.lit i), x]))
  | .enL r => match h.lst r with
    | none => none
    | some xs => match nth xs i with
      | none => some none
      | some x => some (some (.tup [.int (.lit i), x]))
  | .zTL xs j => match h.lst j with
    | none => none
    | some ys => match Nat.ble i xs.length with
      | false => none
      | true => match Nat.ble i ys.length with
        | false => none
        | true => match nth xs i with
          | none => some none
          | some x => match nth ys i with
            | none => some none
            | some y => some (some (.tup [x, y]))
def iter (e : ME → Env → MH → Option (U × MH)) (it : MI) (us : Env) (h : MH) : Option (IT × MH) := match it with
  | .val m => match e m us h with
    | none => none
    | some (x, h1) => match x with
      | .tup xs => some (.tup xs, h1)
      | .ref r => match h1.lst r with
        | some _ => some (.lst r, h1)
        | none => none
      | _ => none
  | .rng m => match e m us h with
    | some (.int (.lit n), h1) => match decide (-1000000 ≤ n ∧ n ≤ 1000000) with
      | true => some (.rng n, h1)
      | false => none
    | _ => none
  | .enum m => match e m us h with
    | none => none
    | some (x, h1) => match x with
      | .tup xs => some (.enT xs, h1)
      | .ref r => match h1.lst r with
        | some _ => some (.enL r, h1)
        | none => none
      | _ => none
  | .zip a b => match e a us h with
    | some (.tup xs, h1) => match e b us h1 with
      | some (.ref j, h2) => match h2.lst j with
        | some _ => some (.zTL xs j, h2)
        | none => none
      | _ => none
    | _ => none
def opE (f : ME → Env → MH → Option (U × MH)) : Option ME → Env → MH → Option (Option U × MH)
  | none, _, h => some (none, h)
  | some m, us, h => match f m us h with
    | none => none
    | some (x, h1) => some (some x, h1)
/-- the slots of a def at its beginning -/
def blank : Nat → Env
  | 0 => []
  | n + 1 => none :: blank n
def enter : Nat → List U → Env
  | n, [] => blank n
  | 0, _ :: _ => []
  | n + 1, x :: xs => some x :: enter n xs
/-- how the arguments and keyword-only ones come to the parameters -/
def argsOf (fd : FD) (xs ks : List U) : Option (List U) := match Nat.beq (xs.length + fd.nk) fd.np with
  | false => none
  | true => match ks with
    | [] => some (xs ++ fd.dk)
    | _ :: _ => match Nat.beq ks.length fd.nk with
      | true => some (xs ++ ks)
      | false => none
def bot : Fns where
  e := fun _ _ _ _ => none
  t := fun _ _ _ _ => none
  g := fun _ _ _ _ _ => none
  s := fun _ _ _ _ => none
  w := fun _ _ _ _ _ => none
  f := fun _ _ _ _ _ _ _ => none
  l := fun _ _ _ _ _ _ _ _ _ => none
  d := fun _ _ _ _ _ _ _ _ _ => none
  c := fun _ _ _ _ => none
section
variable (Γ : Bd) (P : Pg) (r : Fns)
def stepE (d : Nat) (m : ME) (us : Env) (h : MH) : Option (U × MH) := match m with
  | .no => none
  | .var i => match getV us i with
    | none => none
    | some u => some (u, h)
  | .glo g => match P.glo g with
    | none => none
    | some u => some (u, h)
  | .int i => some (.int (.lit i), h)
  | .bl b => some (.bl b, h)
  | .non => some (.non, h)
  | .str z => some (.str z, h)
  | .tup es => match evL (r.e d) es us h with
    | none => none
    | some (xs, h1) => match small xs with
      | true => some (.tup xs, h1)
      | false => none
  | .lst es => match evL (r.e d) es us h with
    | none => none
    | some (xs, h1) => match small xs with
      | true => some (.ref h1.n, h1.new (.lst xs))
      | false => none
  | .dnew t => match t with
    | true => some (.ref h.n, h.new (.dT []))
    | false => some (.ref h.n, h.new (.dK []))
  | .bin op a b => match r.e d a us h with
    | none => none
    | some (x, h1) => match r.e d b us h1 with
      | none => none
      | some (y, h2) => binop Γ op x y h2
  | .neg a => match r.e d a us h with
    | some (.int i, h1) => some (.int ((SI.lit 0).sub i), h1)
    | _ => none
  | .cmp op a b => match r.e d a us h with
    | none => none
    | some (x, h1) => match r.e d b us h1 with
      | none => none
      | some (y, h2) => match cmpop Γ op x y h2 with
        | none => none
        | some b => some (.bl b, h2)
  | .chain o1 o2 a b c => match r.e d a us h with
    | none => none
    | some (x, h1) => match r.e d b us h1 with
      | none => none
      | some (y, h2) => match cmpop Γ o1 x y h2 with
        | none => none
        | some false => some (.bl false, h2)
        | some true => match r.e d c us h2 with
          | none => none
          | some (z, h3) => match cmpop Γ o2 y z h3 with
            | none => none
            | some b => some (.bl b, h3)
  | .and es => none
  | .or es => none
  | .not a => none
  | .ite c a b => match r.t d c us h with
    | none => none
    | some (true, h1) => r.e d a us h1
    | some (false, h1) => r.e d b us h1
  | .fld a f => match r.e d a us h with
    | none => none
    | some (x, h1) => match fldop x f h1 with
      | none => none
      | some v => some (v, h1)
  | .ix a b => match r.e d a us h with
    | none => none
    | some (x, h1) => match r.e d b us h1 with
      | none => none
      | some (y, h2) => match ixop x y h2 with
        | none => none
        | some v => some (v, h2)
  | .sl a lo hi => match r.e d a us h with
    | none => none
    | some (x, h1) => match opE (r.e d) lo us h1 with
      | none => none
      | some (l, h2) => match opE (r.e d) hi us h2 with
        | none => none
        | some (u, h3) => slop x l u h3
  | .rev a => match r.e d a us h with
    | some (.ref i, h1) => match h1.lst i with
      | some xs => some (.ref h1.n, h1.new (.lst xs.reverse))
      | none => none
    | _ => none
  | .call j es ks => match evL (r.e d) es us h with
    | none => none
    | some (xs, h1) => match evL (r.e d) ks us h1 with
      | none => none
      | some (zs, h2) => match d with
        | 0 => none
        | d1 + 1 => match P.defs j with
          | none => none
          | some fd => match argsOf fd xs zs with
            | none => none
            | some as => r.c d1 j as h2
  | .make c es ks => match evL (r.e d) es us h with
    | none => none
    | some (xs, h1) => match evL (r.e d) ks us h1 with
      | none => none
      | some (zs, h2) => match d with
        | d1 + 2 => match P.init c with
          | none => none
          | some j => match P.defs j with
            | none => none
            | some fd => match argsOf fd (.ref h2.n :: xs) zs with
              | none => none
              | some as => match r.c d1 j as (h2.new (.ins c [])) with
                | some (.non, h3) => some (.ref h2.n, h3)
                | _ => none
        | _ => none
  | .meth c m o es => match r.e d o us h with
    | some (.ref i, h1) => match h1.get i with
      | some (.ins c' fs) => match Nat.beq c c' with
        | false => none
        | true => match fget m fs with
          | some _ => none
          | none => match evL (r.e d) es us h1 with
            | none => none
            | some (xs, h2) => match d with
              | 0 => none
              | d1 + 1 => match P.meth c m with
                | none => none
                | some j => match P.defs j with
                  | none => none
                  | some fd => match argsOf fd (.ref i :: xs) [] with
                    | none => none
                    | some as => r.c d1 j as h2
      | _ => none
    | _ => none
  | .bm b o es => match r.e d o us h with
    | some (.ref i, h1) => match h1.lst i with
      | none => none
      | some _ => match evL (r.e d) es us h1 with
        | none => none
        | some (xs, h2) => bmop b (.ref i) xs h2
    | _ => none
  | .bi b a => match r.e d a us h with
    | none => none
    | some (x, h1) => biop b x h1
  | .isi a t => match r.e d a us h with
    | none => none
    | some (x, h1) => match isiop h1 x t with
      | none => none
      | some b => some (.bl b, h1)
  | .gget g a b => match r.e d a us h with
    | some (.int (.lit k), h1) => match r.e d b us h1 with
      | none => none
      | some (y, h2) => match P.gdic g with
        | none => none
        | some kvs => match kvs.find? fun p => decide (p.1 = k) with
          | some p => some (p.2, h2)
          | none => some (y, h2)
    | _ => none
  | .lc own g it t e => match iter (r.e d) it us h with
    | none => none
    | some (I, h1) => match r.l d I 0 h1.n g t e (wipe us own) (h1.new (.lst [])) with
      | none => none
      | some h2 => some (.ref h1.n, h2)
  | .dc own g it k v => match iter (r.e d) it us h with
    | none => none
    | some (I, h1) => match r.d d I 0 h1.n g k v (wipe us own) (h1.new (.dK [])) with
      | none => none
      | some h2 => some (.ref h1.n, h2)
def stepT (d : Nat) (m : ME) (us : Env) (h : MH) : Option (Bool × MH) := match m with
  | .and es => evAnd (r.t d) es us h
  | .or es => evOr (r.t d) es us h
  | .not a => match r.t d a us h with
    | none => none
    | some (b, h1) => some (!b, h1)
  | m => match r.e d m us h with
    | some (.bl b, h1) => some (b, h1)
    | _ => none
def stepG (d : Nat) (g : MG) (u : U) (us : Env) (h : MH) : Option (Env × MH) := match g with
  | .name i => some (setV us i u, h)
  | .fld o f => match r.e d o us h with
    | none => none
    | some (x, h1) => match fldset P.fa x f u h1 with
      | none => none
      | some h2 => some (us, h2)
  | .sub o i => match r.e d o us h with
    | none => none
    | some (x, h1) => match r.e d i us h1 with
      | none => none
      | some (y, h2) => match subset x y u h2 with
        | none => none
        | some h3 => some (us, h3)
  | .tup gs => match u with
    | .tup xs => evGs (r.g d) gs xs us h
    | _ => none
def stepS (d : Nat) (m : MS) (us : Env) (h : MH) : Option (Fl × Env × MH) := match m with
  | .no => none
  | .exp e => match r.e d e us h with
    | none => none
    | some (_, h1) => some (.nx, us, h1)
  | .asg g e => match r.e d e us h with
    | none => none
    | some (x, h1) => match r.g d g x us h1 with
      | none => none
      | some (us2, h2) => some (.nx, us2, h2)
  | .par is es => match evL (r.e d) es us h with
    | none => none
    | some (xs, h1) => match setVs us is xs with
      | none => none
      | some us2 => some (.nx, us2, h1)
  | .augF o f op e => match r.e d o us h with
    | none => none
    | some (x, h1) => match fldop x f h1 with
      | none => none
      | some v => match r.e d e us h1 with
        | none => none
        | some (y, h2) => match binI op v y with
          | none => none
          | some z => match sameCls x h1 h2 with
            | false => none
            | true => match fldset P.fa x f z h2 with
              | none => none
              | some h4 => some (.nx, us, h4)
  | .augN i op e => match getV us i with
    | none => none
    | some v => match r.e d e us h with
      | none => none
      | some (y, h1) => match binI op v y with
        | none => none
        | some z => some (.nx, setV us i z, h1)
  | .ite c a b => match r.t d c us h with
    | none => none
    | some (true, h1) => evSs (r.s d) a us h1
    | some (false, h1) => evSs (r.s d) b us h1
  | .whil c b => r.w d c b us h
  | .for_ g it b => match iter (r.e d) it us h with
    | none => none
    | some (I, h1) => r.f d I 0 g b us h1
  | .ret e => match r.e d e us h with
    | none => none
    | some (x, h1) => some (.ret x, us, h1)
  | .retN => some (.ret .non, us, h)
  | .pass => some (.nx, us, h)
def stepW (d : Nat) (c : ME) (b : List MS) (us : Env) (h : MH) : Option (Fl × Env × MH) := match r.t d c us h with
  | none => none
  | some (false, h1) => some (.nx, us, h1)
  | some (true, h1) => match evSs (r.s d) b us h1 with
    | none => none
    | some (.nx, us2, h2) => r.w d c b us2 h2
    | some (.ret u, us2, h2) => some (.ret u, us2, h2)
def stepF (d : Nat) (I : IT) (i : Nat) (g : MG) (b : List MS) (us : Env) (h : MH) : Option (Fl × Env × MH) := match next I i h with
  | none => none
  | some none => some (.nx, us, h)
  | some (some x) => match r.g d g x us h with
    | none => none
    | some (us1, h1) => match evSs (r.s d) b us1 h1 with
      | none => none
      | some (.nx, us2, h2) => r.f d I (i + 1) g b us2 h2
      | some (.ret u, us2, h2) => some (.ret u, us2, h2)
def testO (d : Nat) (t : Option ME) (us : Env) (h : MH) : Option (Bool × MH) := match t with
  | none => some (true, h)
  | some m => r.t d m us h
def stepL (d : Nat) (I : IT) (i D : Nat) (g : MG) (t : Option ME) (e : ME) (us : Env) (h : MH) : Option MH := match next I i h with
  | none => none
  | some none => some h
  | some (some x) => match r.g d g x us h with
    | none => none
    | some (us1, h1) => match testO r d t us1 h1 with
      | none => none
      | some (false, h2) => r.l d I (i + 1) D g t e us h2
      | some (true, h2) => match r.e d e us1 h2 with
        | none => none
        | some (y, h3) => match h3.lst D with
          | none => none
          | some acc => match small acc with
            | true => r.l d I (i + 1) D g t e us (h3.upd D (.lst (acc ++ [y])))
            | false => none
def stepD (d : Nat) (I : IT) (i D : Nat) (g : MG) (k v : ME) (us : Env) (h : MH) : Option MH := match next I i h with
  | none => none
  | some none => some h
  | some (some x) => match r.g d g x us h with
    | none => none
    | some (us1, h1) => match r.e d k us1 h1 with
      | none => none
      | some (y, h2) => match r.e d v us1 h2 with
        | none => none
        | some (z, h3) => match keyU y with
          | none => none
          | some ky => match h3.get D with
            | some (.dK kvs) => match Nat.ble kvs.length 1000000 with
              | true => r.d d I (i + 1) D g k v us (h3.upd D (.dK (putK ky z kvs)))
              | false => none
            | _ => none
def stepC (d : Nat) (j : Nat) (xs : List U) (h : MH) : Option (U × MH) := match P.defs j with
  | none => none
  | some fd => match Nat.beq xs.length fd.np with
    | false => none
    | true => match evSs (r.s d) fd.body (enter fd.nl xs) h with
      | none => none
      | some (.nx, _, h1) => some (.non, h1)
      | some (.ret u, _, h1) => some (u, h1)
def step : Fns where
  e := stepE Γ P r
  t := stepT r
  g := stepG P r
  s := stepS P r
  w := stepW r
  f := stepF r
  l := stepL r
  d := stepD r
  c := stepC P r
end
def fns (Γ : Bd) (P : Pg) (n : Nat) : Fns := Nat.rec bot (fun _ r => step Γ P r) n
end Se
set_option linter.all false
/-! Se: what the letters' sums are worth. -/
namespace Se
section
variable (θ : Nat → Int)
theorem mEv_insV (v : Nat) : ∀ l, mEv θ (insV v l) = θ v * mEv θ l
  | [] => rfl
  | w :: r => by
    show mEv θ (match Nat.ble v w with | true => v :: w :: r | false => w :: insV v r) = _
    cases Nat.ble v w with
    | true => rfl
    | false =>
      show θ w * mEv θ (insV v r) = θ v * (θ w * mEv θ r)
      rw [mEv_insV v r, Int.mul_left_comm]
theorem mEv_mrgV : ∀ a b, mEv θ (mrgV a b) = mEv θ a * mEv θ b
  | [], b => by show mEv θ b = 1 * mEv θ b; rw [Int.one_mul]
  | v :: r, b => by
    show mEv θ (insV v (mrgV r b)) = θ v * mEv θ r * mEv θ b
    rw [mEv_insV, mEv_mrgV r b, Int.mul_assoc]
theorem eqN_ok : ∀ {a b : List Nat}, eqN a b = true → a = b
  | [], [], _ => rfl
  | [], _ :: _, h => nomatch h
  | _ :: _, [], h => nomatch h
  | x :: a, y :: b, h => by
    have h1 : (match Nat.beq x y with | true => eqN a b | false => false) = true := h
    cases e : Nat.beq x y with
    | true =>
      rw [e] at h1
      rw [Nat.eq_of_beq_eq_true e, eqN_ok h1]
    | false =>
      rw [e] at h1
      cases h1
theorem eqN_refl : ∀ a : List Nat, eqN a a = true
  | [] => rfl
  | x :: a => by
    show (match Nat.beq x x with | true => eqN a a | false => false) = true
    rw [Nat.beq_refl x]
    exact eqN_refl a
theorem eqN_iff (a b : List Nat) : eqN a b = decide (a = b) := by
  cases e : eqN a b with
  | true => exact (decide_eq_true (eqN_ok e)).symm
  | false =>
    refine (decide_eq_false fun q => ?_).symm
    subst q
    rw [eqN_refl] at e
    cases e
theorem msEv_insM (m : List Nat) (k : Int) : ∀ l, msEv θ (insM m k l) = k * mEv θ m + msEv θ l
  | [] => rfl
  | (n, j) :: r => by
    show msEv θ (match eqN m n with
      | true => match decide (k + j = 0) with
        | true => r
        | false => (n, k + j) :: r
      | false => match ltN m n with
        | true => (m, k) :: (n, j) :: r
        | false => (n, j) :: insM m k r) = k * mEv θ m + (j * mEv θ n + msEv θ r)
    cases e : eqN m n with
    | true =>
      have em := eqN_ok e
      subst em
      rw [← Int.add_assoc, ← Int.add_mul]
      cases z : decide (k + j = 0) with
      | true =>
        rw [of_decide_eq_true z]
        show msEv θ r = _
        rw [Int.zero_mul, Int.zero_add]
      | false => rfl
    | false =>
      cases ltN m n with
      | true => rfl
      | false =>
        show j * mEv θ n + msEv θ (insM m k r) = _
        rw [msEv_insM m k r]
        omega
theorem msEv_addM : ∀ a b, msEv θ (addM a b) = msEv θ a + msEv θ b
  | [], b => by show msEv θ b = 0 + msEv θ b; omega
  | (m, k) :: r, b => by
    show msEv θ (insM m k (addM r b)) = k * mEv θ m + msEv θ r + msEv θ b
    rw [msEv_insM, msEv_addM r b]
    omega
theorem msEv_sclM (k : Int) : ∀ a, msEv θ (sclM k a) = k * msEv θ a
  | [] => by show (0 : Int) = k * 0; omega
  | (m, j) :: r => by
    show k * j * mEv θ m + msEv θ (sclM k r) = k * (j * mEv θ m + msEv θ r)
    rw [msEv_sclM k r, Int.mul_add, Int.mul_assoc]
theorem msEv_mulM1 (m : List Nat) (k : Int) : ∀ a, msEv θ (mulM1 m k a) = k * mEv θ m * msEv θ a
  | [] => by show (0 : Int) = _ * 0; omega
  | (n, j) :: r => by
    show msEv θ (insM (mrgV m n) (k * j) (mulM1 m k r)) = k * mEv θ m * (j * mEv θ n + msEv θ r)
    rw [msEv_insM, mEv_mrgV, msEv_mulM1 m k r, Int.mul_add]
    congr 1
    rw [Int.mul_assoc, Int.mul_assoc]
    congr 1
    rw [Int.mul_left_comm]
theorem msEv_mulM : ∀ a b, msEv θ (mulM a b) = msEv θ a * msEv θ b
  | [], b => by show (0 : Int) = 0 * _; omega
  | (m, k) :: r, b => by
    show msEv θ (addM (mulM1 m k b) (mulM r b)) = (k * mEv θ m + msEv θ r) * msEv θ b
    rw [msEv_addM, msEv_mulM1, msEv_mulM r b, Int.add_mul]
theorem ev_nrm (c : Int) : ∀ ms, (nrm c ms).ev θ = c + msEv θ ms
  | [] => by show c = c + 0; omega
  | _ :: _ => rfl
theorem ev_add : ∀ a b : SI, (a.add b).ev θ = a.ev θ + b.ev θ
  | .lit a, .lit b => rfl
  | .lit a, .pol c ms => by show a + c + msEv θ ms = a + (c + msEv θ ms); omega
  | .pol c ms, .lit b => by show c + b + msEv θ ms = c + msEv θ ms + b; omega
  | .pol c ms, .pol d ns => by
    show (nrm (c + d) (addM ms ns)).ev θ = c + msEv θ ms + (d + msEv θ ns)
    rw [ev_nrm, msEv_addM]
    omega
theorem ev_scl (k : Int) : ∀ a : SI, (a.scl k).ev θ = k * a.ev θ
  | .lit a => rfl
  | .pol c ms => by
    show (match decide (k = 0) with | true => SI.lit 0 | false => .pol (k * c) (sclM k ms)).ev θ = k * (c + msEv θ ms)
    cases e : decide (k = 0) with
    | true =>
      rw [of_decide_eq_true e]
      show (0 : Int) = 0 * _
      omega
    | false =>
      show k * c + msEv θ (sclM k ms) = _
      rw [msEv_sclM, Int.mul_add]
theorem ev_sub (a b : SI) : (a.sub b).ev θ = a.ev θ - b.ev θ := by
  have key : ∀ x y : SI, (x.add (y.scl (-1))).ev θ = x.ev θ - y.ev θ := fun x y => by
    rw [ev_add, ev_scl]
    omega
  cases a with
  | lit i => cases b with
    | lit j => rfl
    | pol c ms => exact key (.lit i) (.pol c ms)
  | pol d ns => exact key (.pol d ns) b
theorem ev_mul (a b : SI) : (a.mul b).ev θ = a.ev θ * b.ev θ := by
  cases a with
  | lit i => cases b with
    | lit j => rfl
    | pol c ms => exact ev_scl θ i (.pol c ms)
  | pol c ms => cases b with
    | lit j =>
      show (SI.scl j (.pol c ms)).ev θ = (c + msEv θ ms) * j
      rw [ev_scl]
      exact Int.mul_comm _ _
    | pol d ns =>
      show ((SI.scl c (.pol d ns)).add ((SI.scl d (nrm 0 ms)).add (nrm 0 (mulM ms ns)))).ev θ = (c + msEv θ ms) * (d + msEv θ ns)
      rw [ev_add, ev_add, ev_scl, ev_scl, ev_nrm, ev_nrm, msEv_mulM]
      show c * (d + msEv θ ns) + (d * (0 + msEv θ ms) + (0 + msEv θ ms * msEv θ ns)) = _
      rw [Int.add_mul, Int.mul_add (msEv θ ms), Int.zero_add, Int.zero_add, Int.mul_comm d]
end
theorem mul_bd {x y B C : Int} (h1 : -B ≤ x ∧ x ≤ B) (h2 : -C ≤ y ∧ y ≤ C) : -(B * C) ≤ x * y ∧ x * y ≤ B * C := by
  have hB : 0 ≤ B := by omega
  have hC : 0 ≤ C := by omega
  have e1 : x.natAbs ≤ B.natAbs := by omega
  have e2 : y.natAbs ≤ C.natAbs := by omega
  have e3 := Nat.mul_le_mul e1 e2
  rw [← Int.natAbs_mul, ← Int.natAbs_mul] at e3
  have e4 : 0 ≤ B * C := Int.mul_nonneg hB hC
  omega
section
variable {Γ : Bd} {θ : Nat → Int} (G : Γ.ok θ)
include G
theorem mBd_ok : ∀ {m : List Nat} {B : Int}, mBd Γ m = some B → -B ≤ mEv θ m ∧ mEv θ m ≤ B
  | [], B, h => by
    cases h
    show -(1 : Int) ≤ 1 ∧ (1 : Int) ≤ 1
    omega
  | v :: r, B, h => by
    have h1 : (match Γ[v]? with | none => none | some B => match mBd Γ r with | none => none | some C => some (B * C)) = some B := h
    cases e : Γ[v]? with
    | none =>
      rw [e] at h1
      cases h1
    | some b =>
      rw [e] at h1
      cases e2 : mBd Γ r with
      | none =>
        rw [e2] at h1
        cases h1
      | some c =>
        rw [e2] at h1
        cases h1
        exact mul_bd (G v b e) (mBd_ok e2)
theorem msBd_ok : ∀ {ms : List (List Nat × Int)} {R : Int}, msBd Γ ms = some R → -R ≤ msEv θ ms ∧ msEv θ ms ≤ R
  | [], R, h => by
    cases h
    show -(0 : Int) ≤ 0 ∧ (0 : Int) ≤ 0
    omega
  | (m, k) :: r, R, h => by
    have h1 : (match mBd Γ m with | none => none | some B => match msBd Γ r with | none => none | some C => some (absI k * B + C)) = some R := h
    cases e : mBd Γ m with
    | none =>
      rw [e] at h1
      cases h1
    | some b =>
      rw [e] at h1
      cases e2 : msBd Γ r with
      | none =>
        rw [e2] at h1
        cases h1
      | some c =>
        rw [e2] at h1
        cases h1
        have a1 := msBd_ok e2
        have a2 : -absI k ≤ k ∧ k ≤ absI k := by
          unfold absI
          cases z : decide (0 ≤ k) with
          | true =>
            have := of_decide_eq_true z
            show -k ≤ k ∧ k ≤ k
            omega
          | false =>
            have := of_decide_eq_false z
            show -(-k) ≤ k ∧ k ≤ -k
            omega
        have a3 := mul_bd a2 (mBd_ok G e)
        show -(absI k * b + c) ≤ k * mEv θ m + msEv θ r ∧ k * mEv θ m + msEv θ r ≤ absI k * b + c
        omega
theorem leD_ok {a : SI} {b : Bool} (h : leD Γ a = some b) : b = decide (0 ≤ a.ev θ) := by
  cases a with
  | lit d => cases h; rfl
  | pol c ms =>
    have h1 : (match msBd Γ ms with
      | none => none
      | some R => match decide (0 ≤ c - R) with
        | true => some true
        | false => match decide (c + R < 0) with
          | true => some false
          | false => none) = some b := h
    cases e : msBd Γ ms with
    | none =>
      rw [e] at h1
      cases h1
    | some R =>
      have a1 := msBd_ok G e
      have ev : (SI.pol c ms).ev θ = c + msEv θ ms := rfl
      cases z : decide (0 ≤ c - R) with
      | true =>
        simp only [e, z] at h1
        cases h1
        have := of_decide_eq_true z
        rw [ev, decide_eq_true (show 0 ≤ c + msEv θ ms by omega)]
      | false =>
        cases z2 : decide (c + R < 0) with
        | true =>
          simp only [e, z, z2] at h1
          cases h1
          have := of_decide_eq_true z2
          rw [ev, decide_eq_false (show ¬ 0 ≤ c + msEv θ ms by omega)]
        | false =>
          simp only [e, z, z2] at h1
          cases h1
theorem eqD_ok {a : SI} {b : Bool} (h : eqD Γ a = some b) : b = decide (a.ev θ = 0) := by
  cases a with
  | lit d => cases h; rfl
  | pol c ms =>
    have h1 : (match msBd Γ ms with
      | none => none
      | some R => match decide (0 < c - R) with
        | true => some false
        | false => match decide (c + R < 0) with
          | true => some false
          | false => none) = some b := h
    cases e : msBd Γ ms with
    | none =>
      rw [e] at h1
      cases h1
    | some R =>
      have a1 := msBd_ok G e
      have ev : (SI.pol c ms).ev θ = c + msEv θ ms := rfl
      cases z : decide (0 < c - R) with
      | true =>
        simp only [e, z] at h1
        cases h1
        have := of_decide_eq_true z
        rw [ev, decide_eq_false (show ¬ c + msEv θ ms = 0 by omega)]
      | false =>
        cases z2 : decide (c + R < 0) with
        | true =>
          simp only [e, z, z2] at h1
          cases h1
          have := of_decide_eq_true z2
          rw [ev, decide_eq_false (show ¬ c + msEv θ ms = 0 by omega)]
        | false =>
          simp only [e, z, z2] at h1
          cases h1
theorem le_ok {a b : SI} {k : Bool} (h : SI.le Γ a b = some k) : k = decide (a.ev θ ≤ b.ev θ) := by
  have key : leD Γ (b.sub a) = some k → k = decide (a.ev θ ≤ b.ev θ) := fun q => by
    rw [leD_ok G q, ev_sub]
    exact decide_eq_decide.2 (by omega)
  cases a with
  | lit i => cases b with
    | lit j => cases h; rfl
    | pol c ms => exact key h
  | pol c ms => exact key h
theorem lt_ok {a b : SI} {k : Bool} (h : SI.lt Γ a b = some k) : k = decide (a.ev θ < b.ev θ) := by
  have key : leD Γ ((b.sub a).add (.lit (-1))) = some k → k = decide (a.ev θ < b.ev θ) := fun q => by
    rw [leD_ok G q, ev_add, ev_sub]
    exact decide_eq_decide.mpr (by show 0 ≤ b.ev θ - a.ev θ + -1 ↔ _; omega)
  cases a with
  | lit i => cases b with
    | lit j => cases h; rfl
    | pol c ms => exact key h
  | pol c ms => exact key h
theorem eq_ok {a b : SI} {k : Bool} (h : SI.eq Γ a b = some k) : k = decide (a.ev θ = b.ev θ) := by
  have key : eqD Γ (a.sub b) = some k → k = decide (a.ev θ = b.ev θ) := fun q => by
    rw [eqD_ok G q, ev_sub]
    exact decide_eq_decide.2 (by omega)
  cases a with
  | lit i => cases b with
    | lit j => cases h; rfl
    | pol c ms => exact key h
  | pol c ms => exact key h
end
/-! the heap -/
theorem Tr.get_set : ∀ {t : Tr} {i j : Nat} {o p : MO}, (t.set i o).get j = some p → (j = i ∧ p = o) ∨ (j ≠ i ∧ t.get j = some p)
  | .lf, 0, j, o, p, h => by
    cases j with
    | zero =>
      have h1 : some o = some p := h
      cases h1
      exact .inl ⟨rfl, rfl⟩
    | succ j =>
      have h1 : (match Nat.beq (j % 2) 0 with | true => Tr.lf.get (j / 2) | false => Tr.lf.get (j / 2)) = some p := h
      cases q : Nat.beq (j % 2) 0 <;> (rw [q] at h1; cases h1)
  | .lf, i + 1, j, o, p, h => nomatch (show (none : Option MO) = some p from h)
  | .nd v l r, 0, j, o, p, h => by
    cases j with
    | zero =>
      have h1 : some o = some p := h
      cases h1
      exact .inl ⟨rfl, rfl⟩
    | succ j => exact .inr ⟨by omega, h⟩
  | .nd v l r, i + 1, j, o, p, h => by
    have h1 : (match Nat.beq (i % 2) 0 with | true => Tr.nd v (l.set (i / 2) o) r | false => .nd v l (r.set (i / 2) o)).get j = some p := h
    cases j with
    | zero =>
      cases q : Nat.beq (i % 2) 0 with
      | true =>
        rw [q] at h1
        exact .inr ⟨by omega, h1⟩
      | false =>
        rw [q] at h1
        exact .inr ⟨by omega, h1⟩
    | succ j =>
      cases q : Nat.beq (i % 2) 0 with
      | true =>
        rw [q] at h1
        have hi := Nat.eq_of_beq_eq_true q
        have h2 : (match Nat.beq (j % 2) 0 with | true => (l.set (i / 2) o).get (j / 2) | false => r.get (j / 2)) = some p := h1
        cases q2 : Nat.beq (j % 2) 0 with
        | true =>
          rw [q2] at h2
          have hj := Nat.eq_of_beq_eq_true q2
          rcases Tr.get_set h2 with ⟨e1, e2⟩ | ⟨e1, e2⟩
          · exact .inl ⟨by omega, e2⟩
          · refine .inr ⟨by omega, ?_⟩
            show (match Nat.beq (j % 2) 0 with | true => l.get (j / 2) | false => r.get (j / 2)) = some p
            rw [q2]
            exact e2
        | false =>
          rw [q2] at h2
          have hj : ¬ j % 2 = 0 := fun z => by rw [z] at q2; cases q2
          refine .inr ⟨by omega, ?_⟩
          show (match Nat.beq (j % 2) 0 with | true => l.get (j / 2) | false => r.get (j / 2)) = some p
          rw [q2]
          exact h2
      | false =>
        rw [q] at h1
        have hi : ¬ i % 2 = 0 := fun z => by rw [z] at q; cases q
        have h2 : (match Nat.beq (j % 2) 0 with | true => l.get (j / 2) | false => (r.set (i / 2) o).get (j / 2)) = some p := h1
        cases q2 : Nat.beq (j % 2) 0 with
        | true =>
          rw [q2] at h2
          have hj := Nat.eq_of_beq_eq_true q2
          refine .inr ⟨by omega, ?_⟩
          show (match Nat.beq (j % 2) 0 with | true => l.get (j / 2) | false => r.get (j / 2)) = some p
          rw [q2]
          exact h2
        | false =>
          rw [q2] at h2
          have hj : ¬ j % 2 = 0 := fun z => by rw [z] at q2; cases q2
          rcases Tr.get_set h2 with ⟨e1, e2⟩ | ⟨e1, e2⟩
          · exact .inl ⟨by omega, e2⟩
          · refine .inr ⟨by omega, ?_⟩
            show (match Nat.beq (j % 2) 0 with | true => l.get (j / 2) | false => r.get (j / 2)) = some p
            rw [q2]
            exact e2
theorem MH.get_lt {h : MH} {i : Nat} {o : MO} (e : h.get i = some o) : i < h.n ∧ h.t.get i = some o := by
  unfold MH.get at e
  cases q : Nat.blt i h.n with
  | true =>
    rw [q] at e
    exact ⟨Nat.le_of_ble_eq_true q, e⟩
  | false =>
    rw [q] at e
    cases e
theorem MH.get_of {h : MH} {i : Nat} {o : MO} (l : i < h.n) (e : h.t.get i = some o) : h.get i = some o := by
  unfold MH.get
  rw [show Nat.blt i h.n = true from Nat.ble_eq_true_of_le l]
  exact e
theorem MH.get_new {h : MH} {j : Nat} {o p : MO} (e : (h.new o).get j = some p) : (j = h.n ∧ p = o) ∨ (j < h.n ∧ h.get j = some p) := by
  obtain ⟨l, q⟩ := MH.get_lt e
  have l2 : j < h.n + 1 := l
  rcases Tr.get_set q with z | ⟨z1, z2⟩
  · exact .inl z
  · exact .inr ⟨by omega, MH.get_of (by omega) z2⟩
theorem MH.get_upd {h : MH} {i j : Nat} {o p : MO} (e : (h.upd i o).get j = some p) : (j = i ∧ p = o) ∨ (j ≠ i ∧ h.get j = some p) := by
  obtain ⟨l, q⟩ := MH.get_lt e
  have l2 : j < h.n := l
  rcases Tr.get_set q with z | ⟨z1, z2⟩
  · exact .inl z
  · exact .inr ⟨z1, MH.get_of l2 z2⟩
theorem MH.lst_get {h : MH} {i : Nat} {xs : List U} (e : h.lst i = some xs) : h.get i = some (.lst xs) := by
  unfold MH.lst at e
  cases q : h.get i with
  | none =>
    rw [q] at e
    cases e
  | some o =>
    rw [q] at e
    cases o with
    | lst ys => cases e; rfl
    | _ => cases e
end Se
set_option Elab.async false
set_option linter.all false
set_option maxRecDepth 100000
/-! Se over the hand layer: how the small values and heaps lie in the layer's. -/
namespace Se
open PySem PySem.Spec
open PyProof.Rows L2

/-- where a law's things stand, and what its letters are -/
structure Wd where
  prog : Program
  w : World
  K : PySem.W.Frag
  mg : Str → Option Value
  base : Heap
  θ : Nat → Int
  C : Nat → Addr
  nm : Nat → Str
  nN : Nat
def strV (z : List Nat) : Str := ⟨z.toArray⟩
mutual
inductive RU (W : Wd) (ι : Nat → Addr) (n : Nat) (H : Hp) : U → V → Prop
  | non : RU W ι n H .non .non
  | bl (b : Bool) : RU W ι n H (.bl b) (.bl b)
  | int (a : SI) : RU W ι n H (.int a) (.int (a.ev W.θ))
  | str (z : List Nat) (h : PyData.strOk (strV z) = true) : RU W ι n H (.str z) (.str (strV z))
  | tup {us : List U} {vs : List V} {a : Addr} (h : SqT W.K H a vs) (r : RUs W ι n H us vs) : RU W ι n H (.tup us) (.ref a)
  | ref {i : Nat} (h : i < n) : RU W ι n H (.ref i) (.ref (ι i))
inductive RUs (W : Wd) (ι : Nat → Addr) (n : Nat) (H : Hp) : List U → List V → Prop
  | nil : RUs W ι n H [] []
  | cons {u : U} {v : V} {us : List U} {vs : List V} (h : RU W ι n H u v) (r : RUs W ι n H us vs) : RUs W ι n H (u :: us) (v :: vs)
end
def keyV : KE → Key
  | .i n => .inl n
  | .s z => .inr (strV z)
inductive ROb (W : Wd) (ι : Nat → Addr) (n : Nat) (H : Hp) : MO → HO → Prop
  | lst {us : List U} {vs : List V} (r : RUs W ι n H us vs) : ROb W ι n H (.lst us) (.lst vs)
  | dK {us : List (KE × U)} {vs : List (Key × V)} (r : Paired (fun p q => q.1 = keyV p.1 ∧ RU W ι n H p.2 q.2) us vs) : ROb W ι n H (.dK us) (.dK vs)
  | dT {us : List (List KE × U)} {vs : List (List Key × V)} (r : Paired (fun p q => q.1 = p.1.map keyV ∧ RU W ι n H p.2 q.2) us vs) : ROb W ι n H (.dT us) (.dT vs)
  | ins {c : Nat} {dx : Addr} {us : List (Nat × U)} {vs : List (Str × V)} (hc : Cls W.K (W.C c)) (r : Paired (fun p q => (p.1 < W.nN ∧ q.1 = W.nm p.1 ∧ NoAttr W.K (W.C c) q.1) ∧ RU W ι n H p.2 q.2) us vs) : ROb W ι n H (.ins c us) (.ins (W.C c) dx vs)
structure Rep (W : Wd) (ι : Nat → Addr) (h : MH) (H : Hp) : Prop where
  at_ : ∀ i o, h.get i = some o → ∃ u, H (ι i) = some u ∧ ROb W ι h.n H o u
  inj : ∀ i j, i < h.n → j < h.n → ι i = ι j → i = j
  mu : ∀ i, i < h.n → ∃ o, H (ι i) = some o ∧ Mut (some o)
structure Ext (ι : Nat → Addr) (n : Nat) (H : Hp) (ι' : Nat → Addr) (n' : Nat) (H' : Hp) : Prop where
  le : n ≤ n'
  same : ∀ i, i < n → ι' i = ι i
  new : ∀ i, n ≤ i → i < n' → H (ι' i) = none
  keep : ∀ a o, H a = some o → (∀ i, i < n → a ≠ ι i) → H' a = some o
  live : ∀ a o, H a = some o → ∃ o', H' a = some o'
theorem Ext.refl {ι : Nat → Addr} {n : Nat} {H : Hp} : Ext ι n H ι n H :=
  ⟨Nat.le_refl _, fun _ _ => rfl, fun i a b => absurd (Nat.lt_of_lt_of_le b a) (Nat.lt_irrefl _), fun _ _ e _ => e, fun _ o e => ⟨o, e⟩⟩
section
variable {ι ι' ι'' : Nat → Addr} {n n' n'' : Nat} {H H' H'' : Hp} {W : Wd}
theorem Ext.trans (x : Ext ι n H ι' n' H') (y : Ext ι' n' H' ι'' n'' H'') : Ext ι n H ι'' n'' H'' where
  le := Nat.le_trans x.le y.le
  same := fun i hi => (y.same i (Nat.lt_of_lt_of_le hi x.le)).trans (x.same i hi)
  new := fun i a b => by
    by_cases hi : i < n'
    · rw [y.same i hi]
      exact x.new i a hi
    · have e := y.new i (Nat.le_of_not_lt hi) b
      cases q : H (ι'' i) with
      | none => rfl
      | some o =>
        obtain ⟨o', e'⟩ := x.live _ o q
        rw [e] at e'
        cases e'
  keep := fun a o e ne => by
    refine y.keep a o (x.keep a o e ne) fun i hi q => ?_
    by_cases hn : i < n
    · rw [x.same i hn] at q
      exact ne i hn q
    · have z := x.new i (Nat.le_of_not_lt hn) hi
      rw [← q, e] at z
      cases z
  live := fun a o e => by
    obtain ⟨o', e'⟩ := x.live a o e
    exact y.live a o' e'
/-- tuples stand where they stood -/
theorem Ext.tup (x : Ext ι n H ι' n' H') (mu : ∀ i, i < n → ∃ o, H (ι i) = some o ∧ Mut (some o)) {K : PySem.W.Frag} {a : Addr} {vs : List V} (h : SqT K H a vs) : SqT K H' a vs := by
  have key : ∀ o, H a = some o → ¬ Mut (some o) → H' a = some o := fun o e nm => x.keep a o e fun i hi q => by
    obtain ⟨o', e', m⟩ := mu i hi
    rw [← q, e] at e'
    cases e'
    exact nm m
  rcases h with (e | ⟨o, e⟩) | h
  · exact .inl (.inl (key _ e fun z => z))
  · exact .inl (.inr ⟨o, key _ e fun z => z⟩)
  · exact .inr h
mutual
theorem RU.mono (x : Ext ι n H ι' n' H') (mu : ∀ i, i < n → ∃ o, H (ι i) = some o ∧ Mut (some o)) : ∀ {u : U} {v : V}, RU W ι n H u v → RU W ι' n' H' u v
  | _, _, .non => .non
  | _, _, .bl b => .bl b
  | _, _, .int a => .int a
  | _, _, .str z h => .str z h
  | _, _, .tup h r => .tup (x.tup mu h) (RUs.mono x mu r)
  | _, _, .ref (i := i) h => by
    rw [← x.same i h]
    exact .ref (Nat.lt_of_lt_of_le h x.le)
theorem RUs.mono (x : Ext ι n H ι' n' H') (mu : ∀ i, i < n → ∃ o, H (ι i) = some o ∧ Mut (some o)) : ∀ {us : List U} {vs : List V}, RUs W ι n H us vs → RUs W ι' n' H' us vs
  | _, _, .nil => .nil
  | _, _, .cons h r => .cons (RU.mono x mu h) (RUs.mono x mu r)
end
theorem paired_mono {α β : Type} {F G : α → β → Prop} {xs : List α} {ys : List β} (h : Paired F xs ys) (k : ∀ a b, F a b → G a b) : Paired G xs ys := Paired.mapP h k
theorem ROb.mono (x : Ext ι n H ι' n' H') (mu : ∀ i, i < n → ∃ o, H (ι i) = some o ∧ Mut (some o)) {o : MO} {u : HO} (r : ROb W ι n H o u) : ROb W ι' n' H' o u := by
  cases r with
  | lst r => exact .lst (r.mono x mu)
  | dK r => exact .dK (paired_mono r fun p q z => ⟨z.1, z.2.mono x mu⟩)
  | dT r => exact .dT (paired_mono r fun p q z => ⟨z.1, z.2.mono x mu⟩)
  | ins hc r => exact .ins hc (paired_mono r fun p q z => ⟨z.1, z.2.mono x mu⟩)
end
theorem ROb.mut {W : Wd} {ι : Nat → Addr} {n : Nat} {H : Hp} {o : MO} {u : HO} (r : ROb W ι n H o u) : Mut (some u) := by
  cases r <;> exact True.intro
section
variable {W : Wd} {ι : Nat → Addr} {h : MH} {H : Hp}
theorem Rep.ext {ι' : Nat → Addr} {n' : Nat} {H' : Hp} (R : Rep W ι h H) (x : Ext ι h.n H ι' n' H') {u : U} {v : V} (r : RU W ι h.n H u v) : RU W ι' n' H' u v := r.mono x R.mu
theorem Rep.exts {ι' : Nat → Addr} {n' : Nat} {H' : Hp} (R : Rep W ι h H) (x : Ext ι h.n H ι' n' H') {u : List U} {v : List V} (r : RUs W ι h.n H u v) : RUs W ι' n' H' u v := r.mono x R.mu
/-- with one address more -/
def put1 (ι : Nat → Addr) (n : Nat) (p : Addr) : Nat → Addr := fun i => if i = n then p else ι i
theorem put1_same {n : Nat} {p : Addr} : put1 ι n p n = p := if_pos rfl
theorem put1_lt {n i : Nat} {p : Addr} (hi : i < n) : put1 ι n p i = ι i := if_neg (Nat.ne_of_lt hi)
/-- a new object -/
theorem Rep.new (R : Rep W ι h H) {p : Addr} (np : H p = none) {o : MO} {u : HO} (r : ROb W ι h.n H o u) :
    Rep W (put1 ι h.n p) (h.new o) (upd H p u) ∧ Ext ι h.n H (put1 ι h.n p) (h.new o).n (upd H p u) := by
  have ne : ∀ i, i < h.n → ι i ≠ p := fun i hi q => by
    obtain ⟨o', e', _⟩ := R.mu i hi
    rw [q, np] at e'
    cases e'
  have x : Ext ι h.n H (put1 ι h.n p) (h.n + 1) (upd H p u) := by
    refine ⟨Nat.le_succ _, fun i hi => put1_lt hi, fun i a b => ?_, fun a o' e ne' => ?_, fun a o' e => ?_⟩
    · have e : i = h.n := by omega
      rw [e, put1_same]
      exact np
    · rw [upd_ne (ne_of_none e np)]
      exact e
    · exact ⟨o', by rw [upd_ne (ne_of_none e np)]; exact e⟩
  refine ⟨⟨fun i o' e => ?_, fun i j hi hj q => ?_, fun i hi => ?_⟩, x⟩
  · rcases MH.get_new e with ⟨e1, e2⟩ | ⟨e1, e2⟩
    · rw [e1, put1_same, e2]
      exact ⟨u, upd_same, r.mono x R.mu⟩
    · obtain ⟨u', h1, h2⟩ := R.at_ i o' e2
      rw [put1_lt e1, upd_ne (ne i e1)]
      exact ⟨u', h1, h2.mono x R.mu⟩
  · have hi : i < h.n + 1 := hi
    have hj : j < h.n + 1 := hj
    by_cases ei : i = h.n
    · by_cases ej : j = h.n
      · rw [ei, ej]
      · rw [ei, put1_same, put1_lt (show j < h.n by omega)] at q
        exact absurd q.symm (ne j (by omega))
    · by_cases ej : j = h.n
      · rw [ej, put1_same, put1_lt (show i < h.n by omega)] at q
        exact absurd q (ne i (by omega))
      · rw [put1_lt (show i < h.n by omega), put1_lt (show j < h.n by omega)] at q
        exact R.inj i j (by omega) (by omega) q
  · have hi : i < h.n + 1 := hi
    by_cases ei : i = h.n
    · rw [ei, put1_same, upd_same]
      exact ⟨u, rfl, r.mut⟩
    · rw [put1_lt (show i < h.n by omega), upd_ne (ne i (by omega))]
      exact R.mu i (by omega)
/-- an object written -/
theorem Rep.upd (R : Rep W ι h H) {i : Nat} (hi : i < h.n) {o : MO} {u : HO} (r : ROb W ι h.n H o u) :
    Rep W ι (h.upd i o) (upd H (ι i) u) ∧ Ext ι h.n H ι (h.upd i o).n (upd H (ι i) u) := by
  have x : Ext ι h.n H ι h.n (L2.upd H (ι i) u) := by
    refine ⟨Nat.le_refl _, fun _ _ => rfl, fun j a b => absurd (Nat.lt_of_lt_of_le b a) (Nat.lt_irrefl _), fun a o' e ne => ?_, fun a o' e => ?_⟩
    · rw [upd_ne (ne i hi)]
      exact e
    · by_cases q : a = ι i
      · rw [q]
        exact ⟨u, upd_same⟩
      · exact ⟨o', by rw [upd_ne q]; exact e⟩
  refine ⟨⟨fun j o' e => ?_, R.inj, fun j hj => ?_⟩, x⟩
  · rcases MH.get_upd e with ⟨e1, e2⟩ | ⟨e1, e2⟩
    · rw [e1, e2]
      exact ⟨u, upd_same, r.mono x R.mu⟩
    · obtain ⟨u', h1, h2⟩ := R.at_ j o' e2
      have hj := (MH.get_lt e2).1
      have ne : ι j ≠ ι i := fun q => e1 (R.inj j i hj hi q)
      refine ⟨u', ?_, h2.mono x R.mu⟩
      rw [upd_ne ne]
      exact h1
  · have hj : j < h.n := hj
    by_cases q : ι j = ι i
    · rw [q]
      exact ⟨u, upd_same, r.mut⟩
    · obtain ⟨o', e', m⟩ := R.mu j hj
      exact ⟨o', by rw [upd_ne q]; exact e', m⟩
/-- a tuple laid -/
theorem Rep.tup (R : Rep W ι h H) {p : Addr} (np : H p = none) {u : HO} : Rep W ι h (L2.upd H p u) ∧ Ext ι h.n H ι h.n (L2.upd H p u) := by
  have ne : ∀ i, i < h.n → ι i ≠ p := fun i hi q => by
    obtain ⟨o', e', _⟩ := R.mu i hi
    rw [q, np] at e'
    cases e'
  have x : Ext ι h.n H ι h.n (L2.upd H p u) :=
    ⟨Nat.le_refl _, fun _ _ => rfl, fun j a b => absurd (Nat.lt_of_lt_of_le b a) (Nat.lt_irrefl _), fun a o' e _ => by rw [upd_ne (ne_of_none e np)]; exact e, fun a o' e => ⟨o', by rw [upd_ne (ne_of_none e np)]; exact e⟩⟩
  refine ⟨⟨fun j o' e => ?_, R.inj, fun j hj => ?_⟩, x⟩
  · obtain ⟨u', h1, h2⟩ := R.at_ j o' e
    exact ⟨u', by rw [upd_ne (ne j (MH.get_lt e).1)]; exact h1, h2.mono x R.mu⟩
  · obtain ⟨o', e', m⟩ := R.mu j hj
    exact ⟨o', by rw [upd_ne (ne j hj)]; exact e', m⟩
theorem Rep.lst (R : Rep W ι h H) {i : Nat} {xs : List U} (e : h.lst i = some xs) : i < h.n ∧ ∃ vs, H (ι i) = some (.lst vs) ∧ RUs W ι h.n H xs vs := by
  have e' := MH.lst_get e
  obtain ⟨u, h1, h2⟩ := R.at_ i _ e'
  cases h2 with
  | lst r => exact ⟨(MH.get_lt e').1, _, h1, r⟩
end
theorem RUs.len {W : Wd} {ι : Nat → Addr} {n : Nat} {H : Hp} : ∀ {us : List U} {vs : List V}, RUs W ι n H us vs → us.length = vs.length
  | _, _, .nil => rfl
  | _, _, .cons _ r => congrArg Nat.succ r.len
theorem RUs.append {W : Wd} {ι : Nat → Addr} {n : Nat} {H : Hp} : ∀ {us us' : List U} {vs vs' : List V}, RUs W ι n H us vs → RUs W ι n H us' vs' → RUs W ι n H (us ++ us') (vs ++ vs')
  | _, _, _, _, .nil, s => s
  | _, _, _, _, .cons a r, s => .cons a (r.append s)
theorem RUs.nth {W : Wd} {ι : Nat → Addr} {n : Nat} {H : Hp} : ∀ {us : List U} {vs : List V} {i : Nat} {u : U}, RUs W ι n H us vs → Se.nth us i = some u → ∃ v, vs[i]? = some v ∧ RU W ι n H u v
  | _, _, _, _, .nil, e => nomatch e
  | _, _, 0, _, .cons a r, e => by
    cases e
    exact ⟨_, rfl, a⟩
  | _, _, i + 1, _, .cons a r, e => by
    obtain ⟨v, h1, h2⟩ := RUs.nth (i := i) r e
    exact ⟨v, by simpa using h1, h2⟩
theorem nth_none {W : Wd} {ι : Nat → Addr} {n : Nat} {H : Hp} : ∀ {us : List U} {vs : List V} {i : Nat}, RUs W ι n H us vs → Se.nth us i = none → vs.length ≤ i
  | _, _, _, .nil, e => Nat.zero_le _
  | _, _, 0, .cons a r, e => nomatch e
  | _, _, i + 1, .cons a r, e => Nat.succ_le_succ (nth_none (i := i) r e)

/-! ### slots -/
structure RS (W : Wd) (ι : Nat → Addr) (n : Nat) (H : Hp) (σ0 : L2.St) (us : Env) (σ : L2.St) : Prop where
  len : us.length = σ.length
  len0 : σ0.length = σ.length
  some_ : ∀ i u, getV us i = some u → ∃ v, σ[i]? = some (some v) ∧ RU W ι n H u v
  none_ : ∀ i, getV us i = none → σ[i]? = σ0[i]?
theorem RS.mono {W : Wd} {ι ι' : Nat → Addr} {n n' : Nat} {H H' : Hp} {σ0 σ : L2.St} {us : Env} (s : RS W ι n H σ0 us σ) (x : Ext ι n H ι' n' H') (mu : ∀ i, i < n → ∃ o, H (ι i) = some o ∧ Mut (some o)) : RS W ι' n' H' σ0 us σ :=
  ⟨s.len, s.len0, fun i u e => by
    obtain ⟨v, h1, h2⟩ := s.some_ i u e
    exact ⟨v, h1, h2.mono x mu⟩, s.none_⟩
theorem getV_lt : ∀ {us : Env} {i : Nat} {u : U}, getV us i = some u → i < us.length
  | _ :: _, 0, _, _ => Nat.succ_pos _
  | _ :: r, i + 1, _, e => Nat.succ_lt_succ (getV_lt (us := r) e)
theorem setV_len : ∀ {us : Env} {i : Nat} {u : U}, (setV us i u).length = us.length
  | [], _, _ => rfl
  | _ :: _, 0, _ => rfl
  | _ :: r, i + 1, u => congrArg Nat.succ (setV_len (us := r))
theorem getV_setV : ∀ {us : Env} {i j : Nat} {u : U}, getV (setV us i u) j = if j = i ∧ i < us.length then some u else getV us j
  | [], i, j, u => by
    rw [if_neg (fun q => absurd q.2 (Nat.not_lt_zero _))]
    rfl
  | _ :: _, 0, 0, u => by
    rw [if_pos ⟨rfl, Nat.succ_pos _⟩]
    rfl
  | _ :: _, 0, j + 1, u => by
    rw [if_neg (fun q => absurd q.1 (Nat.succ_ne_zero _))]
    rfl
  | x :: r, i + 1, 0, u => by
    rw [if_neg (fun q => absurd q.1.symm (Nat.succ_ne_zero _))]
    rfl
  | x :: r, i + 1, j + 1, u => by
    show getV (setV r i u) j = _
    rw [getV_setV]
    show _ = if j + 1 = i + 1 ∧ i + 1 < r.length + 1 then some u else getV r j
    by_cases q : j = i ∧ i < r.length
    · rw [if_pos q, if_pos ⟨by omega, by omega⟩]
    · rw [if_neg q, if_neg (fun z => q ⟨by omega, by omega⟩)]
theorem RS.set {W : Wd} {ι : Nat → Addr} {n : Nat} {H : Hp} {σ0 σ : L2.St} {us : Env} (s : RS W ι n H σ0 us σ) {i : Nat} {u : U} {v : V} (r : RU W ι n H u v) : RS W ι n H σ0 (setV us i u) (σ.set i (some v)) := by
  refine ⟨by rw [setV_len, List.length_set]; exact s.len, by rw [List.length_set]; exact s.len0, fun j w e => ?_, fun j e => ?_⟩
  · rw [getV_setV] at e
    by_cases q : j = i ∧ i < us.length
    · rw [if_pos q] at e
      cases e
      rw [q.1, List.getElem?_set_self (by rw [← s.len]; exact q.2)]
      exact ⟨v, rfl, r⟩
    · rw [if_neg q] at e
      obtain ⟨v', h1, h2⟩ := s.some_ j w e
      have hj := getV_lt e
      have ne : i ≠ j := fun z => q ⟨z.symm, by rw [z]; exact hj⟩
      rw [List.getElem?_set_ne ne]
      exact ⟨v', h1, h2⟩
  · rw [getV_setV] at e
    by_cases q : j = i ∧ i < us.length
    · rw [if_pos q] at e
      cases e
    · rw [if_neg q] at e
      by_cases z : i = j
      · have hl : ¬ i < us.length := fun hl => q ⟨z.symm, hl⟩
        rw [List.set_eq_of_length_le (by rw [← s.len]; omega)]
        exact s.none_ j e
      · rw [List.getElem?_set_ne z]
        exact s.none_ j e
end Se
set_option Elab.async false
set_option linter.all false
set_option maxRecDepth 100000
/-! Se over the hand layer: expressions. -/
namespace Se
open PySem PySem.Spec
open PyProof.Rows L2

structure XOk (W : Wd) (d : Nat) (X : Cx) : Prop where
  prog : X.prog = W.prog
  w : X.w = W.w
  K : X.K = W.K
  mg : X.mg = W.mg
  base : X.base = W.base
  xe : X.xe = fun _ _ => False
  calm : X.calm = true
  nd : X.N.Nodup
  room : Room d X.A
theorem XOk.blk {W : Wd} {d : Nat} {X : Cx} (ok : XOk W d X) (s : Shared) (H : Hp) (scope : Scope) (cenv : PySem.Env) (fp : List Addr) : XOk W d (X.blk s H scope cenv fp) :=
  ⟨ok.prog, ok.w, ok.K, ok.mg, ok.base, rfl, ok.calm, ok.nd, ok.room⟩
theorem XOk.units {W : Wd} {d : Nat} {X : Cx} (ok : XOk W d X) : X.A.units + 64 < cLine := ok.room.units

theorem PE.imp {X : Cx} {e : Expr} {t t' : TE} (h : PE X e t) (k : ∀ σ H Q, t' σ H Q → t σ H Q) : PE X e t' := ⟨fun pins s σ H Q I q => h.run pins s σ H Q I (k _ _ _ q)⟩
theorem PT.imp {X : Cx} {e : Expr} {t t' : TT} (h : PT X e t) (k : ∀ σ H Q, t' σ H Q → t σ H Q) : PT X e t' := ⟨fun pins s σ H Q I q => h.run pins s σ H Q I (k _ _ _ q)⟩
theorem PA.imp {X : Cx} {e : List Expr} {t t' : TA} (h : PA X e t) (k : ∀ σ H Q, t' σ H Q → t σ H Q) : PA X e t' := ⟨fun pos pins s σ H Q I q => h.run pos pins s σ H Q I (k _ _ _ q)⟩
theorem PS.imp {X : Cx} {e : Stmt} {t t' : TS} (h : PS X e t) (k : ∀ D σ H, t' D σ H → t D σ H) : PS X e t' := ⟨fun pins s σ H D I q => h.run pins s σ H D I (k _ _ _ q)⟩
theorem PSs.imp {X : Cx} {e : List Stmt} {t t' : TS} (h : PSs X e t) (k : ∀ D σ H, t' D σ H → t D σ H) : PSs X e t' := ⟨fun pins s σ H D I q => h.run pins s σ H D I (k _ _ _ q)⟩
theorem PG.imp {X : Cx} {e : Expr} {t t' : TG} (h : PG X e t) (k : ∀ v σ H Q, t' v σ H Q → t v σ H Q) : PG X e t' := ⟨fun pins s σ H v u Q I r q => h.run pins s σ H v u Q I r (k _ _ _ _ q)⟩
theorem PGs.imp {X : Cx} {e : List Expr} {t t' : TGs} (h : PGs X e t) (k : ∀ v σ H Q, t' v σ H Q → t v σ H Q) : PGs X e t' := ⟨fun pins s σ H v u Q I r q => h.run pins s σ H v u Q I r (k _ _ _ _ q)⟩
theorem PI.imp {X : Cx} {tg e : Expr} {t t' : TI} (h : PI X tg e t) (k : ∀ σ H Q, t' σ H Q → t σ H Q) : PI X tg e t' := ⟨fun pins s σ H Q I q => h.run pins s σ H Q I (k _ _ _ q)⟩

/-! ### what the small evaluator's answers say of the layer -/
/-- from here the small heap h stands for H by ι -/
def Fin (W : Wd) (ι : Nat → Addr) (h : MH) (H : Hp) (h' : MH) (u : U) (Q : VK) : Prop :=
  ∀ ι' v H', Rep W ι' h' H' → Ext ι h.n H ι' h'.n H' → RU W ι' h'.n H' u v → Q v H'
def tE (W : Wd) (f : Env → MH → Option (U × MH)) : TE := fun σ H Q => ∃ ι us h σ0, Rep W ι h H ∧ RS W ι h.n H σ0 us σ ∧ ∃ u h', f us h = some (u, h') ∧ Fin W ι h H h' u Q
def tT (W : Wd) (f : Env → MH → Option (Bool × MH)) : TT := fun σ H Q => ∃ ι us h σ0, Rep W ι h H ∧ RS W ι h.n H σ0 us σ ∧ ∃ b h', f us h = some (b, h') ∧
  ∀ ι' H', Rep W ι' h' H' → Ext ι h.n H ι' h'.n H' → Q b H'
def tA (W : Wd) (f : Env → MH → Option (List U × MH)) : TA := fun σ H Q => ∃ ι us h σ0, Rep W ι h H ∧ RS W ι h.n H σ0 us σ ∧ ∃ xs h', f us h = some (xs, h') ∧
  ∀ ι' vs H', Rep W ι' h' H' → Ext ι h.n H ι' h'.n H' → RUs W ι' h'.n H' xs vs → Q vs H'
section
variable {W : Wd} {X : Cx} {d : Nat} {Γ : Bd}
theorem pe_no {e : Expr} {f : Env → MH → Option (U × MH)} (hf : ∀ us h, f us h = none) : PE X e (tE W f) := ⟨fun pins s σ H Q I q => by
  obtain ⟨_, us, h, _, _, _, u, h', e, _⟩ := q
  rw [hf] at e
  cases e⟩
/-- a constant -/
theorem se_con {e : Expr} {v : V} {u : U} (h : PE X e (tC v)) (r : ∀ ι n H, RU W ι n H u v) : PE X e (tE W fun us h => some (u, h)) :=
  PE.imp h fun σ H Q ⟨ι, us, h, σ0, R, S, u', h', e, k⟩ => by
    cases e
    exact k ι v H R Ext.refl (r _ _ _)
theorem se_var {e : Expr} {i : Nat} (h : PE X e (tVar i)) : PE X e (tE W fun us h => match getV us i with
    | none => none
    | some u => some (u, h)) :=
  PE.imp h fun σ H Q ⟨ι, us, h, σ0, R, S, u', h', e, k⟩ => by
    cases q : getV us i with
    | none => simp only [q] at e; cases e
    | some u =>
      simp only [q] at e
      cases e
      obtain ⟨v, h1, h2⟩ := S.some_ i _ q
      exact ⟨v, h1, k ι v H R Ext.refl h2⟩
/-- two in a row -/
theorem two {fa fb : Env → MH → Option (U × MH)} {σ : L2.St} {H : Hp} {ι : Nat → Addr} {us : Env} {h : MH} {σ0 : L2.St} (R : Rep W ι h H) (S : RS W ι h.n H σ0 us σ) {x y : U} {h1 h2 : MH} (e1 : fa us h = some (x, h1)) (e2 : fb us h1 = some (y, h2)) {P : V → V → Hp → Prop}
    (k : ∀ ι2 v w H2, Rep W ι2 h2 H2 → Ext ι h.n H ι2 h2.n H2 → RU W ι2 h2.n H2 x v → RU W ι2 h2.n H2 y w → P v w H2) :
    tE W fa σ H fun v H1 => tE W fb σ H1 fun w H2 => P v w H2 :=
  ⟨ι, us, h, σ0, R, S, x, h1, e1, fun ι1 v H1 R1 X1 r1 => ⟨ι1, us, h1, σ0, R1, S.mono X1 R.mu, y, h2, e2, fun ι2 w H2 R2 X2 r2 => k ι2 v w H2 R2 (X1.trans X2) (R1.ext X2 r1) r2⟩⟩
/-- a two-place operation by values: f gives the answer, r is the layer's reading of it -/
def Op2 (W : Wd) (f : U → U → MH → Option (U × MH)) (r : R2) : Prop := ∀ x y h u h', f x y h = some (u, h') → ∀ ι v w H Q, Rep W ι h H → RU W ι h.n H x v → RU W ι h.n H y w → Fin W ι h H h' u Q → r v w H Q
theorem Fin.of {ι ι2 : Nat → Addr} {h h2 h' : MH} {H H2 : Hp} {u : U} {Q : VK} (k : Fin W ι h H h' u Q) (x : Ext ι h.n H ι2 h2.n H2) : Fin W ι2 h2 H2 h' u Q := fun ι' v H' R' X' r => k ι' v H' R' (x.trans X') r
def f2 (f : U → U → MH → Option (U × MH)) (fa fb : Env → MH → Option (U × MH)) : Env → MH → Option (U × MH) := fun us h => match fa us h with
  | none => none
  | some (x, h1) => match fb us h1 with
    | none => none
    | some (y, h2) => f x y h2
theorem f2_some {f : U → U → MH → Option (U × MH)} {fa fb : Env → MH → Option (U × MH)} {us : Env} {h : MH} {o : U × MH} (e : f2 f fa fb us h = some o) : ∃ x h1 y h2, fa us h = some (x, h1) ∧ fb us h1 = some (y, h2) ∧ f x y h2 = some o := by
  unfold f2 at e
  cases q : fa us h with
  | none => simp only [q] at e; cases e
  | some p =>
    obtain ⟨x, h1⟩ := p
    simp only [q] at e
    cases q2 : fb us h1 with
    | none => simp only [q2] at e; cases e
    | some p =>
      obtain ⟨y, h2⟩ := p
      simp only [q2] at e
      exact ⟨x, h1, y, h2, rfl, q2, e⟩
theorem se_op2 {e : Expr} {f : U → U → MH → Option (U × MH)} {r : R2} {fa fb : Env → MH → Option (U × MH)} (h : PE X e (tOp r (tE W fa) (tE W fb))) (o : Op2 W f r) : PE X e (tE W (f2 f fa fb)) :=
  PE.imp h fun σ H Q ⟨ι, us, h, σ0, R, S, u, h', e, k⟩ => by
    obtain ⟨x, h1, y, h2, e1, e2, e3⟩ := f2_some e
    exact two R S e1 e2 (P := fun v w H2 => r v w H2 Q) fun ι2 v w H2 R2 X2 r1 r2 => o x y h2 u h' e3 ι2 v w H2 Q R2 r1 r2 (k.of X2)

theorem small_le {xs : List U} (h : small xs = true) : xs.length ≤ 1000000 := Nat.le_of_ble_eq_true h
theorem line_ge : 1000001 ≤ sizeLine := by rw [sizeLine_eq]; decide
theorem small_line {n : Nat} (h : n ≤ 1000000) : n < sizeLine := Nat.lt_of_le_of_lt h line_ge
end


section
variable {W : Wd} {ι : Nat → Addr} {h h' : MH} {H : Hp} {Q : VK}
/-- a tuple that stands, or is laid at a free place -/
theorem fin_tup (R : Rep W ι h H) {us : List U} {vs : List V} {a : Addr} (k : Fin W ι h H h (.tup us) Q) (s : SqT W.K H a vs) (q : RUs W ι h.n H us vs) : Q (.ref a) H := k ι _ H R Ext.refl (.tup s q)
theorem fin_newTup (R : Rep W ι h H) {us : List U} {vs : List V} (k : Fin W ι h H h (.tup us) Q) (q : RUs W ι h.n H us vs) {p : Addr} (np : H p = none) : Q (.ref p) (L2.upd H p (.tup vs)) := by
  obtain ⟨R', X'⟩ := R.tup np (u := .tup vs)
  exact k ι _ _ R' X' (.tup (SqT.of upd_same) (R.exts X' q))
theorem fin_new (R : Rep W ι h H) {o : MO} {u : HO} (k : Fin W ι h H (h.new o) (.ref h.n) Q) (r : ROb W ι h.n H o u) {p : Addr} (np : H p = none) : Q (.ref p) (L2.upd H p u) := by
  obtain ⟨R', X'⟩ := R.new np r
  have q := k _ (.ref (put1 ι h.n p h.n)) _ R' X' (.ref (Nat.lt_succ_self _))
  rw [put1_same] at q
  exact q
theorem fin_upd (R : Rep W ι h H) {i : Nat} (hi : i < h.n) {o : MO} {u : HO} {x : U} {v : V} (k : Fin W ι h H (h.upd i o) x Q) (r : ROb W ι h.n H o u) (rx : RU W ι h.n H x v) : Q v (L2.upd H (ι i) u) := by
  obtain ⟨R', X'⟩ := R.upd hi r
  exact k ι v _ R' X' (R.ext X' rx)
theorem fin_now (R : Rep W ι h H) {x : U} {v : V} (k : Fin W ι h H h x Q) (r : RU W ι h.n H x v) : Q v H := k ι v H R Ext.refl r
theorem RU.ref_lst (R : Rep W ι h H) {i : Nat} {xs : List U} (e : h.lst i = some xs) {v : V} (r : RU W ι h.n H (.ref i) v) : ∃ vs, v = .ref (ι i) ∧ H (ι i) = some (.lst vs) ∧ RUs W ι h.n H xs vs := by
  obtain ⟨_, vs, h1, h2⟩ := R.lst e
  cases r
  exact ⟨vs, rfl, h1, h2⟩
end
/-! ### + - * -/
section
variable {W : Wd} {Γ : Bd} (G : Γ.ok W.θ)
theorem RU.ints {W : Wd} {ι : Nat → Addr} {n : Nat} {H : Hp} {a : SI} {v : V} (r : RU W ι n H (.int a) v) : v = .int (a.ev W.θ) := by
  cases r
  rfl
def rAddA (K : PySem.W.Frag) : R2 := fun x y H Q => (rI0 (fun i j => .int (i + j)) x y H Q ∨ rCatA K x y H Q) ∨ rCat x y H Q
theorem op_addA {X : Cx} : OpR X (binaryOp .Add) (rAddA X.K) := (op_add.or op_catA).or op_cat
theorem RUs.nil_l {ι : Nat → Addr} {n : Nat} {H : Hp} {vs : List V} (r : RUs W ι n H [] vs) : vs = [] := by cases r; rfl
theorem add_ok : Op2 W (binop Γ .add) (rAddA W.K) := by
  intro x y h u h' e ι v w H Q R r1 r2 k
  cases x with
  | int a => cases y with
    | int b =>
      have e1 : some (U.int (a.add b), h) = some (u, h') := e
      cases e1
      rw [r1.ints, r2.ints]
      refine .inl (.inl ⟨_, _, rfl, rfl, fin_now R k ?_⟩)
      dsimp only
      rw [← ev_add]
      exact .int _
    | _ => cases e
  | tup us1 => cases y with
    | tup us2 =>
      have e1 : (match small (us1 ++ us2) with | true => some (U.tup (us1 ++ us2), h) | false => none) = some (u, h') := e
      cases z : small (us1 ++ us2) with
      | false => rw [z] at e1; cases e1
      | true =>
        rw [z] at e1
        cases e1
        cases r1 with
        | @tup _ vs1 a1 s1 q1 =>
          cases r2 with
          | @tup _ vs2 a2 s2 q2 =>
            have l := small_le z
            rw [List.length_append, q1.len, q2.len] at l
            refine .inl (.inr ⟨_, _, _, _, rfl, rfl, s1, s2, Nat.le_of_lt (small_line l), fun z1 => ?_, fun z1 z2 => ?_, fun z1 z2 p np => ?_⟩)
            · subst z1
              exact fin_tup R k s2 (q1.append q2)
            · subst z2
              have q := q1.append q2
              rw [List.append_nil] at q
              exact fin_tup R k s1 q
            · exact fin_newTup R k (q1.append q2) np
    | _ => cases e
  | ref i => cases y with
    | ref j =>
      have e1 : (match h.lst i with
        | none => none
        | some xs => match h.lst j with
          | none => none
          | some ys => match small (xs ++ ys) with
            | true => some (U.ref h.n, h.new (.lst (xs ++ ys)))
            | false => none) = some (u, h') := e
      cases z1 : h.lst i with
      | none => simp only [z1] at e1; cases e1
      | some xs =>
        cases z2 : h.lst j with
        | none => simp only [z1, z2] at e1; cases e1
        | some ys =>
          cases z : small (xs ++ ys) with
          | false => simp only [z1, z2, z] at e1; cases e1
          | true =>
            simp only [z1, z2, z] at e1
            cases e1
            obtain ⟨vs1, rfl, s1, q1⟩ := r1.ref_lst R z1
            obtain ⟨vs2, rfl, s2, q2⟩ := r2.ref_lst R z2
            have l := small_le z
            rw [List.length_append, q1.len, q2.len] at l
            exact .inr ⟨_, _, _, _, rfl, rfl, s1, s2, Nat.le_of_lt (small_line l), fun p np => fin_new R k (.lst (q1.append q2)) np⟩
    | _ => cases e
  | _ => cases y <;> cases e
theorem sub_ok : Op2 W (binop Γ .sub) (rI0 fun i j => .int (i - j)) := by
  intro x y h u h' e ι v w H Q R r1 r2 k
  cases x with
  | int a => cases y with
    | int b =>
      have e1 : some (U.int (a.sub b), h) = some (u, h') := e
      cases e1
      rw [r1.ints, r2.ints]
      refine ⟨_, _, rfl, rfl, fin_now R k ?_⟩
      dsimp only
      rw [← ev_sub]
      exact .int _
    | _ => cases e
  | _ => cases y <;> cases e
def rMulA : R2 := fun x y H Q => rI CMul (fun i j => .int (i * j)) x y H Q ∨ rRep x y H Q
theorem op_mulA {X : Cx} : OpR X (binaryOp .Mult) rMulA := op_mul.or op_rep
theorem RUs.rep {ι : Nat → Addr} {n : Nat} {H : Hp} {us : List U} {vs : List V} (r : RUs W ι n H us vs) : ∀ k : Nat, RUs W ι n H (List.replicate k us).flatten (List.replicate k vs).flatten
  | 0 => .nil
  | k + 1 => by
    simp only [List.replicate_succ, List.flatten_cons]
    exact r.append (RUs.rep r k)
include G in
theorem mul_ok : Op2 W (binop Γ .mul) rMulA := by
  intro x y h u h' e ι v w H Q R r1 r2 k
  cases x with
  | int a => cases y with
    | int b =>
      have e1 : (match SI.le Γ a (.lit 1000000000000000000), SI.le Γ (.lit (-1000000000000000000)) a with
        | some true, some true => some (U.int (a.mul b), h)
        | _, _ => none) = some (u, h') := e
      cases z1 : SI.le Γ a (.lit 1000000000000000000) with
      | none => simp only [z1] at e1; cases e1
      | some k1 =>
        cases z2 : SI.le Γ (.lit (-1000000000000000000)) a with
        | none => cases k1 <;> (simp only [z1, z2] at e1; cases e1)
        | some k2 =>
          cases k1 with
          | false => simp only [z1, z2] at e1; cases e1
          | true =>
            cases k2 with
            | false => simp only [z1, z2] at e1; cases e1
            | true =>
              simp only [z1, z2] at e1
              cases e1
              rw [r1.ints, r2.ints]
              have b1 := of_decide_eq_true (le_ok G z1).symm
              have b2 := of_decide_eq_true (le_ok G z2).symm
              have b1 : a.ev W.θ ≤ 1000000000000000000 := b1
              have b2 : -1000000000000000000 ≤ a.ev W.θ := b2
              refine .inl ⟨_, _, rfl, rfl, .inl ⟨by omega, by omega⟩, fin_now R k ?_⟩
              dsimp only
              rw [← ev_mul]
              exact .int _
    | _ => cases e
  | ref i => cases y with
    | int b => cases b with
      | lit n =>
        have e1 : (match h.lst i with
          | none => none
          | some xs => match decide (0 ≤ n ∧ n ≤ 1000) with
            | true => match small (List.replicate n.toNat xs).flatten with
              | true => some (U.ref h.n, h.new (.lst (List.replicate n.toNat xs).flatten))
              | false => none
            | false => none) = some (u, h') := e
        cases z1 : h.lst i with
        | none => simp only [z1] at e1; cases e1
        | some xs =>
          cases z2 : decide (0 ≤ n ∧ n ≤ 1000) with
          | false => simp only [z1, z2] at e1; cases e1
          | true =>
            cases z3 : small (List.replicate n.toNat xs).flatten with
            | false => simp only [z1, z2, z3] at e1; cases e1
            | true =>
              simp only [z1, z2, z3] at e1
              cases e1
              obtain ⟨vs1, rfl, s1, q1⟩ := r1.ref_lst R z1
              rw [r2.ints]
              have b1 := of_decide_eq_true z2
              have l := small_le z3
              have l2 : (List.replicate n.toNat xs).flatten.length = vs1.length * n.toNat := by
                rw [(q1.rep n.toNat).len]
                simp [Nat.mul_comm]
              rw [l2] at l
              refine .inr ⟨_, _, _, rfl, rfl, s1, by show -(2 ^ 63) ≤ n; omega, by show n < 2 ^ 63; omega, Nat.le_of_lt (small_line l), fun p np => ?_⟩
              exact fin_new R k (.lst (q1.rep n.toNat)) np
      | pol c ms => cases e
    | _ => cases e
  | _ => cases y <;> cases e
end
end Se
set_option Elab.async false
set_option linter.all false
set_option maxRecDepth 100000
/-! Se over the hand layer: comparisons. -/
namespace Se
open PySem PySem.Spec
open PyProof.Rows L2

/-! ### data -/
def toDL (f : U → Option PyData) : List U → Option (List PyData)
  | [] => some []
  | x :: r => match f x with
    | none => none
    | some d => match toDL f r with
      | none => none
      | some ds => some (d :: ds)
def toD (θ : Nat → Int) (h : MH) : Nat → U → Option PyData
  | 0, _ => none
  | n + 1, .non => some .none
  | n + 1, .bl b => some (.bool b)
  | n + 1, .int a => some (.int (a.ev θ))
  | n + 1, .str z => some (.str (strV z))
  | n + 1, .tup xs => (toDL (toD θ h n) xs).map .tuple
  | n + 1, .ref i => match h.lst i with
    | none => none
    | some xs => (toDL (toD θ h n) xs).map .list
theorem datL_some {f : U → Bool} {g : U → Option PyData} (k : ∀ u, f u = true → ∃ d, g u = some d) : ∀ {xs : List U}, datL f xs = true → ∃ ds, toDL g xs = some ds
  | [], _ => ⟨[], rfl⟩
  | x :: r, e => by
    have e1 : (match f x with | true => datL f r | false => false) = true := e
    cases z : f x with
    | false => rw [z] at e1; cases e1
    | true =>
      rw [z] at e1
      obtain ⟨d, hd⟩ := k x z
      obtain ⟨ds, hds⟩ := datL_some k (xs := r) e1
      exact ⟨d :: ds, by simp only [toDL, hd, hds]⟩
theorem dat_some {θ : Nat → Int} {h : MH} : ∀ {n : Nat} {u : U}, dat h n u = true → ∃ d, toD θ h n u = some d
  | 0, _, e => nomatch e
  | n + 1, .non, _ => ⟨_, rfl⟩
  | n + 1, .bl _, _ => ⟨_, rfl⟩
  | n + 1, .int _, _ => ⟨_, rfl⟩
  | n + 1, .str _, _ => ⟨_, rfl⟩
  | n + 1, .tup xs, e => by
    obtain ⟨ds, q⟩ := datL_some (g := toD θ h n) (fun u z => dat_some z) (show datL (dat h n) xs = true from e)
    exact ⟨.tuple ds, by simp only [toD, q, Option.map_some]⟩
  | n + 1, .ref i, e => by
    have e1 : (match h.lst i with | none => false | some xs => datL (dat h n) xs) = true := e
    cases z : h.lst i with
    | none => rw [z] at e1; cases e1
    | some xs =>
      rw [z] at e1
      obtain ⟨ds, q⟩ := datL_some (g := toD θ h n) (fun u z => dat_some z) e1
      exact ⟨.list ds, by simp only [toD, z, q, Option.map_some]⟩
section
variable {W : Wd} {ι : Nat → Addr} {h : MH} {H : Hp} (R : Rep W ι h H)
def DOk (K : PySem.W.Frag) (H : Hp) (n : Nat) (v : V) (d : PyData) : Prop := Dp K H v d ∧ d.canLay0 = true ∧ d.depth ≤ n
theorem toDL_ok {n : Nat} (k : ∀ u d v, toD W.θ h n u = some d → RU W ι h.n H u v → DOk W.K H n v d) : ∀ {xs : List U} {ds : List PyData} {vs : List V}, toDL (toD W.θ h n) xs = some ds → RUs W ι h.n H xs vs →
    DpAll W.K H vs ds ∧ PyData.canLayAll0 ds = true ∧ PyData.depthAll ds ≤ n
  | [], ds, vs, e, r => by
    cases e
    cases r
    exact ⟨.nil, by simp [PyData.canLayAll0], by simp [PyData.depthAll]⟩
  | x :: xs, ds, vs, e, r => by
    cases r with
    | cons r rr =>
      simp only [toDL] at e
      cases z : toD W.θ h n x with
      | none => simp only [z] at e; cases e
      | some d =>
        cases z2 : toDL (toD W.θ h n) xs with
        | none => simp only [z, z2] at e; cases e
        | some ds =>
          simp only [z, z2] at e
          cases e
          obtain ⟨a1, a2, a3⟩ := k _ _ _ z r
          obtain ⟨b1, b2, b3⟩ := toDL_ok k z2 rr
          refine ⟨.cons a1 b1, by simp only [PyData.canLayAll0, a2, b2, Bool.and_self], ?_⟩
          simp only [PyData.depthAll]
          omega
include R in
theorem toD_ok : ∀ {n : Nat} (u : U) (d : PyData) (v : V), toD W.θ h n u = some d → RU W ι h.n H u v → DOk W.K H n v d
  | 0, _, _, _, e, _ => nomatch e
  | n + 1, .non, d, v, e, r => by
    cases e
    cases r
    exact ⟨.non, by simp [PyData.canLay0], by simp [PyData.depth]⟩
  | n + 1, .bl b, d, v, e, r => by
    cases e
    cases r
    exact ⟨.bl b, by simp [PyData.canLay0], by simp [PyData.depth]⟩
  | n + 1, .int a, d, v, e, r => by
    cases e
    cases r
    exact ⟨.int _, by simp [PyData.canLay0], by simp [PyData.depth]⟩
  | n + 1, .str z, d, v, e, r => by
    cases e
    cases r with
    | str z hz => exact ⟨.str _, by simpa [PyData.canLay0] using hz, by simp [PyData.depth]⟩
  | n + 1, .tup xs, d, v, e, r => by
    cases r with
    | tup s q =>
      simp only [toD] at e
      cases z : toDL (toD W.θ h n) xs with
      | none => rw [z] at e; cases e
      | some ds =>
        rw [z] at e
        cases e
        obtain ⟨a1, a2, a3⟩ := toDL_ok (fun u d v => toD_ok u d v) z q
        exact ⟨.tup s a1, by simpa [PyData.canLay0] using a2, by simp only [PyData.depth]; omega⟩
  | n + 1, .ref i, d, v, e, r => by
    simp only [toD] at e
    cases z0 : h.lst i with
    | none => simp only [z0] at e; cases e
    | some xs =>
      simp only [z0] at e
      obtain ⟨vs, rfl, s, q⟩ := r.ref_lst R z0
      cases z : toDL (toD W.θ h n) xs with
      | none => rw [z] at e; cases e
      | some ds =>
        rw [z] at e
        cases e
        obtain ⟨a1, a2, a3⟩ := toDL_ok (fun u d v => toD_ok u d v) z q
        exact ⟨.lst (SqL.of s) a1, by simpa [PyData.canLay0] using a2, by simp only [PyData.depth]; omega⟩
end
section
variable {Γ : Bd} {θ : Nat → Int} (G : Γ.ok θ) {h : MH}
theorem strV_eq {a b : List Nat} : (strV a == strV b) = eqN a b := by
  rw [eqN_iff]
  by_cases q : a = b
  · rw [q]
    simp
  · have q2 : strV a ≠ strV b := fun z => q (by
      have z1 : a.toArray = b.toArray := congrArg Str.cps z
      simpa using congrArg Array.toList z1)
    rw [decide_eq_false q]
    exact beq_eq_false_iff_ne.mpr q2
theorem ueqL_ok {n : Nat} (k : ∀ a b d e r, toD θ h n a = some d → toD θ h n b = some e → ueq Γ h n a b = some r → PyData.eqv d e = r) :
    ∀ {xs ys : List U} {ds es : List PyData} {r : Bool}, toDL (toD θ h n) xs = some ds → toDL (toD θ h n) ys = some es → ueqL (ueq Γ h n) xs ys = some r → PyData.eqvAll ds es = r
  | [], [], ds, es, r, e1, e2, e3 => by
    cases e1
    cases e2
    cases e3
    simp [PyData.eqvAll]
  | [], y :: ys, ds, es, r, e1, e2, e3 => by
    cases e1
    cases e3
    simp only [toDL] at e2
    cases z : toD θ h n y with
    | none => simp only [z] at e2; cases e2
    | some d =>
      cases z2 : toDL (toD θ h n) ys with
      | none => simp only [z, z2] at e2; cases e2
      | some ds =>
        simp only [z, z2] at e2
        cases e2
        simp [PyData.eqvAll]
  | x :: xs, [], ds, es, r, e1, e2, e3 => by
    cases e2
    cases e3
    simp only [toDL] at e1
    cases z : toD θ h n x with
    | none => simp only [z] at e1; cases e1
    | some d =>
      cases z2 : toDL (toD θ h n) xs with
      | none => simp only [z, z2] at e1; cases e1
      | some ds =>
        simp only [z, z2] at e1
        cases e1
        simp [PyData.eqvAll]
  | x :: xs, y :: ys, ds, es, r, e1, e2, e3 => by
    simp only [toDL] at e1 e2
    cases z : toD θ h n x with
    | none => simp only [z] at e1; cases e1
    | some d =>
      cases z2 : toDL (toD θ h n) xs with
      | none => simp only [z, z2] at e1; cases e1
      | some ds =>
        simp only [z, z2] at e1
        cases e1
        cases w : toD θ h n y with
        | none => simp only [w] at e2; cases e2
        | some d' =>
          cases w2 : toDL (toD θ h n) ys with
          | none => simp only [w, w2] at e2; cases e2
          | some ds' =>
            simp only [w, w2] at e2
            cases e2
            simp only [ueqL] at e3
            cases q : ueq Γ h n x y with
            | none => simp only [q] at e3; cases e3
            | some b =>
              have kb := k _ _ _ _ _ z w q
              cases b with
              | false =>
                simp only [q] at e3
                cases e3
                simp [PyData.eqvAll, kb]
              | true =>
                simp only [q] at e3
                have kk := ueqL_ok k z2 w2 e3
                simp [PyData.eqvAll, kb, kk]
include G in
theorem ueq_ok : ∀ {n : Nat} (a b : U) (d e : PyData) (r : Bool), toD θ h n a = some d → toD θ h n b = some e → ueq Γ h n a b = some r → PyData.eqv d e = r
  | 0, _, _, _, _, _, e1, _, _ => nomatch e1
  | n + 1, a, b, d, e, r, e1, e2, e3 => by
    cases a with
    | non => cases b with
      | ref j => cases e3
      | tup ys => cases e3
      | _ => cases e1; cases e2; cases e3; simp [PyData.eqv]
    | bl x => cases b with
      | ref j => cases e3
      | tup ys => cases e3
      | int y => cases e3
      | _ => cases e1; cases e2; cases e3; simp [PyData.eqv]
    | int x => cases b with
      | ref j => cases e3
      | tup ys => cases e3
      | bl y => cases e3
      | int y =>
        cases e1
        cases e2
        have q := eq_ok G (show SI.eq Γ x y = some r from e3)
        rw [q]
        simp [PyData.eqv, Bool.beq_eq_decide_eq]
      | _ => cases e1; cases e2; cases e3; simp [PyData.eqv]
    | str x => cases b with
      | ref j => cases e3
      | tup ys => cases e3
      | str y =>
        cases e1
        cases e2
        cases e3
        simp only [PyData.eqv]
        exact strV_eq
      | _ => cases e1; cases e2; cases e3; simp [PyData.eqv]
    | tup xs => cases b with
      | tup ys =>
        simp only [toD] at e1 e2
        cases z : toDL (toD θ h n) xs with
        | none => rw [z] at e1; cases e1
        | some ds =>
          cases w : toDL (toD θ h n) ys with
          | none => rw [w] at e2; cases e2
          | some es =>
            rw [z] at e1
            rw [w] at e2
            cases e1
            cases e2
            have q := ueqL_ok (fun a b d e r => ueq_ok a b d e r) z w (show ueqL (ueq Γ h n) xs ys = some r from e3)
            simpa [PyData.eqv] using q
      | _ => cases e3
    | ref i => cases b with
      | ref j =>
        simp only [toD] at e1 e2
        simp only [ueq] at e3
        cases z0 : h.lst i with
        | none => simp only [z0] at e1; cases e1
        | some xs =>
          cases w0 : h.lst j with
          | none => simp only [w0] at e2; cases e2
          | some ys =>
            simp only [z0] at e1
            simp only [w0] at e2
            simp only [z0, w0] at e3
            cases z : toDL (toD θ h n) xs with
            | none => rw [z] at e1; cases e1
            | some ds =>
              cases w : toDL (toD θ h n) ys with
              | none => rw [w] at e2; cases e2
              | some es =>
                rw [z] at e1
                rw [w] at e2
                cases e1
                cases e2
                have q := ueqL_ok (fun a b d e r => ueq_ok a b d e r) z w e3
                simpa [PyData.eqv] using q
      | _ => cases e3
end

/-! ### comparisons -/
def Cmp2 (W : Wd) (f : U → U → MH → Option Bool) (r : R2) : Prop := ∀ x y h b, f x y h = some b → ∀ ι v w H Q, Rep W ι h H → RU W ι h.n H x v → RU W ι h.n H y w → Q (.bl b) H → r v w H Q
section
variable {W : Wd} {Γ : Bd} (G : Γ.ok W.θ)
theorem shaped_of {d : PyData} (h1 : d.canLay0 = true) (h2 : d.depth ≤ 40) : SeqAt.shaped d = true := by
  unfold SeqAt.shaped
  rw [h1, decide_eq_true (show d.depth ≤ 64 by omega)]
  rfl
include G in
theorem eqOp_ok {h : MH} {x y : U} {b : Bool} (e : eqOp Γ h x y = some b) {ι : Nat → Addr} {v w : V} {H : Hp} (R : Rep W ι h H) (r1 : RU W ι h.n H x v) (r2 : RU W ι h.n H y w) :
    ∃ d e, Dp W.K H v d ∧ Dp W.K H w e ∧ SeqAt.shaped d = true ∧ SeqAt.shaped e = true ∧ PyData.eqv d e = b := by
  unfold eqOp at e
  cases z1 : dat h 40 x with
  | false => simp only [z1] at e; cases e
  | true =>
    cases z2 : dat h 40 y with
    | false => simp only [z1, z2] at e; cases e
    | true =>
      simp only [z1, z2] at e
      obtain ⟨d1, t1⟩ := dat_some (θ := W.θ) z1
      obtain ⟨d2, t2⟩ := dat_some (θ := W.θ) z2
      obtain ⟨a1, a2, a3⟩ := toD_ok R _ _ _ t1 r1
      obtain ⟨b1, b2, b3⟩ := toD_ok R _ _ _ t2 r2
      exact ⟨d1, d2, a1, b1, shaped_of a2 a3, shaped_of b2 b3, ueq_ok G _ _ _ _ _ t1 t2 e⟩
include G in
theorem ceq_ok : Cmp2 W (cmpop Γ .eq) (rEqD W.K) := fun x y h b e ι v w H Q R r1 r2 q => by
  obtain ⟨d1, d2, a1, a2, a3, a4, a5⟩ := eqOp_ok G (show eqOp Γ h x y = some b from e) R r1 r2
  exact ⟨d1, d2, a1, a2, a3, a4, by rw [a5]; exact q⟩
theorem notO_some {o : Option Bool} {b : Bool} (e : notO o = some b) : o = some (!b) := by
  cases o with
  | none => cases e
  | some c =>
    have e1 : some (!c) = some b := e
    cases e1
    rw [Bool.not_not]
include G in
theorem cne_ok : Cmp2 W (cmpop Γ .ne) (rNeD W.K) := fun x y h b e ι v w H Q R r1 r2 q => by
  obtain ⟨d1, d2, a1, a2, a3, a4, a5⟩ := eqOp_ok G (notO_some (show notO (eqOp Γ h x y) = some b from e)) R r1 r2
  exact ⟨d1, d2, a1, a2, a3, a4, by rw [a5, Bool.not_not]; exact q⟩
include G in
theorem clt_ok : Cmp2 W (cmpop Γ .lt) (rI0 fun i j => .bl (decide (i < j))) := fun x y h b e ι v w H Q R r1 r2 q => by
  cases x with
  | int a => cases y with
    | int c =>
      rw [r1.ints, r2.ints]
      exact ⟨_, _, rfl, rfl, by dsimp only; rw [← lt_ok G (show SI.lt Γ a c = some b from e)]; exact q⟩
    | _ => cases e
  | _ => cases y <;> cases e
include G in
theorem cle_ok : Cmp2 W (cmpop Γ .le) (rI0 fun i j => .bl (decide (i ≤ j))) := fun x y h b e ι v w H Q R r1 r2 q => by
  cases x with
  | int a => cases y with
    | int c =>
      rw [r1.ints, r2.ints]
      exact ⟨_, _, rfl, rfl, by dsimp only; rw [← le_ok G (show SI.le Γ a c = some b from e)]; exact q⟩
    | _ => cases e
  | _ => cases y <;> cases e
include G in
theorem cgt_ok : Cmp2 W (cmpop Γ .gt) (rI0 fun i j => .bl (decide (j < i))) := fun x y h b e ι v w H Q R r1 r2 q => by
  cases x with
  | int a => cases y with
    | int c =>
      rw [r1.ints, r2.ints]
      exact ⟨_, _, rfl, rfl, by dsimp only; rw [← lt_ok G (show SI.lt Γ c a = some b from e)]; exact q⟩
    | _ => cases e
  | _ => cases y <;> cases e
include G in
theorem cge_ok : Cmp2 W (cmpop Γ .ge) (rI0 fun i j => .bl (decide (j ≤ i))) := fun x y h b e ι v w H Q R r1 r2 q => by
  cases x with
  | int a => cases y with
    | int c =>
      rw [r1.ints, r2.ints]
      exact ⟨_, _, rfl, rfl, by dsimp only; rw [← le_ok G (show SI.le Γ c a = some b from e)]; exact q⟩
    | _ => cases e
  | _ => cases y <;> cases e
theorem RU.isNon {ι : Nat → Addr} {n : Nat} {H : Hp} {x : U} {v : V} (r : RU W ι n H x v) : decide (v = .non) = isNon x := by
  cases r <;> first | rfl | exact decide_eq_false (fun q => nomatch q)
theorem cisN_ok : Cmp2 W (cmpop Γ .isN) (fun x y H Q => y = .non ∧ Q (.bl (decide (x = .non))) H) := fun x y h b e ι v w H Q R r1 r2 q => by
  cases y with
  | non =>
    cases r2
    have e1 : some (isNon x) = some b := e
    cases e1
    exact ⟨rfl, by rw [r1.isNon]; exact q⟩
  | _ => cases e
theorem cnotN_ok : Cmp2 W (cmpop Γ .notN) (fun x y H Q => y = .non ∧ Q (.bl (!decide (x = .non))) H) := fun x y h b e ι v w H Q R r1 r2 q => by
  cases y with
  | non =>
    cases r2
    have e1 : some (!isNon x) = some b := e
    cases e1
    exact ⟨rfl, by rw [r1.isNon]; exact q⟩
  | _ => cases e
end
end Se
set_option Elab.async false
set_option linter.all false
set_option maxRecDepth 100000
/-! Se over the hand layer: the text's forms, expressions put together. -/
namespace Se
theorem and2 {x y : Bool} (q : (x && y) = true) : x = true ∧ y = true := (Bool.and_eq_true x y) ▸ q
open PySem PySem.Spec
open PyProof.Rows L2

/-! ### what is seen of a text -/
def noStar : Expr → Bool
  | .Starred _ _ => false
  | _ => true
def plainObj : Expr → Bool
  | .Call (.Name _ _) [] [] _ => false
  | _ => true
def noComp : Expr → Bool
  | .ListComp .. => false
  | .SetComp .. => false
  | .DictComp .. => false
  | _ => true
def noTup : Expr → Bool
  | .Tuple .. => false
  | _ => true
def plainTest : Expr → Bool
  | .UnaryOp .Not _ _ => false
  | .BoolOp .. => false
  | .IfExp .. => false
  | .Compare .. => false
  | _ => true
def noSet : Expr → Bool
  | .Set .. => false
  | _ => true
def noSl : Expr → Bool
  | .Slice .. => false
  | _ => true
theorem star_of {e : Expr} (h : noStar e = true) (es : List Expr) (env : PySem.Env) : starEach (e :: es) env = (false, eval e env) :: starEach es env := by
  cases e <;> first | rfl | cases h
theorem stars_of : ∀ {es : List Expr} (h : es.all noStar = true) (env : PySem.Env), starEach es env = es.map fun e => (false, eval e env)
  | [], _, _ => rfl
  | e :: r, h, env => by
    simp only [Bool.and_eq_true, List.all_cons] at h
    rw [star_of h.1, stars_of h.2]
    rfl
theorem back_of {es : List Expr} (h : es.all noStar = true) (env : PySem.Env) (pos : Pos) : backTo pos (starEach es env) = es.map fun e => (false, eval e env) := by
  rw [stars_of h]
  unfold backTo
  rw [List.map_map]
  rfl
theorem backAny_of {es : List Expr} (h : es.all noStar = true) (env : PySem.Env) (pos : Pos) : (backTo pos (starEach es env)).any (·.1) = false := by
  rw [back_of h, List.any_map]
  induction es with
  | nil => rfl
  | cons e r ih =>
    simp only [Bool.and_eq_true, List.all_cons] at h
    rw [List.any_cons, ih h.2]
    rfl
theorem attr_of' {o : Expr} (h : plainObj o = true) (f : Str) (env : PySem.Env) (w : Sem Value) : attributeBase o f env w = w := by
  unfold attributeBase
  split
  · cases h
  · rfl
theorem sw_of {v : Expr} (h : noComp v = true) (t : Option Expr) (l : Nat) (env : PySem.Env) : swapsWith v t l env = pure false := by
  cases v <;> first | rfl | cases h
theorem ss_of {v : Expr} (h : noTup v = true) (ts : List Expr) (env : PySem.Env) : swappedStores ts v env = pure none := by
  rcases ts with _ | ⟨t, _ | ⟨t2, r⟩⟩
  · cases v <;> first | rfl | cases h
  · cases v with
    | Tuple => cases h
    | _ => cases t <;> rfl
  · cases v with
    | Tuple => cases h
    | _ => cases t <;> rfl
def noTL : Expr → Bool
  | .Tuple .. => false
  | .List .. => false
  | _ => true
theorem ss_of2 {t : Expr} (h : noTL t = true) (v : Expr) (env : PySem.Env) : swappedStores [t] v env = pure none := by
  cases t <;> first | (cases v <;> rfl) | cases h
theorem test_of {e : Expr} (h : plainTest e = true) (env : PySem.Env) (whole : Sem Value) : isTrue e env whole = (do let v ← whole; standAt e.pos; holding [v] (truthy v)) := by
  cases e with
  | UnaryOp op x p => cases op <;> first | rfl | cases h
  | _ => first | rfl | cases h
theorem set_of {e : Expr} (h : noSet e = true) (env : PySem.Env) (x : Value) : foldedSetIterable e env x = pure x := by
  cases e <;> first | rfl | cases h
theorem px_of {e : Expr} (h : noSl e = true) : PlainIx e := by
  intro o i
  cases e <;> first | rfl | cases h
theorem asg_of {e : Expr} (h : noStar e = true) (es : List Expr) (env : PySem.Env) : assignEach (e :: es) env = (false, assign e env) :: assignEach es env := by
  cases e <;> first | rfl | cases h
theorem asgs_of : ∀ {es : List Expr} (h : es.all noStar = true) (env : PySem.Env), assignEach es env = es.map fun e => (false, assign e env)
  | [], _, _ => rfl
  | e :: r, h, env => by
    simp only [Bool.and_eq_true, List.all_cons] at h
    rw [asg_of h.1, asgs_of h.2]
    rfl

/-! ### expressions put together -/
section
variable {W : Wd} {X : Cx} {d : Nat} {Γ : Bd} (G : Γ.ok W.θ)
theorem blkOp {e : Expr} {r r' : R2} {fa fb : Env → MH → Option (U × MH)} (h : PE X e (tOp r (tE W fa) (tE W fb))) (k : ∀ x y H Q, r' x y H Q → r x y H Q) : PE X e (tOp r' (tE W fa) (tE W fb)) :=
  PE.imp h fun σ H Q ⟨ι, us, h, σ0, R, S, u, h', e, q⟩ => ⟨ι, us, h, σ0, R, S, u, h', e, fun ι' v H' R' X' rv => by
    obtain ⟨ι2, us2, h2, σ2, R2, S2, u2, h2', e2, q2⟩ := q ι' v H' R' X' rv
    exact ⟨ι2, us2, h2, σ2, R2, S2, u2, h2', e2, fun ι3 v3 H3 R3 X3 rv3 => k _ _ _ _ (q2 ι3 v3 H3 R3 X3 rv3)⟩⟩
variable (ok : XOk W d X) {a b c : Expr} {pos : Pos} {fa fb fc : Env → MH → Option (U × MH)}
include ok in
theorem se_add (ha : PE X a (tE W fa)) (hb : PE X b (tE W fb)) : PE X (.BinOp a .Add b pos) (tE W (f2 (binop Γ .add) fa fb)) := by
  have o : Op2 W (binop Γ .add) (rAddA X.K) := by rw [ok.K]; exact add_ok
  exact se_op2 (pe_op op_addA ha hb) o
theorem se_sub (ha : PE X a (tE W fa)) (hb : PE X b (tE W fb)) : PE X (.BinOp a .Sub b pos) (tE W (f2 (binop Γ .sub) fa fb)) := se_op2 (pe_op op_sub ha hb) sub_ok
include G in
theorem se_mul (ha : PE X a (tE W fa)) (hb : PE X b (tE W fb)) : PE X (.BinOp a .Mult b pos) (tE W (f2 (binop Γ .mul) fa fb)) := se_op2 (pe_op op_mulA ha hb) (mul_ok G)
/-- a comparison -/
def f2b (f : U → U → MH → Option Bool) : U → U → MH → Option (U × MH) := fun x y h => match f x y h with
  | none => none
  | some b => some (.bl b, h)
theorem cmp_op {f : U → U → MH → Option Bool} {r : R2} (o : Cmp2 W f r) : Op2 W (f2b f) r := fun x y h u h' e ι v w H Q R r1 r2 k => by
  unfold f2b at e
  cases q : f x y h with
  | none => simp only [q] at e; cases e
  | some b =>
    simp only [q] at e
    cases e
    exact o x y h b q ι v w H Q R r1 r2 (fin_now R k (.bl b))
theorem se_cmp {op : CmpOp} {f : U → U → MH → Option Bool} {r : R2} (ho : OpR X (compareOp op) r) (o : Cmp2 W f r) (ha : PE X a (tE W fa)) (hb : PE X b (tE W fb)) (hm : behindInMarks op b = false) : PE X (.Compare a [op] [b] pos) (tE W (f2 (f2b f) fa fb)) :=
  se_op2 (pe_cmpR ho ha hb hm) (cmp_op o)
/-- in, not in: a flat thing, a tuple of flat ones -/
theorem flat_of {ι : Nat → Addr} {n : Nat} {H : Hp} {x : U} {v : V} (r : RU W ι n H x v) (f : isFlat x = true) : flatV v = true := by
  cases r <;> first | rfl | cases f
theorem flats_of {ι : Nat → Addr} {n : Nat} {H : Hp} : ∀ {xs : List U} {vs : List V}, RUs W ι n H xs vs → datL isFlat xs = true → vs.all flatV = true
  | _, _, .nil, _ => rfl
  | _, _, .cons (u := u) (us := us) a r, f => by
    have f1 : (match isFlat u with | true => datL isFlat us | false => false) = true := f
    cases z : isFlat u with
    | false => rw [z] at f1; cases f1
    | true =>
      rw [z] at f1
      rw [List.all_cons, flat_of a z, flats_of r f1]
      rfl
include G in
theorem flatEq {ι : Nat → Addr} {n : Nat} {H : Hp} {x y : U} {v w : V} {b : Bool} (rx : RU W ι n H x v) (ry : RU W ι n H y w) (fx : isFlat x = true) (fy : isFlat y = true) (e : ueq Γ ⟨0, .lf⟩ 1 y x = some b) : eqV w v = b := by
  cases rx with
  | int i => cases ry with
    | int j =>
      have q := eq_ok G (show SI.eq Γ j i = some b from e)
      rw [q]
      show (_ == _) = _
      exact Bool.beq_eq_decide_eq _ _
    | str z hz => cases e; rfl
    | _ => cases fy
  | str z hz => cases ry with
    | int j => cases e; rfl
    | str z2 hz2 =>
      cases e
      exact strV_eq
    | _ => cases fy
  | _ => cases fx
include G in
theorem inOp_ok {ι : Nat → Addr} {n : Nat} {H : Hp} {x : U} {v : V} (rx : RU W ι n H x v) (fx : isFlat x = true) : ∀ {ys : List U} {vs : List V} {b : Bool}, RUs W ι n H ys vs → inOp Γ x ys = some b → vs.all flatV = true ∧ inV v vs = b
  | _, _, b, .nil, e => by
    cases e
    exact ⟨rfl, rfl⟩
  | _, _, b, .cons (u := u) (us := us) (v := w) (vs := ws) a r, e => by
    simp only [inOp] at e
    cases z : isFlat u with
    | false => simp only [z] at e; cases e
    | true =>
      simp only [z] at e
      cases q : ueq Γ ⟨0, .lf⟩ 1 u x with
      | none => simp only [q] at e; cases e
      | some k =>
        have eq1 := flatEq G rx a fx z q
        cases k with
        | true =>
          simp only [q] at e
          cases z2 : datL isFlat us with
          | false => simp only [z2] at e; cases e
          | true =>
            simp only [z2] at e
            cases e
            exact ⟨by rw [List.all_cons, flat_of a z, flats_of r z2]; rfl, by unfold inV; rw [List.any_cons, eq1]; rfl⟩
        | false =>
          simp only [q] at e
          obtain ⟨h1, h2⟩ := inOp_ok rx fx r e
          exact ⟨by rw [List.all_cons, flat_of a z, h1]; rfl, by unfold inV at h2 ⊢; rw [List.any_cons, eq1, h2]; rfl⟩
include G in
theorem cin_ok : Cmp2 W (cmpop Γ .in_) (rIn W.K false) := fun x y h b e ι v w H Q R r1 r2 q => by
  cases y with
  | tup ys =>
    have e1 : (match isFlat x with | true => inOp Γ x ys | false => none) = some b := e
    cases z : isFlat x with
    | false => rw [z] at e1; cases e1
    | true =>
      rw [z] at e1
      cases r2 with
      | tup s r =>
        obtain ⟨h1, h2⟩ := inOp_ok G r1 z r e1
        exact ⟨_, _, rfl, .inr s, flat_of r1 z, h1, by rw [if_neg Bool.false_ne_true, h2]; exact q⟩
  | _ => cases e
include G in
theorem cnin_ok : Cmp2 W (cmpop Γ .nin) (rIn W.K true) := fun x y h b e ι v w H Q R r1 r2 q => by
  cases y with
  | tup ys =>
    have e1 : (match isFlat x with | true => notO (inOp Γ x ys) | false => none) = some b := e
    cases z : isFlat x with
    | false => rw [z] at e1; cases e1
    | true =>
      rw [z] at e1
      cases r2 with
      | tup s r =>
        obtain ⟨h1, h2⟩ := inOp_ok G r1 z r (notO_some e1)
        exact ⟨_, _, rfl, .inr s, flat_of r1 z, h1, by rw [if_pos rfl, h2, Bool.not_not]; exact q⟩
  | _ => cases e
def coOp : CO → CmpOp
  | .eq => .Eq
  | .ne => .NotEq
  | .lt => .Lt
  | .le => .LtE
  | .gt => .Gt
  | .ge => .GtE
  | .isN => .Is
  | .notN => .IsNot
  | .in_ => .In
  | .nin => .NotIn
def coR (K : PySem.W.Frag) : CO → R2
  | .eq => rEqD K
  | .ne => rNeD K
  | .lt => rI0 fun i j => .bl (decide (i < j))
  | .le => rI0 fun i j => .bl (decide (i ≤ j))
  | .gt => rI0 fun i j => .bl (decide (j < i))
  | .ge => rI0 fun i j => .bl (decide (j ≤ i))
  | .isN => fun x y H Q => y = .non ∧ Q (.bl (decide (x = .non))) H
  | .notN => fun x y H Q => y = .non ∧ Q (.bl (!decide (x = .non))) H
  | .in_ => rIn K false
  | .nin => rIn K true
include ok in
theorem co_opR (o : CO) : OpR X (compareOp (coOp o)) (coR X.K o) := by
  cases o with
  | eq => exact op_eqD ok.units
  | ne => exact op_neD ok.units
  | lt => exact op_lt
  | le => exact op_le
  | gt => exact op_gt
  | ge => exact op_ge
  | isN => exact op_isN
  | notN => exact op_notN
  | in_ => exact op_in_seq
  | nin => exact op_notIn_seq
include G in
theorem co_cmp (o : CO) : Cmp2 W (cmpop Γ o) (coR W.K o) := by
  cases o with
  | eq => exact ceq_ok G
  | ne => exact cne_ok G
  | lt => exact clt_ok G
  | le => exact cle_ok G
  | gt => exact cgt_ok G
  | ge => exact cge_ok G
  | isN => exact cisN_ok
  | notN => exact cnotN_ok
  | in_ => exact cin_ok G
  | nin => exact cnin_ok G
theorem marks_of {op : CmpOp} {b : Expr} (h : noSet b = true) : behindInMarks op b = false := by
  cases b <;> first | rfl | cases h
include ok G in
theorem se_co (o : CO) (ha : PE X a (tE W fa)) (hb : PE X b (tE W fb)) (hm : noSet b = true) : PE X (.Compare a [coOp o] [b] pos) (tE W (f2 (f2b (cmpop Γ o)) fa fb)) := by
  have c : Cmp2 W (cmpop Γ o) (coR X.K o) := by rw [ok.K]; exact co_cmp G o
  exact se_cmp (co_opR ok o) c ha hb (marks_of hm)
def fChain (Γ : Bd) (o1 o2 : CO) (fa fb fc : Env → MH → Option (U × MH)) : Env → MH → Option (U × MH) := fun us h => match fa us h with
  | none => none
  | some (x, h1) => match fb us h1 with
    | none => none
    | some (y, h2) => match cmpop Γ o1 x y h2 with
      | none => none
      | some false => some (.bl false, h2)
      | some true => match fc us h2 with
        | none => none
        | some (z, h3) => match cmpop Γ o2 y z h3 with
          | none => none
          | some b => some (.bl b, h3)
include ok G in
theorem se_chain (o1 o2 : CO) (ha : PE X a (tE W fa)) (hb : PE X b (tE W fb)) (hc : PE X c (tE W fc)) (hm : noSet b = true) (hm2 : noSet c = true) :
    PE X (.Compare a [coOp o1, coOp o2] [b, c] pos) (tE W (fChain Γ o1 o2 fa fb fc)) := by
  have c1 : Cmp2 W (cmpop Γ o1) (coR X.K o1) := by rw [ok.K]; exact co_cmp G o1
  have c2 : Cmp2 W (cmpop Γ o2) (coR X.K o2) := by rw [ok.K]; exact co_cmp G o2
  refine PE.imp (pe_chain (co_opR ok o1) (co_opR ok o2) ha hb hc (marks_of hm2)) fun σ H Q ⟨ι, us, h, σ0, R, S, u, h', e, k⟩ => ?_
  unfold fChain at e
  cases q1 : fa us h with
  | none => simp only [q1] at e; cases e
  | some p1 =>
    obtain ⟨x, h1⟩ := p1
    cases q2 : fb us h1 with
    | none => simp only [q1, q2] at e; cases e
    | some p2 =>
      obtain ⟨y, h2⟩ := p2
      cases q3 : cmpop Γ o1 x y h2 with
      | none => simp only [q1, q2, q3] at e; cases e
      | some b1 =>
        refine two R S q1 q2 (P := fun v w H2 => coR X.K o1 v w H2 _) fun ι2 v w H2 R2 X2 r1 r2 => c1 x y h2 b1 q3 ι2 v w H2 _ R2 r1 r2 ⟨b1, rfl, ?_⟩
        cases b1 with
        | false =>
          simp only [q1, q2, q3] at e
          cases e
          exact iteF (k ι2 _ H2 R2 X2 (.bl false))
        | true =>
          cases q4 : fc us h2 with
          | none => simp only [q1, q2, q3, q4] at e; cases e
          | some p4 =>
            obtain ⟨z, h3⟩ := p4
            cases q5 : cmpop Γ o2 y z h3 with
            | none => simp only [q1, q2, q3, q4, q5] at e; cases e
            | some b2 =>
              simp only [q1, q2, q3, q4, q5] at e
              cases e
              refine iteT ⟨ι2, us, h2, σ0, R2, S.mono X2 R.mu, z, h', q4, fun ι3 v3 H3 R3 X3 r3 => ?_⟩
              exact c2 y z h' b2 q5 ι3 w v3 H3 Q R3 (R2.ext X3 r2) r3 (k ι3 _ H3 R3 (X2.trans X3) (.bl b2))

/-! ### tests -/
variable {ft fu : Env → MH → Option (Bool × MH)}
theorem tt_cmp {op : CmpOp} {r : R2} {f : U → U → MH → Option Bool} (ho : OpR X (compareOp op) r) (o : Cmp2 W f r) (ha : PE X a (tE W fa)) (hb : PE X b (tE W fb)) (hm : behindInMarks op b = false) :
    PT X (.Compare a [op] [b] pos) (tT W fun us h => match f2 (f2b f) fa fb us h with
      | some (.bl b, h1) => some (b, h1)
      | _ => none) :=
  PT.imp (pt_cmpR ho ha hb hm) fun σ H Q ⟨ι, us, h, σ0, R, S, u, h', e, k⟩ => by
    cases q : f2 (f2b f) fa fb us h with
    | none => simp only [q] at e; cases e
    | some p =>
      obtain ⟨b1, h1⟩ := p
      obtain ⟨x, h2, y, h3, e1, e2, e3⟩ := f2_some q
      unfold f2b at e3
      cases q3 : f x y h3 with
      | none => simp only [q3] at e3; cases e3
      | some b2 =>
        simp only [q3] at e3
        cases e3
        simp only [q] at e
        cases e
        exact two R S e1 e2 (P := fun v w H2 => r v w H2 _) fun ι2 v w H2 R2 X2 r1 r2 => o x y h' u q3 ι2 v w H2 _ R2 r1 r2 ⟨u, rfl, k ι2 H2 R2 X2⟩
theorem tt_chain {o1 o2 : CmpOp} {r r' : R2} {f f' : U → U → MH → Option Bool} (ho : OpR X (compareOp o1) r) (ho' : OpR X (compareOp o2) r') (c1 : Cmp2 W f r) (c2 : Cmp2 W f' r') (ha : PE X a (tE W fa)) (hb : PE X b (tE W fb)) (hc : PE X c (tE W fc)) (hm : lastMarks [o1, o2] [b, c] = false) :
    PT X (.Compare a [o1, o2] [b, c] pos) (tT W fun us h => match fa us h with
      | none => none
      | some (x, h1) => match fb us h1 with
        | none => none
        | some (y, h2) => match f x y h2 with
          | none => none
          | some false => some (false, h2)
          | some true => match fc us h2 with
            | none => none
            | some (z, h3) => match f' y z h3 with
              | none => none
              | some b => some (b, h3)) :=
  PT.imp (pt_chain ho ho' ha hb hc hm) fun σ H Q ⟨ι, us, h, σ0, R, S, u, h', e, k⟩ => by
  cases q1 : fa us h with
  | none => simp only [q1] at e; cases e
  | some p1 =>
    obtain ⟨x, h1⟩ := p1
    cases q2 : fb us h1 with
    | none => simp only [q1, q2] at e; cases e
    | some p2 =>
      obtain ⟨y, h2⟩ := p2
      cases q3 : f x y h2 with
      | none => simp only [q1, q2, q3] at e; cases e
      | some b1 =>
        refine two R S q1 q2 (P := fun v w H2 => r v w H2 _) fun ι2 v w H2 R2 X2 r1 r2 => c1 x y h2 b1 q3 ι2 v w H2 _ R2 r1 r2 ⟨b1, rfl, ?_⟩
        cases b1 with
        | false =>
          simp only [q1, q2, q3] at e
          cases e
          exact iteF ⟨false, rfl, k ι2 H2 R2 X2⟩
        | true =>
          cases q4 : fc us h2 with
          | none => simp only [q1, q2, q3, q4] at e; cases e
          | some p4 =>
            obtain ⟨z, h3⟩ := p4
            cases q5 : f' y z h3 with
            | none => simp only [q1, q2, q3, q4, q5] at e; cases e
            | some b2 =>
              simp only [q1, q2, q3, q4, q5] at e
              cases e
              refine iteT ⟨ι2, us, h2, σ0, R2, S.mono X2 R.mu, z, h', q4, fun ι3 v3 H3 R3 X3 r3 => ?_⟩
              exact c2 y z h' u q5 ι3 w v3 H3 _ R3 (R2.ext X3 r2) r3 ⟨u, rfl, k ι3 H3 R3 (X2.trans X3)⟩
theorem tt_val (ha : PE X a (tE W fa)) (hp : plainTest a = true) : PT X a (tT W fun us h => match fa us h with
      | some (.bl b, h1) => some (b, h1)
      | _ => none) :=
  PT.imp (pt_val ha (test_of hp X.env)) fun σ H Q ⟨ι, us, h, σ0, R, S, u, h', e, k⟩ => by
    cases q : fa us h with
    | none => simp only [q] at e; cases e
    | some p =>
      obtain ⟨x, h1⟩ := p
      cases x with
      | bl b =>
        simp only [q] at e
        cases e
        exact ⟨ι, us, h, σ0, R, S, .bl u, h', q, fun ι2 v H2 R2 X2 r => by
          cases r
          exact ⟨u, rfl, k ι2 H2 R2 X2⟩⟩
      | _ => simp only [q] at e; cases e
theorem tt_not (ha : PT X a (tT W ft)) : PT X (.UnaryOp .Not a pos) (tT W fun us h => match ft us h with
      | none => none
      | some (b, h1) => some (!b, h1)) :=
  PT.imp (pt_not ha) fun σ H Q ⟨ι, us, h, σ0, R, S, u, h', e, k⟩ => by
    cases q : ft us h with
    | none => simp only [q] at e; cases e
    | some p =>
      obtain ⟨b, h1⟩ := p
      simp only [q] at e
      cases e
      exact ⟨ι, us, h, σ0, R, S, b, h', q, k⟩
/-- and, or over a list -/
inductive TestL (W : Wd) (X : Cx) (f : ME → Env → MH → Option (Bool × MH)) : List ME → List Expr → Prop
  | one {m : ME} {e : Expr} (h : PT X e (tT W (f m))) : TestL W X f [m] [e]
  | cons {m : ME} {e : Expr} {ms : List ME} {es : List Expr} (h : PT X e (tT W (f m))) (r : TestL W X f ms es) : TestL W X f (m :: ms) (e :: es)
theorem TestL.ne {f : ME → Env → MH → Option (Bool × MH)} {ms : List ME} {es : List Expr} (h : TestL W X f ms es) : ∃ m r e s, ms = m :: r ∧ es = e :: s := by
  cases h <;> exact ⟨_, _, _, _, rfl, rfl⟩
theorem tw_and {f : ME → Env → MH → Option (Bool × MH)} {ms : List ME} {es : List Expr} (h : TestL W X f ms es) : PW X (.BoolOp .And es pos) (tT W (evAnd f ms)) := by
  induction h with
  | @one m e h => exact pw_and1 h
  | @cons m e ms es h r ih =>
    obtain ⟨m2, ms2, e2, es2, rfl, rfl⟩ := r.ne
    refine ⟨fun wh pins s σ H Q I q => (pw_and h ih).run wh pins s σ H Q I ?_⟩
    obtain ⟨ι, us, h, σ0, R, S, u, h', e, k⟩ := q
    have e0 : (match f m us h with
      | none => none
      | some (true, h1) => evAnd f (m2 :: ms2) us h1
      | some (false, h1) => some (false, h1)) = some (u, h') := e
    cases q : f m us h with
    | none => simp only [q] at e0; cases e0
    | some p =>
      obtain ⟨b, h1⟩ := p
      cases b with
      | true =>
        simp only [q] at e0
        exact ⟨ι, us, h, σ0, R, S, true, h1, q, fun ι2 H2 R2 X2 => iteT ⟨ι2, us, h1, σ0, R2, S.mono X2 R.mu, u, h', e0, fun ι3 H3 R3 X3 => k ι3 H3 R3 (X2.trans X3)⟩⟩
      | false =>
        simp only [q] at e0
        cases e0
        exact ⟨ι, us, h, σ0, R, S, false, h', q, fun ι2 H2 R2 X2 => iteF (k ι2 H2 R2 X2)⟩
theorem tw_or {f : ME → Env → MH → Option (Bool × MH)} {ms : List ME} {es : List Expr} (h : TestL W X f ms es) : PW X (.BoolOp .Or es pos) (tT W (evOr f ms)) := by
  induction h with
  | @one m e h => exact pw_or1 h
  | @cons m e ms es h r ih =>
    obtain ⟨m2, ms2, e2, es2, rfl, rfl⟩ := r.ne
    refine ⟨fun wh pins s σ H Q I q => (pw_or h ih).run wh pins s σ H Q I ?_⟩
    obtain ⟨ι, us, h, σ0, R, S, u, h', e, k⟩ := q
    have e0 : (match f m us h with
      | none => none
      | some (true, h1) => some (true, h1)
      | some (false, h1) => evOr f (m2 :: ms2) us h1) = some (u, h') := e
    cases q : f m us h with
    | none => simp only [q] at e0; cases e0
    | some p =>
      obtain ⟨b, h1⟩ := p
      cases b with
      | false =>
        simp only [q] at e0
        exact ⟨ι, us, h, σ0, R, S, false, h1, q, fun ι2 H2 R2 X2 => iteF ⟨ι2, us, h1, σ0, R2, S.mono X2 R.mu, u, h', e0, fun ι3 H3 R3 X3 => k ι3 H3 R3 (X2.trans X3)⟩⟩
      | true =>
        simp only [q] at e0
        cases e0
        exact ⟨ι, us, h, σ0, R, S, true, h', q, fun ι2 H2 R2 X2 => iteT (k ι2 H2 R2 X2)⟩
theorem se_ite (hc : PT X c (tT W ft)) (ha : PE X a (tE W fa)) (hb : PE X b (tE W fb)) : PE X (.IfExp c a b pos) (tE W fun us h => match ft us h with
    | none => none
    | some (true, h1) => fa us h1
    | some (false, h1) => fb us h1) :=
  PE.imp (pe_ifExp hc ha hb) fun σ H Q ⟨ι, us, h, σ0, R, S, u, h', e, k⟩ => by
    cases q : ft us h with
    | none => simp only [q] at e; cases e
    | some p =>
      obtain ⟨b, h1⟩ := p
      cases b with
      | true =>
        simp only [q] at e
        exact ⟨ι, us, h, σ0, R, S, true, h1, q, fun ι2 H2 R2 X2 => iteT ⟨ι2, us, h1, σ0, R2, S.mono X2 R.mu, u, h', e, k.of X2⟩⟩
      | false =>
        simp only [q] at e
        exact ⟨ι, us, h, σ0, R, S, false, h1, q, fun ι2 H2 R2 X2 => iteF ⟨ι2, us, h1, σ0, R2, S.mono X2 R.mu, u, h', e, k.of X2⟩⟩
/-! ### lists of arguments, displays -/
inductive ArgL (W : Wd) (X : Cx) (f : ME → Env → MH → Option (U × MH)) : List ME → List Expr → Prop
  | nil : ArgL W X f [] []
  | cons {m : ME} {e : Expr} {ms : List ME} {es : List Expr} (h : PE X e (tE W (f m))) (s : noStar e = true) (r : ArgL W X f ms es) : ArgL W X f (m :: ms) (e :: es)
theorem ArgL.stars {f : ME → Env → MH → Option (U × MH)} {ms : List ME} {es : List Expr} (h : ArgL W X f ms es) : es.all noStar = true := by
  induction h with
  | nil => rfl
  | cons h s r ih => rw [List.all_cons, s, ih]; rfl
theorem sa_of {f : ME → Env → MH → Option (U × MH)} {ms : List ME} {es : List Expr} (h : ArgL W X f ms es) : PA X es (tA W (evL f ms)) := by
  induction h with
  | nil =>
    refine PA.imp pa_nil fun σ H Q ⟨ι, us, h, σ0, R, S, u, h', e, k⟩ => ?_
    cases e
    exact k ι _ H R Ext.refl .nil
  | @cons m e ms es h s r ih =>
    refine PA.imp (pa_cons h ih (star_of s es X.env)) fun σ H Q ⟨ι, us, h, σ0, R, S, u, h', e, k⟩ => ?_
    simp only [evL] at e
    cases q : f m us h with
    | none => simp only [q] at e; cases e
    | some p =>
      obtain ⟨x, h1⟩ := p
      cases q2 : evL f ms us h1 with
      | none => simp only [q, q2] at e; cases e
      | some p2 =>
        obtain ⟨xs, h2⟩ := p2
        simp only [q, q2] at e
        cases e
        exact ⟨ι, us, h, σ0, R, S, x, h1, q, fun ι2 v H2 R2 X2 rv => ⟨ι2, us, h1, σ0, R2, S.mono X2 R.mu, xs, h', q2, fun ι3 vs H3 R3 X3 rvs => k ι3 _ H3 R3 (X2.trans X3) (.cons (R2.ext X3 rv) rvs)⟩⟩
variable {es : List Expr} {fs : Env → MH → Option (List U × MH)}
theorem se_tup {x1 : Nat} (hs : PA X es (tA W fs)) : PE X (.Tuple es x1 pos) (tE W fun us h => match fs us h with
    | none => none
    | some (xs, h1) => match small xs with
      | true => some (.tup xs, h1)
      | false => none) :=
  PE.imp (pe_tup hs) fun σ H Q ⟨ι, us, h, σ0, R, S, u, h', e, k⟩ => by
    cases q : fs us h with
    | none => simp only [q] at e; cases e
    | some p =>
      obtain ⟨xs, h1⟩ := p
      cases q2 : small xs with
      | false => simp only [q, q2] at e; cases e
      | true =>
        simp only [q, q2] at e
        cases e
        have l := small_le q2
        exact ⟨ι, us, h, σ0, R, S, xs, h', q, fun ι2 vs H2 R2 X2 rv => ⟨by rw [rv.len] at l; exact Nat.le_of_lt (small_line l), fun p np => fin_newTup R2 (k.of X2) rv np⟩⟩
theorem se_lst (hs : PA X es (tA W fs)) : PE X (.List es pos) (tE W fun us h => match fs us h with
    | none => none
    | some (xs, h1) => match small xs with
      | true => some (.ref h1.n, h1.new (.lst xs))
      | false => none) :=
  PE.imp (pe_lst hs) fun σ H Q ⟨ι, us, h, σ0, R, S, u, h', e, k⟩ => by
    cases q : fs us h with
    | none => simp only [q] at e; cases e
    | some p =>
      obtain ⟨xs, h1⟩ := p
      cases q2 : small xs with
      | false => simp only [q, q2] at e; cases e
      | true =>
        simp only [q, q2] at e
        cases e
        have l := small_le q2
        exact ⟨ι, us, h, σ0, R, S, xs, h1, q, fun ι2 vs H2 R2 X2 rv => ⟨by rw [rv.len] at l; exact Nat.le_of_lt (small_line l), fun p np => fin_new R2 (k.of X2) (.lst rv) np⟩⟩
theorem se_dnewK : PE X (.Dict [] [] pos) (tE W fun us h => some (.ref h.n, h.new (.dK []))) :=
  PE.imp pe_dnewK fun σ H Q ⟨ι, us, h, σ0, R, S, u, h', e, k⟩ => by
    cases e
    exact fun p np => fin_new R k (.dK .nil) np
theorem se_dnewT : PE X (.Dict [] [] pos) (tE W fun us h => some (.ref h.n, h.new (.dT []))) :=
  PE.imp pe_dnewT fun σ H Q ⟨ι, us, h, σ0, R, S, u, h', e, k⟩ => by
    cases e
    exact fun p np => fin_new R k (.dT .nil) np
theorem se_neg (ha : PE X a (tE W fa)) : PE X (.UnaryOp .USub a pos) (tE W fun us h => match fa us h with
    | some (.int i, h1) => some (.int ((SI.lit 0).sub i), h1)
    | _ => none) :=
  PE.imp (pe_un un_neg ha) fun σ H Q ⟨ι, us, h, σ0, R, S, u, h', e, k⟩ => by
    cases q : fa us h with
    | none => simp only [q] at e; cases e
    | some p =>
      obtain ⟨x, h1⟩ := p
      cases x with
      | int i =>
        simp only [q] at e
        cases e
        exact ⟨ι, us, h, σ0, R, S, .int i, h', q, fun ι2 v H2 R2 X2 rv => by
          rw [rv.ints]
          refine ⟨_, rfl, k ι2 _ H2 R2 X2 ?_⟩
          have z : -(i.ev W.θ) = ((SI.lit 0).sub i).ev W.θ := by
            rw [ev_sub]
            show _ = 0 - _
            omega
          dsimp only
          rw [z]
          exact .int _⟩
      | _ => simp only [q] at e; cases e
end
end Se
set_option Elab.async false
set_option linter.all false
set_option maxRecDepth 100000
/-! Se over the hand layer: items, slices, built-ins, fields, targets. -/
namespace Se
open PySem PySem.Spec
open PyProof.Rows L2

section
variable {W : Wd} {X : Cx} {d : Nat} {Γ : Bd} (ok : XOk W d X) {a b c : Expr} {pos : Pos} {fa fb fc : Env → MH → Option (U × MH)}
/-! ### items -/
theorem at_ok {ι : Nat → Addr} {n : Nat} {H : Hp} {us : List U} {vs : List V} {i : Int} {u : U} (r : RUs W ι n H us vs) (e : at_ us i = some u) : ∃ v, atI vs i = some v ∧ RU W ι n H u v := by
  unfold at_ at e
  unfold atI ixN
  have l := r.len
  cases z : decide (0 ≤ i) with
  | true =>
    rw [z] at e
    have hi := of_decide_eq_true z
    obtain ⟨v, h1, h2⟩ := r.nth e
    have hl : i.toNat < vs.length := (List.getElem?_eq_some_iff.mp h1).1
    rw [if_pos hi, if_pos (show i < (vs.length : Int) by omega)]
    exact ⟨v, h1, h2⟩
  | false =>
    rw [z] at e
    have hi := of_decide_eq_false z
    cases z2 : decide (-(us.length : Int) ≤ i) with
    | false => simp only [z2] at e; cases e
    | true =>
      simp only [z2] at e
      have hj := of_decide_eq_true z2
      obtain ⟨v, h1, h2⟩ := r.nth e
      rw [if_neg hi, if_pos (show -(vs.length : Int) ≤ i by omega)]
      rw [l] at h1
      exact ⟨v, h1, h2⟩
theorem KE.beq_ok : ∀ (j k : KE), KE.beq j k = decide (keyV j = keyV k)
  | .i a, .i b => by
    show decide (a = b) = _
    exact decide_eq_decide.mpr ⟨fun q => by rw [q], fun q => by cases q; rfl⟩
  | .s a, .s b => by
    show eqN a b = _
    rw [eqN_iff]
    refine decide_eq_decide.mpr ⟨fun q => by rw [q], fun q => ?_⟩
    have z : strV a = strV b := Sum.inr.inj q
    have z1 : a.toArray = b.toArray := congrArg Str.cps z
    simpa using congrArg Array.toList z1
  | .i a, .s b => (decide_eq_false (fun q => nomatch q)).symm
  | .s a, .i b => (decide_eq_false (fun q => nomatch q)).symm
theorem getK_ok {ι : Nat → Addr} {n : Nat} {H : Hp} {k : KE} : ∀ {us : List (KE × U)} {vs : List (Key × V)}, Paired (fun p q => q.1 = keyV p.1 ∧ RU W ι n H p.2 q.2) us vs → ∀ {u : U}, getK k us = some u → ∃ v, valV vs (keyV k) = some v ∧ RU W ι n H u v
  | _, _, .nil, _, e => nomatch e
  | _, _, .cons (a := p) (b := q) r rr, u, e => by
    obtain ⟨j, x⟩ := p
    obtain ⟨jv, y⟩ := q
    obtain ⟨r1, r2⟩ := r
    replace r1 : jv = keyV j := r1
    simp only [getK] at e
    cases z : KE.beq j k with
    | true =>
      simp only [z] at e
      cases e
      rw [KE.beq_ok] at z
      exact ⟨y, valV_pos (by show jv = keyV k; subst r1; exact of_decide_eq_true z), r2⟩
    | false =>
      simp only [z] at e
      rw [KE.beq_ok] at z
      obtain ⟨v, h1, h2⟩ := getK_ok rr e
      refine ⟨v, ?_, h2⟩
      rw [valV_neg (by show ¬ jv = keyV k; subst r1; exact of_decide_eq_false z)]
      exact h1
theorem keyU_ok {ι : Nat → Addr} {n : Nat} {H : Hp} {y : U} {w : V} {k : KE} (e : keyU y = some k) (r : RU W ι n H y w) : w = kV (keyV k) := by
  cases y with
  | int i => cases i with
    | lit i => cases e; cases r; rfl
    | pol c ms => cases e
  | str z => cases e; cases r; rfl
  | _ => cases e
theorem anyK_ok {ι : Nat → Addr} {n : Nat} {H : Hp} {k : KE} {us : List (KE × U)} {vs : List (Key × V)} (r : Paired (fun p q => q.1 = keyV p.1 ∧ RU W ι n H p.2 q.2) us vs) : anyK k us = vs.any fun kv => decide (kv.1 = keyV k) := by
  induction r with
  | nil => rfl
  | @cons p q us vs r rr ih =>
    obtain ⟨j, x⟩ := p
    obtain ⟨jv, y⟩ := q
    have r1 : jv = keyV j := r.1
    subst r1
    show (match KE.beq j k with | true => true | false => anyK k us) = (decide (keyV j = keyV k) || _)
    rw [← KE.beq_ok, ih]
    cases KE.beq j k <;> rfl
theorem mapK_ok {ι : Nat → Addr} {n : Nat} {H : Hp} {k : KE} {u : U} {v : V} (ru : RU W ι n H u v) {us : List (KE × U)} {vs : List (Key × V)} (r : Paired (fun p q => q.1 = keyV p.1 ∧ RU W ι n H p.2 q.2) us vs) :
    Paired (fun p q => q.1 = keyV p.1 ∧ RU W ι n H p.2 q.2) (mapK k u us) (vs.map fun kv => if kv.1 = keyV k then (kv.1, v) else kv) := by
  induction r with
  | nil => exact .nil
  | @cons p q us vs r rr ih =>
    obtain ⟨j, x⟩ := p
    obtain ⟨jv, y⟩ := q
    obtain ⟨r1, r2⟩ := r
    have r1 : jv = keyV j := r1
    subst r1
    rw [List.map_cons]
    show Paired _ (match KE.beq j k with | true => (j, u) :: mapK k u us | false => (j, x) :: mapK k u us) ((if keyV j = keyV k then (keyV j, v) else (keyV j, y)) :: _)
    cases z : KE.beq j k with
    | true =>
      rw [KE.beq_ok] at z
      rw [if_pos (of_decide_eq_true z)]
      exact .cons ⟨rfl, ru⟩ ih
    | false =>
      rw [KE.beq_ok] at z
      rw [if_neg (of_decide_eq_false z)]
      exact .cons ⟨rfl, r2⟩ ih
theorem paired_append {α β : Type} {F : α → β → Prop} {xs xs' : List α} {ys ys' : List β} (h : Paired F xs ys) (h' : Paired F xs' ys') : Paired F (xs ++ xs') (ys ++ ys') := by
  induction h with
  | nil => exact h'
  | cons r rr ih => exact .cons r ih
theorem putK_ok {ι : Nat → Addr} {n : Nat} {H : Hp} {k : KE} {u : U} {v : V} (ru : RU W ι n H u v) {us : List (KE × U)} {vs : List (Key × V)} (r : Paired (fun p q => q.1 = keyV p.1 ∧ RU W ι n H p.2 q.2) us vs) :
    Paired (fun p q => q.1 = keyV p.1 ∧ RU W ι n H p.2 q.2) (putK k u us) (L2.putK vs (keyV k) v) := by
  unfold putK L2.putK
  rw [anyK_ok r]
  cases (vs.any fun kv => decide (kv.1 = keyV k)) with
  | true => exact mapK_ok ru r
  | false => exact paired_append r (.cons ⟨rfl, ru⟩ .nil)
theorem get_dK {ι : Nat → Addr} {h : MH} {H : Hp} (R : Rep W ι h H) {i : Nat} {us : List (KE × U)} (e : h.get i = some (.dK us)) : i < h.n ∧ ∃ vs, H (ι i) = some (.dK vs) ∧ Paired (fun p q => q.1 = keyV p.1 ∧ RU W ι h.n H p.2 q.2) us vs := by
  obtain ⟨u, h1, h2⟩ := R.at_ i _ e
  cases h2 with
  | dK r => exact ⟨(MH.get_lt e).1, _, h1, r⟩
theorem RU.ref_i {ι : Nat → Addr} {n : Nat} {H : Hp} {i : Nat} {v : V} (r : RU W ι n H (.ref i) v) : v = .ref (ι i) := by
  cases r
  rfl
def fIx : U → U → MH → Option (U × MH) := fun x y h => match ixop x y h with
  | none => none
  | some v => some (v, h)
include ok in
theorem se_ix (ha : PE X a (tE W fa)) (hb : PE X b (tE W fb)) (hs : noSl b = true) : PE X (.Subscript a b pos) (tE W (f2 fIx fa fb)) := ⟨fun pins s σ H Q I q => by
  obtain ⟨ι, us, h, σ0, R, S, u, h', e, k⟩ := q
  obtain ⟨x, h1, y, h2, e1, e2, e3⟩ := f2_some e
  unfold fIx at e3
  cases x with
  | tup xs => cases y with
    | int i => cases i with
      | lit i =>
        have e4 : ixop (.tup xs) (.int (.lit i)) h2 = at_ xs i := rfl
        rw [e4] at e3
        cases z : at_ xs i with
        | none => simp only [z] at e3; cases e3
        | some v0 =>
          simp only [z] at e3
          cases e3
          refine (pe_ix ix_tup ha hb (px_of hs)).run pins s σ H Q I (two R S e1 e2 (P := fun v w H2 => rIxT X.K v w H2 Q) fun ι2 v w H2 R2 X2 r1 r2 => ?_)
          rw [ok.K]
          cases r1 with
          | tup s r =>
            obtain ⟨v1, h3, h4⟩ := at_ok r z
            exact ⟨_, _, _, _, rfl, r2.ints, s, h3, k ι2 _ H2 R2 X2 h4⟩
      | pol c ms => cases e3
    | _ => cases e3
  | ref r =>
    cases g : h2.get r with
    | none => simp only [ixop, g] at e3; cases e3
    | some o => cases o with
      | lst xs => cases y with
        | int i => cases i with
          | lit i =>
            simp only [ixop, g] at e3
            cases z : at_ xs i with
            | none => simp only [z] at e3; cases e3
            | some v0 =>
              simp only [z] at e3
              cases e3
              refine (pe_ix ix_list ha hb (px_of hs)).run pins s σ H Q I (two R S e1 e2 (P := fun v w H2 => rIxL X.K v w H2 Q) fun ι2 v w H2 R2 X2 r1 r2 => ?_)
              obtain ⟨vs, rfl, h3, r⟩ := r1.ref_lst R2 (show h'.lst r = some xs by unfold MH.lst; rw [g])
              obtain ⟨v1, h5, h4⟩ := at_ok r z
              exact ⟨_, _, _, _, rfl, r2.ints, SqL.of h3, h5, k ι2 _ H2 R2 X2 h4⟩
          | pol c ms => simp only [ixop, g] at e3; cases e3
        | _ => simp only [ixop, g] at e3; cases e3
      | dK kvs =>
        simp only [ixop, g] at e3
        cases z0 : keyU y with
        | none => simp only [z0] at e3; cases e3
        | some key =>
          simp only [z0] at e3
          cases z : getK key kvs with
          | none => simp only [z] at e3; cases e3
          | some v0 =>
            simp only [z] at e3
            cases e3
            refine (pe_dget (by have := ok.units; omega) ha hb (px_of hs)).run pins s σ H Q I (two R S e1 e2 (P := fun x y H2 => ∃ a v, x = V.ref a ∧ DGet H2 a y (some v) ∧ Q v H2) fun ι2 v w H2 R2 X2 r1 r2 => ?_)
            obtain ⟨_, vs, h3, r⟩ := get_dK R2 g
            obtain ⟨v1, h5, h4⟩ := getK_ok r z
            refine ⟨_, v1, r1.ref_i, ?_, k ι2 _ H2 R2 X2 h4⟩
            rw [keyU_ok z0 r2, ← h5]
            exact DGet.k h3
      | dT kvs => simp only [ixop, g] at e3; cases e3
      | ins c fs => simp only [ixop, g] at e3; cases e3
  | _ => cases e3⟩

/-! ### slices -/
def fO (W : Wd) (f : Env → MH → Option (Option U × MH)) : TO := fun σ H Q => ∃ ι us h σ0, Rep W ι h H ∧ RS W ι h.n H σ0 us σ ∧ ∃ o h' p, f us h = some (o, h') ∧ part o = some p ∧ ∀ ι' H', Rep W ι' h' H' → Ext ι h.n H ι' h'.n H' → Q p H'
inductive OptL (W : Wd) (X : Cx) (f : ME → Env → MH → Option (U × MH)) : Option ME → Option Expr → Prop
  | none : OptL W X f none none
  | some {m : ME} {e : Expr} (h : PE X e (tE W (f m))) : OptL W X f (some m) (some e)
theorem PO.imp {X : Cx} {e : Option Expr} {t t' : TO} (h : PO X e t) (k : ∀ σ H Q, t' σ H Q → t σ H Q) : PO X e t' := ⟨fun pins s σ H Q I q => h.run pins s σ H Q I (k _ _ _ q)⟩
theorem so_of {f : ME → Env → MH → Option (U × MH)} {m : Option ME} {e : Option Expr} (h : OptL W X f m e) : PO X e (fO W (opE f m)) := by
  cases h with
  | none =>
    refine PO.imp po_none fun σ H Q ⟨ι, us, h, σ0, R, S, o, h', p, e1, e2, k⟩ => ?_
    cases e1
    cases e2
    exact k ι H R Ext.refl
  | @some m e h =>
    refine PO.imp (po_some h) fun σ H Q ⟨ι, us, h, σ0, R, S, o, h', p, e1, e2, k⟩ => ?_
    simp only [opE] at e1
    cases q : f m us h with
    | none => simp only [q] at e1; cases e1
    | some pr =>
      obtain ⟨x, h1⟩ := pr
      simp only [q] at e1
      cases e1
      refine ⟨ι, us, h, σ0, R, S, x, h', q, fun ι2 v H2 R2 X2 rv => ?_⟩
      cases x with
      | int i => cases i with
        | lit i =>
          cases e2
          cases rv
          exact ⟨i, rfl, k ι2 H2 R2 X2⟩
        | pol c ms => cases e2
      | _ => cases e2
theorem clip_ok (n dd : Nat) (o : Option Int) : clip n dd o = HT.sIx n dd o := by
  cases o with
  | none => rfl
  | some v =>
    have z := HT.clip_eq v n dd
    unfold clip
    cases q : decide (v < 0) with
    | true =>
      have := of_decide_eq_true q
      rw [if_pos this] at z
      simp only [q]
      omega
    | false =>
      have := of_decide_eq_false q
      rw [if_neg this] at z
      cases q2 : decide ((n : Int) < v) with
      | true =>
        have := of_decide_eq_true q2
        simp only [q, q2]
        omega
      | false =>
        have := of_decide_eq_false q2
        simp only [q, q2]
        omega
theorem RUs.drop {ι : Nat → Addr} {n : Nat} {H : Hp} : ∀ {us : List U} {vs : List V} (k : Nat), RUs W ι n H us vs → RUs W ι n H (us.drop k) (vs.drop k)
  | _, _, 0, r => r
  | _, _, _ + 1, .nil => .nil
  | _, _, k + 1, .cons _ r => r.drop k
theorem RUs.take {ι : Nat → Addr} {n : Nat} {H : Hp} : ∀ {us : List U} {vs : List V} (k : Nat), RUs W ι n H us vs → RUs W ι n H (us.take k) (vs.take k)
  | _, _, 0, _ => .nil
  | _, _, _ + 1, .nil => .nil
  | _, _, k + 1, .cons a r => .cons a (r.take k)
theorem cut_ok {ι : Nat → Addr} {n : Nat} {H : Hp} {us : List U} {vs : List V} (r : RUs W ι n H us vs) (lo hi : Option Int) : RUs W ι n H (cut us lo hi) (cutV vs lo hi) := by
  unfold cut cutV
  rw [clip_ok, clip_ok, r.len]
  exact (r.drop _).take _
def fSl (fa : Env → MH → Option (U × MH)) (fl fh : Env → MH → Option (Option U × MH)) : Env → MH → Option (U × MH) := fun us h => match fa us h with
  | none => none
  | some (x, h1) => match fl us h1 with
    | none => none
    | some (l, h2) => match fh us h2 with
      | none => none
      | some (u, h3) => slop x l u h3
include ok in
theorem se_sl {lo hi : Option Expr} {p2 : Pos} {fl fh : Env → MH → Option (Option U × MH)} (ha : PE X a (tE W fa)) (hl : PO X lo (fO W fl)) (hh : PO X hi (fO W fh)) : PE X (.Subscript a (.Slice lo hi none p2) pos) (tE W (fSl fa fl fh)) := ⟨fun pins s σ H Q I q => by
  obtain ⟨ι, us, h, σ0, R, S, u, h', e, k⟩ := q
  unfold fSl at e
  cases e1 : fa us h with
  | none => simp only [e1] at e; cases e
  | some p1 =>
    obtain ⟨x, h1⟩ := p1
    cases e2 : fl us h1 with
    | none => simp only [e1, e2] at e; cases e
    | some p2 =>
      obtain ⟨ol, h2⟩ := p2
      cases e3 : fh us h2 with
      | none => simp only [e1, e2, e3] at e; cases e
      | some p3 =>
        obtain ⟨oh, h3⟩ := p3
        simp only [e1, e2, e3] at e
        unfold slop at e
        cases q1 : part ol with
        | none => simp only [q1] at e; cases e
        | some l =>
          cases q2 : part oh with
          | none => simp only [q1, q2] at e; cases e
          | some r =>
            simp only [q1, q2] at e
            have go : ∀ P : V → Hp → Prop, (∀ ι3 v H3, Rep W ι3 h3 H3 → Ext ι h.n H ι3 h3.n H3 → RU W ι3 h3.n H3 x v → P v H3) → tE W fa σ H fun v H1 => fO W fl σ H1 fun lo' H2 => fO W fh σ H2 fun hi' H3 => lo' = l ∧ hi' = r ∧ P v H3 := fun P kk =>
              ⟨ι, us, h, σ0, R, S, x, h1, e1, fun ι1 v H1 R1 X1 r1 => ⟨ι1, us, h1, σ0, R1, S.mono X1 R.mu, ol, h2, l, e2, q1, fun ι2 H2 R2 X2 => ⟨ι2, us, h2, σ0, R2, S.mono (X1.trans X2) R.mu, oh, h3, r, e3, q2, fun ι3 H3 R3 X3 =>
                ⟨rfl, rfl, kk ι3 v H3 R3 ((X1.trans X2).trans X3) (R1.ext (X2.trans X3) r1)⟩⟩⟩⟩
            cases x with
            | tup xs =>
              cases e
              refine (pe_slice sl_tupA ha hl hh).run pins s σ H Q I ?_
              obtain ⟨ι', us', h0, σ0', R', S', x', h1', e1', k1⟩ := go (fun v H3 => rSlA X.K v l r H3 Q) fun ι3 v H3 R3 X3 r3 => by
                rw [ok.K]
                cases r3 with
                | @tup _ vs ad s rr =>
                  refine ⟨_, _, rfl, s, fun z => ?_, fun z p np => fin_newTup R3 (k.of X3) (cut_ok rr l r) np⟩
                  have ec : cut xs l r = xs := by
                    unfold cut
                    rw [clip_ok, clip_ok, rr.len, z.1, z.2]
                    rw [← rr.len]
                    simp
                  rw [ec] at k
                  exact fin_tup R3 (k.of X3) s rr
              refine ⟨ι', us', h0, σ0', R', S', x', h1', e1', fun ι2 v2 H2 R2 X2 r2 => ?_⟩
              obtain ⟨a1, a2, a3, a4, a5, a6, a7, a8, a9, a10, a11, k2⟩ := k1 ι2 v2 H2 R2 X2 r2
              refine ⟨a1, a2, a3, a4, a5, a6, a7, a8, a9, a10, a11, fun ι3 H3 R3 X3 => ?_⟩
              obtain ⟨b1, b2, b3, b4, b5, b6, b7, b8, b9, b10, b11, k3⟩ := k2 ι3 H3 R3 X3
              refine ⟨b1, b2, b3, b4, b5, b6, b7, b8, b9, b10, b11, fun ι4 H4 R4 X4 => ?_⟩
              obtain ⟨c1, c2, c3⟩ := k3 ι4 H4 R4 X4
              rw [c1, c2]
              exact c3
            | ref i =>
              cases q3 : h3.lst i with
              | none => simp only [q3] at e; cases e
              | some xs =>
                simp only [q3] at e
                cases e
                refine (pe_slice sl_list ha hl hh).run pins s σ H Q I ?_
                obtain ⟨ι', us', h0, σ0', R', S', x', h1', e1', k1⟩ := go (fun v H3 => rSlL X.K v l r H3 Q) fun ι3 v H3 R3 X3 r3 => by
                  obtain ⟨vs, rfl, g1, rr⟩ := r3.ref_lst R3 q3
                  exact ⟨_, _, rfl, SqL.of g1, fun p np => fin_new R3 (k.of X3) (.lst (cut_ok rr l r)) np⟩
                refine ⟨ι', us', h0, σ0', R', S', x', h1', e1', fun ι2 v2 H2 R2 X2 r2 => ?_⟩
                obtain ⟨a1, a2, a3, a4, a5, a6, a7, a8, a9, a10, a11, k2⟩ := k1 ι2 v2 H2 R2 X2 r2
                refine ⟨a1, a2, a3, a4, a5, a6, a7, a8, a9, a10, a11, fun ι3 H3 R3 X3 => ?_⟩
                obtain ⟨b1, b2, b3, b4, b5, b6, b7, b8, b9, b10, b11, k3⟩ := k2 ι3 H3 R3 X3
                refine ⟨b1, b2, b3, b4, b5, b6, b7, b8, b9, b10, b11, fun ι4 H4 R4 X4 => ?_⟩
                obtain ⟨c1, c2, c3⟩ := k3 ι4 H4 R4 X4
                rw [c1, c2]
                exact c3
            | _ => cases e⟩
theorem RUs.rev {ι : Nat → Addr} {n : Nat} {H : Hp} {us : List U} {vs : List V} (r : RUs W ι n H us vs) : RUs W ι n H us.reverse vs.reverse := by
  induction us generalizing vs with
  | nil => cases r; exact .nil
  | cons u us ih =>
    cases r with
    | cons a r =>
      simp only [List.reverse_cons]
      exact (ih r).append (.cons a .nil)
theorem se_rev {kk : Nat} {p1 p2 p3 : Pos} (ha : PE X a (tE W fa)) : PE X (.Subscript a (.Slice none none (some (.UnaryOp .USub (.Constant (.int 1) kk p1) p2)) p3) pos) (tE W fun us h => match fa us h with
    | some (.ref i, h1) => match h1.lst i with
      | some xs => some (.ref h1.n, h1.new (.lst xs.reverse))
      | none => none
    | _ => none) :=
  PE.imp (pe_revL ha) fun σ H Q ⟨ι, us, h, σ0, R, S, u, h', e, k⟩ => by
    cases q : fa us h with
    | none => simp only [q] at e; cases e
    | some p =>
      obtain ⟨x, h1⟩ := p
      cases x with
      | ref i =>
        cases q2 : h1.lst i with
        | none => simp only [q, q2] at e; cases e
        | some xs =>
          simp only [q, q2] at e
          cases e
          refine ⟨ι, us, h, σ0, R, S, .ref i, h1, q, fun ι2 v H2 R2 X2 rv => ?_⟩
          obtain ⟨vs, rfl, g1, rr⟩ := rv.ref_lst R2 q2
          exact ⟨_, _, rfl, SqL.of g1, fun p np => fin_new R2 (k.of X2) (.lst rr.rev) np⟩
      | _ => simp only [q] at e; cases e
end
end Se
set_option Elab.async false
set_option linter.all false
set_option maxRecDepth 100000
/-! Se over the hand layer: built-ins, methods of lists, fields, targets, statements. -/
namespace Se
open PySem PySem.Spec
open PyProof.Rows L2

section
variable {W : Wd} {X : Cx} {d : Nat} {Γ : Bd} (G : Γ.ok W.θ) (ok : XOk W d X) {a b c : Expr} {pos p : Pos} {fa fb fc : Env → MH → Option (U × MH)}
/-! ### built-ins of one argument -/
def fBi (bi : BI) (fa : Env → MH → Option (U × MH)) : Env → MH → Option (U × MH) := fun us h => match fa us h with
  | none => none
  | some (x, h1) => biop bi x h1
/-- one argument's reading -/
theorem arg1 {r : List V → Hp → VK → Prop} {f : U → MH → Option (U × MH)} {e : Expr} (h : PE X e (tCB r (tCons (tE W fa) tNil))) (o : ∀ x h u h', f x h = some (u, h') → ∀ ι v H Q, Rep W ι h H → RU W ι h.n H x v → Fin W ι h H h' u Q → r [v] H Q) :
    PE X e (tE W fun us h => match fa us h with
      | none => none
      | some (x, h1) => f x h1) :=
  PE.imp h fun σ H Q ⟨ι, us, h, σ0, R, S, u, h', e, k⟩ => by
    cases q : fa us h with
    | none => simp only [q] at e; cases e
    | some pr =>
      obtain ⟨x, h1⟩ := pr
      simp only [q] at e
      exact ⟨ι, us, h, σ0, R, S, x, h1, q, fun ι2 v H2 R2 X2 rv => o x h1 u h' e ι2 v H2 Q R2 rv (k.of X2)⟩
theorem hpl_nil (env : PySem.Env) (pos : Pos) : (backTo pos (starEach [] env)).any (·.1) = false := rfl
include ok in
theorem se_len (hg : Gl X "len") (hm : W.mg "len" = none) (ha : PE X a (tE W fa)) (hs : noStar a = true) : PE X (.Call (.Name "len" p) [a] [] pos) (tE W (fBi .len fa)) := by
  refine arg1 (f := biop .len) (pe_callB call_len_seq hg (by rw [ok.mg]; exact hm) PySem.boot_len (pa_cons ha pa_nil (star_of hs [] X.env)) (by decide) (by decide) (star_of hs [] X.env) (hpl_nil _ _)) fun x h u h' e ι v H Q R rv k => ?_
  rw [ok.K]
  cases x with
  | tup xs =>
    cases e
    cases rv with
    | tup s r => exact ⟨_, _, rfl, .inr s, by rw [← r.len]; exact fin_now R k (.int _)⟩
  | ref i =>
    have e1 : (match h.lst i with | none => none | some xs => some (U.int (.lit xs.length), h)) = some (u, h') := e
    cases q : h.lst i with
    | none => simp only [q] at e1; cases e1
    | some xs =>
      simp only [q] at e1
      cases e1
      obtain ⟨vs, rfl, g, r⟩ := rv.ref_lst R q
      exact ⟨_, _, rfl, .inl (SqL.of g), by rw [← r.len]; exact fin_now R k (.int _)⟩
  | _ => cases e
include ok in
theorem se_int (hg : Gl X "int") (hm : W.mg "int" = none) (ha : PE X a (tE W fa)) (hs : noStar a = true) : PE X (.Call (.Name "int" p) [a] [] pos) (tE W (fBi .int fa)) := by
  refine arg1 (f := biop .int) (pe_callTy call_int1 hg (by rw [ok.mg]; exact hm) boot_int (pa_cons ha pa_nil (star_of hs [] X.env)) (by decide) (by decide) (star_of hs [] X.env) (hpl_nil _ _)) fun x h u h' e ι v H Q R rv k => ?_
  cases x with
  | bl k1 =>
    cases e
    cases rv
    refine .inr ⟨_, rfl, fin_now R k ?_⟩
    cases k1 <;> exact .int _
  | int i =>
    cases e
    rw [rv.ints]
    exact .inl ⟨_, rfl, fin_now R k (.int _)⟩
  | _ => cases e
include ok in
theorem se_list (hg : Gl X "list") (hm : W.mg "list" = none) (ha : PE X a (tE W fa)) (hs : noStar a = true) : PE X (.Call (.Name "list" p) [a] [] pos) (tE W (fBi .list fa)) := by
  refine arg1 (f := biop .list) (pe_callTy call_list_of hg (by rw [ok.mg]; exact hm) (by decide +kernel) (pa_cons ha pa_nil (star_of hs [] X.env)) (by decide) (by decide) (star_of hs [] X.env) (hpl_nil _ _)) fun x h u h' e ι v H Q R rv k => ?_
  rw [ok.K]
  cases x with
  | tup xs =>
    cases e
    cases rv with
    | tup s r => exact ⟨_, _, rfl, .inr s, fun l nl => fin_new R k (.lst r) nl⟩
  | ref i =>
    have e1 : (match h.lst i with | none => none | some xs => some (U.ref h.n, h.new (.lst xs))) = some (u, h') := e
    cases q : h.lst i with
    | none => simp only [q] at e1; cases e1
    | some xs =>
      simp only [q] at e1
      cases e1
      obtain ⟨vs, rfl, g, r⟩ := rv.ref_lst R q
      exact ⟨_, _, rfl, .inl (SqL.of g), fun l nl => fin_new R k (.lst r) nl⟩
  | _ => cases e
include ok in
theorem se_tuple (hg : Gl X "tuple") (hm : W.mg "tuple" = none) (ha : PE X a (tE W fa)) (hs : noStar a = true) : PE X (.Call (.Name "tuple" p) [a] [] pos) (tE W (fBi .tuple fa)) := by
  refine arg1 (f := biop .tuple) (pe_callTy call_tuple_of hg (by rw [ok.mg]; exact hm) (by decide +kernel) (pa_cons ha pa_nil (star_of hs [] X.env)) (by decide) (by decide) (star_of hs [] X.env) (hpl_nil _ _)) fun x h u h' e ι v H Q R rv k => ?_
  rw [ok.K]
  cases x with
  | tup xs =>
    cases e
    cases rv with
    | tup s r => exact ⟨_, _, rfl, .inr ⟨s, fin_tup R k s r⟩⟩
  | ref i =>
    have e1 : (match h.lst i with | none => none | some xs => some (U.tup xs, h)) = some (u, h') := e
    cases q : h.lst i with
    | none => simp only [q] at e1; cases e1
    | some xs =>
      simp only [q] at e1
      cases e1
      obtain ⟨vs, rfl, g, r⟩ := rv.ref_lst R q
      exact ⟨_, _, rfl, .inl ⟨SqL.of g, fun l nl => fin_newTup R k r nl⟩⟩
  | _ => cases e
/-! ### isinstance -/
def tyS : Ty → String
  | .tuple => "tuple"
  | .list => "list"
  | .bool => "bool"
  | .int => "int"
  | .str => "str"
def isi1 (a : String) (t : Ty) : Bool := match a, t with
  | "bool", .bool => true
  | "bool", .int => true
  | "int", .int => true
  | "str", .str => true
  | "tuple", .tuple => true
  | "list", .list => true
  | _, _ => false
theorem isi_ty {ι : Nat → Addr} {h : MH} {H : Hp} (R : Rep W ι h H) {x : U} {v : V} (r : RU W ι h.n H x v) {t : Ty} {k : Bool} (e : isiop h x t = some k) : ∃ s, TyX W.K H v (.type s) ∧ kitB s (tyS t) = some k := by
  cases x with
  | non => cases r; cases e; exact ⟨"NoneType", .base .non, by cases t <;> decide +kernel⟩
  | bl b => cases r; refine ⟨"bool", .base (.bl b), ?_⟩; cases t <;> (cases e; decide +kernel)
  | int i => cases r; refine ⟨"int", .base (.int _), ?_⟩; cases t <;> (cases e; decide +kernel)
  | str z => cases r; refine ⟨"str", .base (.str _), ?_⟩; cases t <;> (cases e; decide +kernel)
  | tup xs =>
    cases r with
    | @tup _ vs ad s q =>
      refine ⟨"tuple", ?_, by cases t <;> (cases e; decide +kernel)⟩
      rcases s with (s | ⟨o, s⟩) | ⟨o, its, n, s1, s2, _⟩
      · exact .base (.tup s)
      · exact .fTuple s
      · exact .kTuple s1 s2
  | ref i =>
    cases q : h.lst i with
    | none => simp only [isiop, q] at e; cases e
    | some xs =>
      obtain ⟨vs, rfl, g, _⟩ := r.ref_lst R q
      refine ⟨"list", .base (.lst g), ?_⟩
      cases t <;> (simp only [isiop, q] at e; cases e; decide +kernel)
include ok in
theorem se_isi {t : Ty} {q : Pos} (hg : Gl X "isinstance") (hm : W.mg "isinstance" = none) (hg2 : Gl X (Str.ofString (tyS t))) (hm2 : W.mg (Str.ofString (tyS t)) = none) (ha : PE X a (tE W fa)) (hs : noStar a = true) :
    PE X (.Call (.Name "isinstance" p) [a, .Name (Str.ofString (tyS t)) q] [] pos) (tE W fun us h => match fa us h with
      | none => none
      | some (x, h1) => match isiop h1 x t with
        | none => none
        | some b => some (.bl b, h1)) := by
  have e2 : PE X (.Name (Str.ofString (tyS t)) q) (tC (.ty (tyS t))) := by
    have hm3 : X.mg (Str.ofString (tyS t)) = none := by rw [ok.mg]; exact hm2
    cases t <;> exact pe_bltn (v := .ty _) hg2 hm3 (by decide +kernel) rfl (by decide) (by decide)
  refine PE.imp (pe_callB call_isi hg (by rw [ok.mg]; exact hm) (by decide +kernel) (pa_cons ha (pa_cons e2 pa_nil) (star_of hs _ X.env)) (by decide) (by decide) (star_of hs _ X.env) rfl) fun σ H Q ⟨ι, us, h, σ0, R, S, u, h', e, k⟩ => ?_
  cases q1 : fa us h with
  | none => simp only [q1] at e; cases e
  | some pr =>
    obtain ⟨x, h1⟩ := pr
    cases q2 : isiop h1 x t with
    | none => simp only [q1, q2] at e; cases e
    | some b =>
      simp only [q1, q2] at e
      cases e
      refine ⟨ι, us, h, σ0, R, S, x, h', q1, fun ι2 v H2 R2 X2 rv => ?_⟩
      obtain ⟨s, t1, t2⟩ := isi_ty R2 rv q2
      show rIsi X.K [v, .ty (tyS t)] H2 Q
      rw [ok.K]
      exact ⟨v, _, _, _, b, rfl, .ty _, t1, kit_ty t2, k ι2 _ H2 R2 X2 (.bl b)⟩
/-! ### append, pop, extend -/
def fBm (bm : BM) (fa : Env → MH → Option (U × MH)) (fs : Env → MH → Option (List U × MH)) : Env → MH → Option (U × MH) := fun us h => match fa us h with
  | some (.ref i, h1) => match h1.lst i with
    | none => none
    | some _ => match fs us h1 with
      | none => none
      | some (xs, h2) => bmop bm (.ref i) xs h2
  | _ => none
theorem fBm_some {bm : BM} {fs : Env → MH → Option (List U × MH)} {us : Env} {h : MH} {o : U × MH} (e : fBm bm fa fs us h = some o) :
    ∃ i h1 zs ys h2 xs, fa us h = some (.ref i, h1) ∧ h1.lst i = some zs ∧ fs us h1 = some (ys, h2) ∧ h2.lst i = some xs ∧ bmop bm (.ref i) ys h2 = some o := by
  unfold fBm at e
  cases q : fa us h with
  | none => simp only [q] at e; cases e
  | some pr =>
    obtain ⟨x, h1⟩ := pr
    cases x with
    | ref i =>
      cases q2 : h1.lst i with
      | none => simp only [q, q2] at e; cases e
      | some zs =>
        cases q3 : fs us h1 with
        | none => simp only [q, q2, q3] at e; cases e
        | some pr2 =>
          obtain ⟨ys, h2⟩ := pr2
          simp only [q, q2, q3] at e
          cases q4 : h2.lst i with
          | none => simp only [bmop, q4] at e; cases e
          | some xs => exact ⟨i, h1, zs, ys, h2, xs, rfl, q2, q3, q4, e⟩
    | _ => simp only [q] at e; cases e
theorem few1 {X : Cx} {e : Expr} (hs : noStar e = true) (pos : Pos) : (((backTo pos (starEach [e] X.env)).all fun x => !x.1) && (backToKw pos (keywordEach [] X.env)).all (fun x => x.1.isSome) &&
    decide (([e] : List Expr).length + ([] : List Keyword).length + (if ([] : List Keyword).isEmpty = true then 0 else 1) < 30)) = true := by
  rw [star_of hs [] X.env]
  rfl
theorem lastOf_ok {ι : Nat → Addr} {n : Nat} {H : Hp} : ∀ {us : List U} {vs : List V} {u : U}, RUs W ι n H us vs → lastOf us = some u → ∃ v, vs[vs.length - 1]? = some v ∧ RU W ι n H u v
  | _, _, _, .nil, e => nomatch e
  | _, _, _, .cons (v := v) a .nil, e => by
    cases e
    exact ⟨v, rfl, a⟩
  | _ :: _ :: _, _ :: _ :: vs, u, .cons a r, e => by
    obtain ⟨v, h1, h2⟩ := lastOf_ok (u := u) r e
    refine ⟨v, ?_, h2⟩
    simp only [List.length_cons]
    simpa using h1
theorem RUs.dropLast {ι : Nat → Addr} {n : Nat} {H : Hp} : ∀ {us : List U} {vs : List V}, RUs W ι n H us vs → RUs W ι n H us.dropLast vs.dropLast
  | [], [], _ => .nil
  | [_], [_], _ => .nil
  | [_], _ :: _ :: _, .cons _ r => nomatch r
  | _ :: _ :: _, [_], .cons _ r => nomatch r
  | _ :: _ :: _, _ :: _ :: _, .cons a r => .cons a (RUs.dropLast r)
theorem tyL {ι : Nat → Addr} {h : MH} {H : Hp} (R : Rep W ι h H) {i : Nat} {zs : List U} (e : h.lst i = some zs) {v : V} (r : RU W ι h.n H (.ref i) v) (K : PySem.W.Frag) : tyV K "list" v H := by
  obtain ⟨vs, rfl, g, _⟩ := r.ref_lst R e
  exact .inl ⟨rfl, _, SqL.of g⟩
theorem se_bm1 {ap : Pos} {m : Str} {id : String} {bm : BM} {r : V → List V → Hp → VK → Prop} {fs : Env → MH → Option (List U × MH)} (sl : PySem.Slot "list" m id) (ty : typeOf (.builtin id) = pure (.type "method_descriptor")) (mt : MtM X id r) (ha : PE X a (tE W fa)) (hb : PA X [b] (tA W fs)) (hp : plainObj a = true) (hs : noStar b = true) (hl : (ap.endLine == pos.line) = true)
    (o : ∀ i xs ys h u h', h.lst i = some xs → bmop bm (.ref i) ys h = some (u, h') → ∀ ι vs H Q, Rep W ι h H → i < h.n → RUs W ι h.n H ys vs → Fin W ι h H h' u Q → r (.ref (ι i)) vs H Q) :
    PE X (.Call (.Attribute a m ap) [b] [] pos) (tE W (fBm bm fa fs)) :=
  PE.imp (pe_bm PySem.F.plainAttrs_list sl ty mt ha hb (attr_of' hp _ _ _) (few1 hs pos) hl (star_of hs [] X.env) rfl) fun σ H Q ⟨ι, us, h, σ0, R, S, u, h', e, k⟩ => by
    obtain ⟨i, h1, zs, ys, h2, xs, e1, q1, e2, q2, e3⟩ := fBm_some e
    refine ⟨ι, us, h, σ0, R, S, _, h1, e1, fun ι1 v H1 R1 X1 r1 => ⟨tyL R1 q1 r1 _, ι1, us, h1, σ0, R1, S.mono X1 R.mu, ys, h2, e2, fun ι2 w H2 R2 X2 r2 => ?_⟩⟩
    have r3 := R1.ext X2 r1
    rw [r1.ref_i, ← X2.same i (by cases r1; assumption)]
    exact o i xs ys h2 u h' q2 e3 ι2 w H2 Q R2 (R2.lst q2).1 r2 (k.of (X1.trans X2))
theorem se_append {ap : Pos} {fs : Env → MH → Option (List U × MH)} (ha : PE X a (tE W fa)) (hb : PA X [b] (tA W fs)) (hp : plainObj a = true) (hs : noStar b = true) (hl : (ap.endLine == pos.line) = true) :
    PE X (.Call (.Attribute a "append" ap) [b] [] pos) (tE W (fBm .append fa fs)) :=
  se_bm1 (r := rAppend) PySem.F.slot_list_append PySem.F.type_list_append mt_append ha hb hp hs hl fun i xs ys h u h' q e ι vs H Q R hi rs k => by
    simp only [bmop, q] at e
    cases rs with
    | nil => cases e
    | cons r1 rr =>
      cases rr with
      | cons _ _ => cases e
      | nil =>
        cases q2 : small xs with
        | false => simp only [q2] at e; cases e
        | true =>
          simp only [q2] at e
          cases e
          obtain ⟨_, zs, g, r⟩ := R.lst q
          exact ⟨_, _, _, rfl, rfl, g, by rw [← r.len]; exact small_line (small_le q2), fin_upd R hi k (.lst (r.append (.cons r1 .nil))) .non⟩
theorem se_extend {ap : Pos} {fs : Env → MH → Option (List U × MH)} (ha : PE X a (tE W fa)) (hb : PA X [b] (tA W fs)) (hp : plainObj a = true) (hs : noStar b = true) (hl : (ap.endLine == pos.line) = true) :
    PE X (.Call (.Attribute a "extend" ap) [b] [] pos) (tE W (fBm .extend fa fs)) :=
  se_bm1 (r := rExtend) PySem.F.slot_list_extend PySem.F.type_list_extend mt_extend ha hb hp hs hl fun i xs ys h u h' q e ι vs H Q R hi rs k => by
    simp only [bmop, q] at e
    cases rs with
    | nil => cases e
    | @cons y v ys vs r1 rr =>
      cases rr with
      | cons _ _ => cases y <;> cases e
      | nil =>
        cases y with
        | ref j =>
          cases q2 : h.lst j with
          | none => simp only [q2] at e; cases e
          | some zs =>
            cases q3 : small (xs ++ zs) with
            | false => simp only [q2, q3] at e; cases e
            | true =>
              simp only [q2, q3] at e
              cases e
              obtain ⟨_, ws, g, r⟩ := R.lst q
              obtain ⟨ws2, rfl, g2, r2⟩ := r1.ref_lst R q2
              have l := small_le q3
              rw [List.length_append, r.len, r2.len] at l
              exact ⟨_, _, _, _, rfl, rfl, g, g2, Nat.le_of_lt (small_line l), fin_upd R hi k (.lst (r.append r2)) .non⟩
        | _ => cases e
theorem se_pop {ap : Pos} (ha : PE X a (tE W fa)) (hp : plainObj a = true) (hl : (ap.endLine == pos.line) = true) :
    PE X (.Call (.Attribute a "pop" ap) [] [] pos) (tE W (fBm .pop fa fun us h => some ([], h))) :=
  PE.imp (pe_bm0 PySem.F.plainAttrs_list PySem.F.slot_list_pop PySem.F.type_list_pop mt_pop ha (attr_of' hp _ _ _) hl) fun σ H Q ⟨ι, us, h, σ0, R, S, u, h', e, k⟩ => by
    obtain ⟨i, h1, zs, ys, h2, xs, e1, q1, e2, q2, e3⟩ := fBm_some e
    cases e2
    refine ⟨ι, us, h, σ0, R, S, _, h1, e1, fun ι1 v H1 R1 X1 r1 => ⟨tyL R1 q1 r1 _, ?_⟩⟩
    simp only [bmop, q2] at e3
    cases q3 : lastOf xs with
    | none => simp only [q3] at e3; cases e3
    | some y =>
      simp only [q3] at e3
      cases e3
      obtain ⟨vs, rfl, g, r⟩ := r1.ref_lst R1 q2
      obtain ⟨w, g1, g2⟩ := lastOf_ok r q3
      exact ⟨_, _, w, rfl, rfl, g, g1, fin_upd R1 (R1.lst q2).1 (k.of X1) (.lst r.dropLast) g2⟩

/-! ### fields -/
theorem fget_ok {ι : Nat → Addr} {n : Nat} {H : Hp} {cc : Addr} (nmI : ∀ i j, i < W.nN → j < W.nN → W.nm i = W.nm j → i = j) {f : Nat} (hf : f < W.nN) :
    ∀ {us : List (Nat × U)} {vs : List (Str × V)}, Paired (fun p q => (p.1 < W.nN ∧ q.1 = W.nm p.1 ∧ NoAttr W.K cc q.1) ∧ RU W ι n H p.2 q.2) us vs →
      (∀ {u : U}, fget f us = some u → NoAttr W.K cc (W.nm f) ∧ ∃ v, vs.lookup (W.nm f) = some v ∧ RU W ι n H u v) ∧ (fget f us = none → vs.lookup (W.nm f) = none)
  | _, _, .nil => ⟨fun {u} e => (by cases e), fun _ => rfl⟩
  | _, _, .cons (a := p) (b := q) r rr => by
    obtain ⟨g, x⟩ := p
    obtain ⟨gv, y⟩ := q
    obtain ⟨⟨r1, r2, r3⟩, r4⟩ := r
    replace r2 : gv = W.nm g := r2
    replace r1 : g < W.nN := r1
    replace r3 : NoAttr W.K cc gv := r3
    subst r2
    have ih := fget_ok nmI hf rr
    simp only [fget]
    cases z : Nat.beq f g with
    | true =>
      have zf := Nat.eq_of_beq_eq_true z
      subst zf
      refine ⟨fun {u} e => ?_, fun e => nomatch e⟩
      cases e
      exact ⟨r3, y, by simp [List.lookup_cons], r4⟩
    | false =>
      have ne : ¬ W.nm f = W.nm g := fun q => by
        rw [nmI _ _ hf r1 q, Nat.beq_refl] at z
        cases z
      have l : ∀ vs : List (Str × V), ((W.nm g, y) :: vs).lookup (W.nm f) = vs.lookup (W.nm f) := fun vs => by
        rw [List.lookup_cons, beq_eq_false_iff_ne.mpr ne]
      rw [l]
      exact ih
theorem fput_ok {ι : Nat → Addr} {n : Nat} {H : Hp} {cc : Addr} (nmI : ∀ i j, i < W.nN → j < W.nN → W.nm i = W.nm j → i = j) {f : Nat} (hf : f < W.nN) (na : NoAttr W.K cc (W.nm f)) {u : U} {v : V} (ru : RU W ι n H u v) :
    ∀ {us : List (Nat × U)} {vs : List (Str × V)}, Paired (fun p q => (p.1 < W.nN ∧ q.1 = W.nm p.1 ∧ NoAttr W.K cc q.1) ∧ RU W ι n H p.2 q.2) us vs →
      Paired (fun p q => (p.1 < W.nN ∧ q.1 = W.nm p.1 ∧ NoAttr W.K cc q.1) ∧ RU W ι n H p.2 q.2) (fput f u us) (putF (W.nm f) v vs)
  | _, _, .nil => .cons ⟨⟨hf, rfl, na⟩, ru⟩ .nil
  | _, _, .cons (a := p) (b := q) (l₂ := vs) r rr => by
    obtain ⟨g, x⟩ := p
    obtain ⟨gv, y⟩ := q
    obtain ⟨⟨r1, r2, r3⟩, r4⟩ := r
    replace r2 : gv = W.nm g := r2
    replace r1 : g < W.nN := r1
    replace r3 : NoAttr W.K cc gv := r3
    subst r2
    have ih := fput_ok nmI hf na ru rr
    simp only [fput]
    show Paired _ _ (if W.nm g = W.nm f then (W.nm g, v) :: vs else (W.nm g, y) :: putF (W.nm f) v vs)
    cases z : Nat.beq f g with
    | true =>
      have zf := Nat.eq_of_beq_eq_true z
      subst zf
      rw [if_pos rfl]
      exact .cons ⟨⟨r1, rfl, r3⟩, ru⟩ rr
    | false =>
      have ne : ¬ W.nm g = W.nm f := fun q => by
        rw [nmI _ _ r1 hf q, Nat.beq_refl] at z
        cases z
      rw [if_neg ne]
      exact .cons ⟨⟨r1, rfl, r3⟩, r4⟩ ih
end
end Se
set_option Elab.async false
set_option linter.all false
set_option maxRecDepth 100000
/-! Se over the hand layer: attributes, targets, statements. -/
namespace Se
open PySem PySem.Spec
open PyProof.Rows L2

/-- attributes' names are unlike; where the classes' attributes may be stored -/
structure NmOk (W : Wd) (P : Pg) : Prop where
  inj : ∀ i j, i < W.nN → j < W.nN → W.nm i = W.nm j → i = j
  noat : ∀ c f, P.fa c f = true → f < W.nN ∧ NoAttr W.K (W.C c) (W.nm f)
section
variable {W : Wd} {P : Pg} (N : NmOk W P) {X : Cx} {d : Nat} {Γ : Bd} (G : Γ.ok W.θ) (ok : XOk W d X) {a b c : Expr} {pos p : Pos} {fa fb fc : Env → MH → Option (U × MH)}
theorem get_ins {ι : Nat → Addr} {h : MH} {H : Hp} (R : Rep W ι h H) {i cc : Nat} {fs : List (Nat × U)} (e : h.get i = some (.ins cc fs)) :
    i < h.n ∧ ∃ dx vs, H (ι i) = some (.ins (W.C cc) dx vs) ∧ Cls W.K (W.C cc) ∧ Paired (fun p q => (p.1 < W.nN ∧ q.1 = W.nm p.1 ∧ NoAttr W.K (W.C cc) q.1) ∧ RU W ι h.n H p.2 q.2) fs vs := by
  obtain ⟨u, h1, h2⟩ := R.at_ i _ e
  cases h2 with
  | ins hc r => exact ⟨(MH.get_lt e).1, _, _, h1, hc, r⟩
include N in
theorem fldop_ok {ι : Nat → Addr} {h : MH} {H : Hp} (R : Rep W ι h H) {x : U} {v : V} (r : RU W ι h.n H x v) {f : Nat} (hf : f < W.nN) {u : U} (e : fldop x f h = some u) :
    ∃ ad C dx fs w, v = .ref ad ∧ H ad = some (.ins C dx fs) ∧ Cls W.K C ∧ NoAttr W.K C (W.nm f) ∧ fs.lookup (W.nm f) = some w ∧ RU W ι h.n H u w := by
  cases x with
  | ref i =>
    cases q : h.get i with
    | none => simp only [fldop, q] at e; cases e
    | some o => cases o with
      | ins cc fs =>
        simp only [fldop, q] at e
        obtain ⟨_, dx, vs, h1, hc, rr⟩ := get_ins R q
        obtain ⟨na, w, h2, h3⟩ := (fget_ok N.inj hf rr).1 e
        exact ⟨_, _, dx, vs, w, r.ref_i, h1, hc, na, h2, h3⟩
      | _ => simp only [fldop, q] at e; cases e
  | _ => cases e
def fFld (f : Nat) (fa : Env → MH → Option (U × MH)) : Env → MH → Option (U × MH) := fun us h => match fa us h with
  | none => none
  | some (x, h1) => match fldop x f h1 with
    | none => none
    | some v => some (v, h1)
include N ok in
theorem se_fld {f : Nat} (hf : f < W.nN) (ha : PE X a (tE W fa)) (hp : plainObj a = true) : PE X (.Attribute a (W.nm f) pos) (tE W (fFld f fa)) :=
  PE.imp (pe_fld ha (attr_of' hp _ _ _)) fun σ H Q ⟨ι, us, h, σ0, R, S, u, h', e, k⟩ => by
    unfold fFld at e
    cases q : fa us h with
    | none => simp only [q] at e; cases e
    | some pr =>
      obtain ⟨x, h1⟩ := pr
      cases q2 : fldop x f h1 with
      | none => simp only [q, q2] at e; cases e
      | some v =>
        simp only [q, q2] at e
        cases e
        refine ⟨ι, us, h, σ0, R, S, x, h', q, fun ι2 v2 H2 R2 X2 rv => ?_⟩
        obtain ⟨ad, C, dx, fs, w, e1, e2, e3, e4, e5, e6⟩ := fldop_ok N R2 rv hf q2
        rw [ok.K]
        exact ⟨ad, C, dx, fs, w, e1, e2, e3, e4, e5, k ι2 _ H2 R2 X2 e6⟩
include N in
theorem fldset_ok {ι : Nat → Addr} {h h' : MH} {H : Hp} (R : Rep W ι h H) {x u : U} {v w : V} (r : RU W ι h.n H x v) (ru : RU W ι h.n H u w) {f : Nat} (e : fldset P.fa x f u h = some h') :
    ∃ ad C dx fs, v = .ref ad ∧ H ad = some (.ins C dx fs) ∧ Cls W.K C ∧ NoAttr W.K C (W.nm f) ∧ fs.length < 1000 ∧ Rep W ι h' (L2.upd H ad (.ins C dx (putF (W.nm f) w fs))) ∧ Ext ι h.n H ι h'.n (L2.upd H ad (.ins C dx (putF (W.nm f) w fs))) := by
  cases x with
  | ref i =>
    cases q : h.get i with
    | none => simp only [fldset, q] at e; cases e
    | some o => cases o with
      | ins cc fs =>
        cases q2 : P.fa cc f with
        | false => simp only [fldset, q, q2] at e; cases e
        | true =>
          cases q3 : Nat.ble fs.length 900 with
          | false => simp only [fldset, q, q2, q3] at e; cases e
          | true =>
            simp only [fldset, q, q2, q3] at e
            cases e
            obtain ⟨hi, dx, vs, h1, hc, rr⟩ := get_ins R q
            obtain ⟨hf, na⟩ := N.noat _ _ q2
            have l : fs.length ≤ 900 := Nat.le_of_ble_eq_true q3
            obtain ⟨R', X'⟩ := R.upd hi (.ins (dx := dx) hc (fput_ok N.inj hf na ru rr))
            exact ⟨_, _, dx, vs, r.ref_i, h1, hc, na, by rw [← Paired.length rr]; omega, R', X'⟩
      | _ => simp only [fldset, q] at e; cases e
  | _ => cases e

/-! ### targets -/
def gFld (K : PySem.W.Frag) (to : TE) (f : Str) : TG := fun v σ H Q => to σ H fun x H1 => ∃ ad C dx fs, x = .ref ad ∧ H1 ad = some (.ins C dx fs) ∧ Cls K C ∧ NoAttr K C f ∧ fs.length < 1000 ∧ Q σ (L2.upd H1 ad (.ins C dx (putF f v fs)))
theorem pg_fld {o : Expr} {to : TE} {f : Str} (ho : PE X o to) : PG X (.Attribute o f pos) (gFld X.K to f) := by
  refine ⟨fun pn s σ H v u Q I r h => ?_⟩
  rw [arm_assign_Attribute]
  refine wpAny_bind (wpAny_holding (thn (ho.run pn s σ H _ I h) fun ov s1 ⟨x, H1, I1, r1, ad, C, dx, fs, ex, q1, q2, q3, q4, q5⟩ => ?_))
  subst ex
  have eo : ov = Value.ref ad := r1
  subst eo
  exact wpAny_bind (wpAny_standAt (wpAny_bind (wpAny_holding (setattr_ok I1 q1 q2 q3 q4 r fun s2 I2 => wpAny_release ⟨σ, _, I2, q5⟩))))
def gnames : MG → List Nat
  | .name i => [i]
  | .tup gs => gnamesL gs
  | _ => []
where gnamesL : List MG → List Nat
  | [] => []
  | g :: r => gnames g ++ gnamesL r
/-- behind a target: its names' slots alone are otherwise -/
def GFin (W : Wd) (ι : Nat → Addr) (h : MH) (H : Hp) (σ0 σ : L2.St) (ns : List Nat) (us' : Env) (h' : MH) (Q : L2.St → Hp → Prop) : Prop :=
  ∀ ι' σ' H', Rep W ι' h' H' → Ext ι h.n H ι' h'.n H' → RS W ι' h'.n H' σ0 us' σ' → (∀ j, j ∉ ns → σ'[j]? = σ[j]?) → Q σ' H'
def tG (W : Wd) (ns : List Nat) (f : U → Env → MH → Option (Env × MH)) : TG := fun v σ H Q => ∃ ι us h σ0 u, Rep W ι h H ∧ RS W ι h.n H σ0 us σ ∧ RU W ι h.n H u v ∧ ∃ us' h', f u us h = some (us', h') ∧ GFin W ι h H σ0 σ ns us' h' Q
def tGs (W : Wd) (ns : List Nat) (f : List U → Env → MH → Option (Env × MH)) : TGs := fun vs σ H Q => ∃ ι us h σ0 xs, Rep W ι h H ∧ RS W ι h.n H σ0 us σ ∧ RUs W ι h.n H xs vs ∧ ∃ us' h', f xs us h = some (us', h') ∧ GFin W ι h H σ0 σ ns us' h' Q
theorem sg_name {i : Nat} (h : PG X a (gName i)) : PG X a (tG W [i] fun u us h => some (setV us i u, h)) :=
  PG.imp h fun v σ H Q ⟨ι, us, h, σ0, u, R, S, r, us', h', e, k⟩ => by
    cases e
    exact k ι _ H R Ext.refl (S.set r) fun j hj => List.getElem?_set_ne (by simpa using Ne.symm (by simpa using hj))
include N ok in
theorem sg_fld {f : Nat} (ha : PE X a (tE W fa)) : PG X (.Attribute a (W.nm f) pos) (tG W [] fun u us h => match fa us h with
    | none => none
    | some (x, h1) => match fldset P.fa x f u h1 with
      | none => none
      | some h2 => some (us, h2)) :=
  PG.imp (pg_fld ha) fun v σ H Q ⟨ι, us, h, σ0, u, R, S, r, us', h', e, k⟩ => by
    cases q : fa us h with
    | none => simp only [q] at e; cases e
    | some pr =>
      obtain ⟨x, h1⟩ := pr
      cases q2 : fldset P.fa x f u h1 with
      | none => simp only [q, q2] at e; cases e
      | some h2 =>
        simp only [q, q2] at e
        cases e
        refine ⟨ι, us, h, σ0, R, S, x, h1, q, fun ι2 v2 H2 R2 X2 rv => ?_⟩
        obtain ⟨ad, C, dx, fs, e1, e2, e3, e4, e5, R3, X3⟩ := fldset_ok N R2 rv (R.ext X2 r) q2
        rw [ok.K]
        exact ⟨ad, C, dx, fs, e1, e2, e3, e4, e5, k ι2 σ _ R3 (X2.trans X3) (S.mono (X2.trans X3) R.mu) fun _ _ => rfl⟩
/-- o[i] = u -/
theorem setN_ok {ι : Nat → Addr} {n : Nat} {H : Hp} {u : U} {v : V} (ru : RU W ι n H u v) : ∀ {us : List U} {vs : List V} {i : Nat} {ys : List U}, RUs W ι n H us vs → setN us i u = some ys → i < vs.length ∧ RUs W ι n H ys (vs.set i v)
  | _, _, _, _, .nil, e => nomatch e
  | _, _, 0, _, .cons a r, e => by
    cases e
    exact ⟨Nat.succ_pos _, .cons ru r⟩
  | _, _, i + 1, _, .cons (us := us) a r, e => by
    simp only [setN] at e
    cases q : setN us i u with
    | none => simp only [q] at e; cases e
    | some ys =>
      simp only [q] at e
      cases e
      obtain ⟨h1, h2⟩ := setN_ok ru r q
      exact ⟨Nat.succ_lt_succ h1, .cons a h2⟩
def rSetA : TSet := fun o i v H Q => rSetL o i v H Q ∨ rSetD o i v H Q
include ok in
theorem set_any : PSet X rSetA := fun pins s σ H o i v ov iv u Q I r1 r2 r3 h => by
  rcases h with h | h
  · exact set_list pins s σ H o i v ov iv u Q I r1 r2 r3 h
  · exact set_dict (by have := ok.units; omega) pins s σ H o i v ov iv u Q I r1 r2 r3 h
theorem subset_ok {ι : Nat → Addr} {h h' : MH} {H : Hp} (R : Rep W ι h H) {x y u : U} {v w z : V} (r : RU W ι h.n H x v) (ry : RU W ι h.n H y w) (ru : RU W ι h.n H u z) (e : subset x y u h = some h') {Q : Hp → Prop}
    (k : ∀ H', Rep W ι h' H' → Ext ι h.n H ι h'.n H' → Q H') : rSetA v w z H Q := by
  cases x with
  | ref i =>
    cases q : h.get i with
    | none => simp only [subset, q] at e; cases e
    | some o => cases o with
      | lst xs => cases y with
        | int n => cases n with
          | lit n =>
            cases q2 : decide (0 ≤ n) with
            | false => simp only [subset, q, q2] at e; cases e
            | true =>
              cases q3 : setN xs n.toNat u with
              | none => simp only [subset, q, q2, q3] at e; cases e
              | some ys =>
                simp only [subset, q, q2, q3] at e
                cases e
                obtain ⟨hi, vs, g, rr⟩ := R.lst (show h.lst i = some xs by unfold MH.lst; rw [q])
                obtain ⟨h1, h2⟩ := setN_ok ru rr q3
                have hn := of_decide_eq_true q2
                obtain ⟨R', X'⟩ := R.upd hi (.lst h2)
                refine .inl ⟨_, _, _, _, r.ref_i, ry.ints, g, ?_, k _ R' X'⟩
                show ixN vs.length n = some n.toNat
                unfold ixN
                rw [if_pos hn, if_pos (by omega)]
          | pol c ms => simp only [subset, q] at e; cases e
        | _ => simp only [subset, q] at e; cases e
      | dK kvs =>
        cases q2 : keyU y with
        | none => simp only [subset, q, q2] at e; cases e
        | some key =>
          cases q3 : Nat.ble kvs.length 1000000 with
          | false => simp only [subset, q, q2, q3] at e; cases e
          | true =>
            simp only [subset, q, q2, q3] at e
            cases e
            obtain ⟨hi, vs, g, rr⟩ := get_dK R q
            obtain ⟨R', X'⟩ := R.upd hi (.dK (putK_ok ru rr))
            refine .inr ⟨_, _, r.ref_i, ?_, k _ R' X'⟩
            rw [keyU_ok q2 ry]
            exact DPut.k g (by rw [← Paired.length rr]; exact small_line (Nat.le_of_ble_eq_true q3))
      | _ => simp only [subset, q] at e; cases e
  | _ => cases e
include ok in
theorem sg_sub (ha : PE X a (tE W fa)) (hb : PE X b (tE W fb)) (hs : noSl b = true) : PG X (.Subscript a b pos) (tG W [] fun u us h => match fa us h with
    | none => none
    | some (x, h1) => match fb us h1 with
      | none => none
      | some (y, h2) => match subset x y u h2 with
        | none => none
        | some h3 => some (us, h3)) :=
  PG.imp (pg_sub ha hb (set_any ok) (fun v => by cases b <;> first | rfl | cases hs)) fun v σ H Q ⟨ι, us, h, σ0, u, R, S, r, us', h', e, k⟩ => by
    cases q : fa us h with
    | none => simp only [q] at e; cases e
    | some pr =>
      obtain ⟨x, h1⟩ := pr
      cases q2 : fb us h1 with
      | none => simp only [q, q2] at e; cases e
      | some pr2 =>
        obtain ⟨y, h2⟩ := pr2
        cases q3 : subset x y u h2 with
        | none => simp only [q, q2, q3] at e; cases e
        | some h3 =>
          simp only [q, q2, q3] at e
          cases e
          exact two R S q q2 (P := fun v1 w1 H2 => rSetA v1 w1 v H2 _) fun ι2 v1 w1 H2 R2 X2 r1 r2 => subset_ok R2 r1 r2 (R.ext X2 r) q3 fun H3 R3 X3 => k ι2 σ H3 R3 (X2.trans X3) (S.mono (X2.trans X3) R.mu) fun _ _ => rfl
inductive TgtL (W : Wd) (X : Cx) (f : MG → U → Env → MH → Option (Env × MH)) : List MG → List Expr → Prop
  | nil : TgtL W X f [] []
  | cons {g : MG} {e : Expr} {gs : List MG} {es : List Expr} (h : PG X e (tG W (gnames g) (f g))) (s : noStar e = true) (r : TgtL W X f gs es) : TgtL W X f (g :: gs) (e :: es)
theorem TgtL.stars {f : MG → U → Env → MH → Option (Env × MH)} {gs : List MG} {es : List Expr} (h : TgtL W X f gs es) : es.all noStar = true := by
  induction h with
  | nil => rfl
  | cons h s r ih => rw [List.all_cons, s, ih]; rfl
theorem TgtL.len {f : MG → U → Env → MH → Option (Env × MH)} {gs : List MG} {es : List Expr} (h : TgtL W X f gs es) : gs.length = es.length := by
  induction h with
  | nil => rfl
  | cons h s r ih => exact congrArg Nat.succ ih
theorem sgs_of {f : MG → U → Env → MH → Option (Env × MH)} {gs : List MG} {es : List Expr} (h : TgtL W X f gs es) : PGs X es (tGs W (gnames.gnamesL gs) (evGs f gs)) := by
  induction h with
  | nil =>
    refine PGs.imp pgs_nil fun vs σ H Q ⟨ι, us, h, σ0, xs, R, S, r, us', h', e, k⟩ => ?_
    cases r with
    | nil =>
      cases e
      exact ⟨rfl, k ι σ H R Ext.refl S fun _ _ => rfl⟩
    | cons _ _ => cases e
  | @cons g e gs es h s r ih =>
    refine PGs.imp (pgs_cons h ih (by rw [asg_of s]; rfl)) fun vs σ H Q ⟨ι, us, h, σ0, xs, R, S, r, us', h', e, k⟩ => ?_
    cases r with
    | nil => cases e
    | @cons x v xs vs r rr =>
      simp only [evGs] at e
      cases q : f g x us h with
      | none => simp only [q] at e; cases e
      | some pr =>
        obtain ⟨us1, h1⟩ := pr
        simp only [q] at e
        refine ⟨v, vs, rfl, ι, us, h, σ0, x, R, S, r, us1, h1, q, fun ι2 σ2 H2 R2 X2 S2 j2 => ?_⟩
        refine ⟨ι2, us1, h1, σ0, xs, R2, S2, R.exts X2 rr, us', h', e, fun ι3 σ3 H3 R3 X3 S3 j3 => k ι3 σ3 H3 R3 (X2.trans X3) S3 fun j hj => ?_⟩
        have hj : j ∉ gnames g ++ gnames.gnamesL gs := hj
        rw [List.mem_append, not_or] at hj
        exact (j3 j hj.2).trans (j2 j hj.1)
include ok in
theorem sg_tup {f : MG → U → Env → MH → Option (Env × MH)} {gs : List MG} {es : List Expr} {kk : Nat} (h : TgtL W X f gs es) : PG X (.Tuple es kk pos) (tG W (gnames.gnamesL gs) fun u us h => match u with
    | .tup xs => evGs f gs xs us h
    | _ => none) :=
  PG.imp (pg_tup (n := es.length) ok.calm (sgs_of h) (by rw [asgs_of h.stars]; exact List.length_map _) (by
      rw [asgs_of h.stars, List.findIdx?_map]
      exact List.findIdx?_eq_none_iff.mpr fun _ _ => rfl)) fun v σ H Q ⟨ι, us, h0, σ0, u, R, S, r, us', h', e, k⟩ => by
    rw [ok.K]
    cases r with
    | @tup xs vs ad s rr =>
      have l : ∀ {gs : List MG} {xs : List U} {us : Env} {h : MH} {o : Env × MH}, evGs f gs xs us h = some o → gs.length = xs.length := by
        intro gs
        induction gs with
        | nil =>
          intro xs us h o e
          cases xs with
          | nil => rfl
          | cons _ _ => cases e
        | cons g gs ih =>
          intro xs us h o e
          cases xs with
          | nil => cases e
          | cons x xs =>
            simp only [evGs] at e
            cases q : f g x us h with
            | none => simp only [q] at e; cases e
            | some pr =>
              simp only [q] at e
              exact congrArg Nat.succ (ih e)
      exact ⟨ad, vs, rfl, s, by rw [← rr.len, ← l e, h.len], ι, us, h0, σ0, xs, R, S, rr, us', h', e, k⟩
    | _ => cases e

/-! ### statements -/
def FlK (W : Wd) (ι : Nat → Addr) (n : Nat) (H : Hp) (D : Ends) (σ : L2.St) : Fl → Prop
  | .nx => D.nx σ H
  | .ret u => ∀ v, RU W ι n H u v → D.rt v H
def SFin (W : Wd) (ι : Nat → Addr) (h : MH) (H : Hp) (σ0 : L2.St) (D : Ends) (r : Fl) (us' : Env) (h' : MH) : Prop :=
  ∀ ι' σ' H', Rep W ι' h' H' → Ext ι h.n H ι' h'.n H' → RS W ι' h'.n H' σ0 us' σ' → FlK W ι' h'.n H' D σ' r
def tS (W : Wd) (f : Env → MH → Option (Fl × Env × MH)) : TS := fun D σ H => ∃ ι us h σ0, Rep W ι h H ∧ RS W ι h.n H σ0 us σ ∧ ∃ r us' h', f us h = some (r, us', h') ∧ SFin W ι h H σ0 D r us' h'
theorem SFin.of {ι ι2 : Nat → Addr} {h h2 h' : MH} {H H2 : Hp} {σ0 : L2.St} {D : Ends} {r : Fl} {us' : Env} (k : SFin W ι h H σ0 D r us' h') (x : Ext ι h.n H ι2 h2.n H2) : SFin W ι2 h2 H2 σ0 D r us' h' := fun ι' σ' H' R' X' s => k ι' σ' H' R' (x.trans X') s
theorem ss_no {st : Stmt} {f : Env → MH → Option (Fl × Env × MH)} (hf : ∀ us h, f us h = none) : PS X st (tS W f) := ⟨fun pins s σ H D I q => by
  obtain ⟨_, us, h, _, _, _, r, us', h', e, _⟩ := q
  rw [hf] at e
  cases e⟩
theorem ss_exp (ha : PE X a (tE W fa)) (hn : noComp a = true) : PS X (.Expr a pos) (tS W fun us h => match fa us h with
    | none => none
    | some (_, h1) => some (.nx, us, h1)) :=
  PS.imp (ps_expr ha (sw_of hn _ _ _)) fun D σ H ⟨ι, us, h, σ0, R, S, r, us', h', e, k⟩ => by
    cases q : fa us h with
    | none => simp only [q] at e; cases e
    | some pr =>
      obtain ⟨x, h1⟩ := pr
      simp only [q] at e
      cases e
      exact ⟨ι, us, h, σ0, R, S, x, h', q, fun ι2 v H2 R2 X2 _ => k ι2 σ H2 R2 X2 (S.mono X2 R.mu)⟩
theorem asg_core {ns : List Nat} {f : U → Env → MH → Option (Env × MH)} {D : Ends} {σ : L2.St} {H : Hp} (q : tS W (fun us h => match fa us h with
    | none => none
    | some (x, h1) => match f x us h1 with
      | none => none
      | some (us2, h2) => some (.nx, us2, h2)) D σ H) : tAsg (tE W fa) (tG W ns f) D σ H := by
  obtain ⟨ι, us, h, σ0, R, S, r, us', h', e, k⟩ := q
  cases q : fa us h with
  | none => simp only [q] at e; cases e
  | some pr =>
    obtain ⟨x, h1⟩ := pr
    cases q2 : f x us h1 with
    | none => simp only [q, q2] at e; cases e
    | some pr2 =>
      obtain ⟨us2, h2⟩ := pr2
      simp only [q, q2] at e
      cases e
      exact ⟨ι, us, h, σ0, R, S, x, h1, q, fun ι2 v H2 R2 X2 rv => ⟨ι2, us, h1, σ0, x, R2, S.mono X2 R.mu, rv, us', h', q2, fun ι3 σ3 H3 R3 X3 S3 _ => k ι3 σ3 H3 R3 (X2.trans X3) S3⟩⟩
theorem ss_asg {ns : List Nat} {f : U → Env → MH → Option (Env × MH)} (ha : PE X a (tE W fa)) (hg : PG X b (tG W ns f)) (hs : swapsWith a (some b) pos.line X.env = pure false) (hw : swappedStores [b] a X.env = pure none) (hn : noStar b = true) :
    PS X (.Assign [b] a pos) (tS W fun us h => match fa us h with
    | none => none
    | some (x, h1) => match f x us h1 with
      | none => none
      | some (us2, h2) => some (.nx, us2, h2)) :=
  PS.imp (ps_asg ha hg hs hw (by rw [asg_of hn]; rfl)) fun D σ H q => asg_core q
end
end Se
set_option Elab.async false
set_option linter.all false
set_option maxRecDepth 100000
/-! Se over the hand layer: blocks, branches, loops, comprehensions. -/
namespace Se
open PySem PySem.Spec
open PyProof.Rows L2

section
variable {W : Wd} {P : Pg} (N : NmOk W P) {X : Cx} {d : Nat} {Γ : Bd} (G : Γ.ok W.θ) (ok : XOk W d X) {a b c : Expr} {pos p : Pos} {fa fb fc : Env → MH → Option (U × MH)}
/-! ### blocks -/
inductive BlkL (W : Wd) (X : Cx) (f : MS → Env → MH → Option (Fl × Env × MH)) : List MS → List Stmt → Prop
  | nil : BlkL W X f [] []
  | cons {m : MS} {e : Stmt} {ms : List MS} {es : List Stmt} (h : PS X e (tS W (f m))) (r : BlkL W X f ms es) : BlkL W X f (m :: ms) (e :: es)
theorem sb_of {f : MS → Env → MH → Option (Fl × Env × MH)} {ms : List MS} {es : List Stmt} (h : BlkL W X f ms es) : PSs X es (tS W (evSs f ms)) := by
  induction h with
  | nil =>
    refine PSs.imp pss_nil fun D σ H ⟨ι, us, h, σ0, R, S, r, us', h', e, k⟩ => ?_
    cases e
    exact k ι σ H R Ext.refl S
  | @cons m e ms es h r ih =>
    refine PSs.imp (pss_cons h ih) fun D σ H ⟨ι, us, h, σ0, R, S, r, us', h', e, k⟩ => ?_
    simp only [evSs] at e
    cases q : f m us h with
    | none => simp only [q] at e; cases e
    | some pr =>
      obtain ⟨r1, us1, h1⟩ := pr
      cases r1 with
      | nx =>
        simp only [q] at e
        exact ⟨ι, us, h, σ0, R, S, .nx, us1, h1, q, fun ι2 σ2 H2 R2 X2 S2 => ⟨ι2, us1, h1, σ0, R2, S2, r, us', h', e, k.of X2⟩⟩
      | ret u =>
        simp only [q] at e
        cases e
        exact ⟨ι, us, h, σ0, R, S, .ret u, us', h', q, k⟩
theorem ss_ite {ft : Env → MH → Option (Bool × MH)} {f1 f2 : Env → MH → Option (Fl × Env × MH)} {t1 t2 : List Stmt} (hc : PT X c (tT W ft)) (h1 : PSs X t1 (tS W f1)) (h2 : PSs X t2 (tS W f2)) : PS X (.If c t1 t2 pos) (tS W fun us h => match ft us h with
    | none => none
    | some (true, h1) => f1 us h1
    | some (false, h1) => f2 us h1) :=
  PS.imp (ps_if hc h1 h2) fun D σ H ⟨ι, us, h, σ0, R, S, r, us', h', e, k⟩ => by
    cases q : ft us h with
    | none => simp only [q] at e; cases e
    | some pr =>
      obtain ⟨b1, h1⟩ := pr
      cases b1 with
      | true =>
        simp only [q] at e
        exact ⟨ι, us, h, σ0, R, S, true, h1, q, fun ι2 H2 R2 X2 => iteT ⟨ι2, us, h1, σ0, R2, S.mono X2 R.mu, r, us', h', e, k.of X2⟩⟩
      | false =>
        simp only [q] at e
        exact ⟨ι, us, h, σ0, R, S, false, h1, q, fun ι2 H2 R2 X2 => iteF ⟨ι2, us, h1, σ0, R2, S.mono X2 R.mu, r, us', h', e, k.of X2⟩⟩
theorem ss_ret (ha : PE X a (tE W fa)) : PS X (.Return (some a) pos) (tS W fun us h => match fa us h with
    | none => none
    | some (x, h1) => some (.ret x, us, h1)) :=
  PS.imp (ps_ret ha) fun D σ H ⟨ι, us, h, σ0, R, S, r, us', h', e, k⟩ => by
    cases q : fa us h with
    | none => simp only [q] at e; cases e
    | some pr =>
      obtain ⟨x, h1⟩ := pr
      simp only [q] at e
      cases e
      exact ⟨ι, us, h, σ0, R, S, x, h', q, fun ι2 v H2 R2 X2 rv => k ι2 σ H2 R2 X2 (S.mono X2 R.mu) v rv⟩
theorem ss_retN : PS X (.Return none pos) (tS W fun us h => some (.ret .non, us, h)) :=
  PS.imp ps_retN fun D σ H ⟨ι, us, h, σ0, R, S, r, us', h', e, k⟩ => by
    cases e
    exact k ι σ H R Ext.refl S .non .non
theorem ss_pass : PS X (.Pass pos) (tS W fun us h => some (.nx, us, h)) :=
  PS.imp ps_pass fun D σ H ⟨ι, us, h, σ0, R, S, r, us', h', e, k⟩ => by
    cases e
    exact k ι σ H R Ext.refl S

/-! ### x op= e -/
theorem binI_ok {op : BO} {x y z : U} (e : binI op x y = some z) {ι : Nat → Addr} {n : Nat} {H : Hp} {v w : V} (r1 : RU W ι n H x v) (r2 : RU W ι n H y w) :
    (op = .add ∧ ∃ i j, v = .int i ∧ w = .int j ∧ RU W ι n H z (.int (i + j))) ∨ (op = .sub ∧ ∃ i j, v = .int i ∧ w = .int j ∧ RU W ι n H z (.int (i - j))) := by
  cases x with
  | int a => cases y with
    | int b => cases op with
      | add =>
        cases e
        refine .inl ⟨rfl, _, _, r1.ints, r2.ints, ?_⟩
        rw [← ev_add]
        exact .int _
      | sub =>
        cases e
        refine .inr ⟨rfl, _, _, r1.ints, r2.ints, ?_⟩
        rw [← ev_sub]
        exact .int _
      | mul => cases e
    | _ => cases e
  | _ => cases y <;> cases e
def boOp : BO → Operator
  | .add => .Add
  | .sub => .Sub
  | .mul => .Mult
def rdOp : BO → V → V → Hp → VK → Prop
  | .add => rAdd
  | .sub => rSub
  | .mul => fun _ _ _ _ => False
theorem in_op (op : BO) : InOp X (boOp op) (rdOp op) := by
  cases op with
  | add => exact in_add
  | sub => exact in_sub
  | mul => exact fun pins s σ H x y u v Q I rx ry q => q.elim
theorem binI_rd {op : BO} {x y z : U} (e : binI op x y = some z) {ι : Nat → Addr} {n : Nat} {H : Hp} {v w : V} (r1 : RU W ι n H x v) (r2 : RU W ι n H y w) {Q : VK} (k : ∀ v3, RU W ι n H z v3 → Q v3 H) : rdOp op v w H Q := by
  rcases binI_ok e r1 r2 with ⟨rfl, i, j, e1, e2, r⟩ | ⟨rfl, i, j, e1, e2, r⟩
  · exact ⟨i, j, e1, e2, k _ r⟩
  · exact ⟨i, j, e1, e2, k _ r⟩
include N ok in
theorem ss_augF {op : BO} {f : Nat} (hf : f < W.nN) (ha : PE X a (tE W fa)) (hb : PE X b (tE W fb)) :
    PS X (.AugAssign (.Attribute a (W.nm f) p) (boOp op) b pos) (tS W fun us h => match fa us h with
    | none => none
    | some (x, h1) => match fldop x f h1 with
      | none => none
      | some v => match fb us h1 with
        | none => none
        | some (y, h2) => match binI op v y with
          | none => none
          | some z => match sameCls x h1 h2 with
            | false => none
            | true => match fldset P.fa x f z h2 with
              | none => none
              | some h4 => some (.nx, us, h4)) :=
  PS.imp (ps_fldaug ha hb (in_op op)) fun D σ H ⟨ι, us, h, σ0, R, S, rr, us', h', e, k⟩ => by
    cases q1 : fa us h with
    | none => simp only [q1] at e; cases e
    | some p1 =>
      obtain ⟨x, h1⟩ := p1
      cases q2 : fldop x f h1 with
      | none => simp only [q1, q2] at e; cases e
      | some v =>
        cases q3 : fb us h1 with
        | none => simp only [q1, q2, q3] at e; cases e
        | some p3 =>
          obtain ⟨y, h2⟩ := p3
          cases q4 : binI op v y with
          | none => simp only [q1, q2, q3, q4] at e; cases e
          | some z =>
            cases q6 : sameCls x h1 h2 with
            | false => simp only [q1, q2, q3, q4, q6] at e; cases e
            | true =>
            cases q5 : fldset P.fa x f z h2 with
            | none => simp only [q1, q2, q3, q4, q6, q5] at e; cases e
            | some h4 =>
              simp only [q1, q2, q3, q4, q6, q5] at e
              cases e
              refine ⟨ι, us, h, σ0, R, S, x, h1, q1, fun ι1 v1 H1 R1 X1 r1 => ?_⟩
              cases x with
              | ref i =>
                cases g1 : h1.get i with
                | none => simp only [fldop, g1] at q2; cases q2
                | some o1 => cases o1 with
                  | ins c1 f1 =>
                    cases g2 : h2.get i with
                    | none => simp only [sameCls, g1, g2] at q6; cases q6
                    | some o2 => cases o2 with
                      | ins c2 f2 =>
                        simp only [sameCls, g1, g2] at q6
                        have ec := Nat.eq_of_beq_eq_true q6
                        subst ec
                        simp only [fldop, g1] at q2
                        obtain ⟨_, dx1, vs1, a1, a2, a3⟩ := get_ins R1 g1
                        obtain ⟨na, w, a4, a5⟩ := (fget_ok N.inj hf a3).1 q2
                        rw [ok.K]
                        refine ⟨_, _, dx1, vs1, w, r1.ref_i, a1, a2, na, a4, ι1, us, h1, σ0, R1, S.mono X1 R.mu, y, h2, q3, fun ι2 v2 H2 R2 X2 r2 => ?_⟩
                        refine binI_rd q4 (R1.ext X2 a5) r2 fun v3 r3 => ?_
                        obtain ⟨ad, C, dx, fs, b1, b2, b3, b4, b5, R4, X4⟩ := fldset_ok N R2 (R1.ext X2 r1) r3 q5
                        obtain ⟨_, dx2, vs2, a6, _, _⟩ := get_ins R2 g2
                        have e1 : v1 = .ref (ι2 i) := (R1.ext X2 r1).ref_i
                        have e2 : ι1 i = ι2 i := V.ref.inj (r1.ref_i.symm.trans e1)
                        have e3 : ad = ι2 i := V.ref.inj (b1.symm.trans e1)
                        subst e3
                        rw [a6] at b2
                        cases b2
                        rw [e2]
                        exact ⟨_, _, a6, b5, k ι2 σ _ R4 ((X1.trans X2).trans X4) (S.mono ((X1.trans X2).trans X4) R.mu)⟩
                      | _ => simp only [sameCls, g1, g2] at q6; cases q6
                  | _ => simp only [fldop, g1] at q2; cases q2
              | _ => cases q2
theorem pip_op (op : BO) : PIp X (boOp op) (rdOp op) := fun pins s σ H x y v u Q I rx ry q => in_op op pins s σ H x y v u Q I rx ry q
theorem ss_augN {op : BO} {i : Nat} (h : ∀ ti, PIp X (boOp op) ti → PS X (.AugAssign a (boOp op) b pos) (tAug i (tE W fb) ti)) :
    PS X (.AugAssign a (boOp op) b pos) (tS W fun us h => match getV us i with
    | none => none
    | some v => match fb us h with
      | none => none
      | some (y, h1) => match binI op v y with
        | none => none
        | some z => some (.nx, setV us i z, h1)) :=
  PS.imp (h _ (pip_op op)) fun D σ H ⟨ι, us, h, σ0, R, S, rr, us', h', e, k⟩ => by
    cases q1 : getV us i with
    | none => simp only [q1] at e; cases e
    | some v =>
      cases q2 : fb us h with
      | none => simp only [q1, q2] at e; cases e
      | some p2 =>
        obtain ⟨y, h1⟩ := p2
        cases q3 : binI op v y with
        | none => simp only [q1, q2, q3] at e; cases e
        | some z =>
          simp only [q1, q2, q3] at e
          cases e
          obtain ⟨w, g1, g2⟩ := S.some_ i v q1
          refine ⟨w, g1, ι, us, h, σ0, R, S, y, h', q2, fun ι2 v2 H2 R2 X2 r2 => binI_rd q3 (R.ext X2 g2) r2 fun v3 r3 => ?_⟩
          exact k ι2 _ H2 R2 X2 ((S.mono X2 R.mu).set r3)

/-! ### names stored together -/
theorem ss_par2 {i j : Nat} {fs : Env → MH → Option (List U × MH)} {t1 t2 : Expr} {es : List Expr} (ha : PA X es (tA W fs)) (h : ∀ ta, PA X es ta → PS X (.Assign [t1] t2 pos) (tPar i j ta)) :
    PS X (.Assign [t1] t2 pos) (tS W fun us h => match fs us h with
    | none => none
    | some (xs, h1) => match setVs us [i, j] xs with
      | none => none
      | some us2 => some (.nx, us2, h1)) :=
  PS.imp (h _ ha) fun D σ H ⟨ι, us, h, σ0, R, S, rr, us', h', e, k⟩ => by
    cases q1 : fs us h with
    | none => simp only [q1] at e; cases e
    | some p1 =>
      obtain ⟨xs, h1⟩ := p1
      cases q2 : setVs us [i, j] xs with
      | none => simp only [q1, q2] at e; cases e
      | some us2 =>
        simp only [q1, q2] at e
        cases e
        refine ⟨ι, us, h, σ0, R, S, xs, h', q1, fun ι2 vs H2 R2 X2 r => ?_⟩
        cases r with
        | nil => cases q2
        | cons r1 r => cases r with
          | nil => cases q2
          | cons r2 r => cases r with
            | nil =>
              cases q2
              exact ⟨_, _, rfl, k ι2 _ H2 R2 X2 (((S.mono X2 R.mu).set r1).set r2)⟩
            | cons _ _ => cases q2
theorem ss_par3 {i j l : Nat} {fs : Env → MH → Option (List U × MH)} {t1 t2 : Expr} {es : List Expr} (ha : PA X es (tA W fs)) (h : ∀ ta, PA X es ta → PS X (.Assign [t1] t2 pos) (tPar3 i j l ta)) :
    PS X (.Assign [t1] t2 pos) (tS W fun us h => match fs us h with
    | none => none
    | some (xs, h1) => match setVs us [i, j, l] xs with
      | none => none
      | some us2 => some (.nx, us2, h1)) :=
  PS.imp (h _ ha) fun D σ H ⟨ι, us, h, σ0, R, S, rr, us', h', e, k⟩ => by
    cases q1 : fs us h with
    | none => simp only [q1] at e; cases e
    | some p1 =>
      obtain ⟨xs, h1⟩ := p1
      cases q2 : setVs us [i, j, l] xs with
      | none => simp only [q1, q2] at e; cases e
      | some us2 =>
        simp only [q1, q2] at e
        cases e
        refine ⟨ι, us, h, σ0, R, S, xs, h', q1, fun ι2 vs H2 R2 X2 r => ?_⟩
        cases r with
        | nil => cases q2
        | cons r1 r => cases r with
          | nil => cases q2
          | cons r2 r => cases r with
            | nil => cases q2
            | cons r3 r => cases r with
              | nil =>
                cases q2
                exact ⟨_, _, _, rfl, k ι2 _ H2 R2 X2 ((((S.mono X2 R.mu).set r1).set r2).set r3)⟩
              | cons _ _ => cases q2

/-! ### what is walked -/
def RI (W : Wd) (ι : Nat → Addr) (n : Nat) (H : Hp) (I : IT) (J : L2.It) : Prop := ∀ (ι2 : Nat → Addr) (h2 : MH) (H2 : Hp) (i : Nat), Ext ι n H ι2 h2.n H2 → Rep W ι2 h2 H2 →
  (next I i h2 = some none → J.stop i H2) ∧ ∀ u, next I i h2 = some (some u) → J.go i H2 ∧ ∀ x H', J.yld i H2 x H' → Rep W ι2 h2 H' ∧ Ext ι2 h2.n H2 ι2 h2.n H' ∧ RU W ι2 h2.n H' u x
theorem RI.ext {ι ι' : Nat → Addr} {n n' : Nat} {H H' : Hp} {I : IT} {J : L2.It} (r : RI W ι n H I J) (x : Ext ι n H ι' n' H') : RI W ι' n' H' I J := fun ι2 h2 H2 i X2 R2 => r ι2 h2 H2 i (x.trans X2) R2
theorem RI.lst {ι : Nat → Addr} {n : Nat} {H : Hp} {i : Nat} (hi : i < n) : RI W ι n H (.lst i) (Itl W.K (ι i)) := fun ι2 h2 H2 k X2 R2 => by
  cases q : h2.lst i with
  | none =>
    refine ⟨fun e => ?_, fun u e => ?_⟩ <;> (simp only [next, q] at e; cases e)
  | some xs =>
    obtain ⟨_, vs, g, r⟩ := R2.lst q
    rw [X2.same i hi] at g
    refine ⟨fun e => ?_, fun u e => ?_⟩
    · simp only [next, q, Option.some.injEq] at e
      exact ⟨vs, SqL.of g, nth_none r e⟩
    · simp only [next, q, Option.some.injEq] at e
      obtain ⟨v, g1, g2⟩ := r.nth e
      refine ⟨⟨vs, v, SqL.of g, g1⟩, fun x H' y => ?_⟩
      obtain ⟨e1, y⟩ := y
      have e2 := y vs (SqL.of g)
      rw [g1] at e2
      cases e2
      rw [e1]
      exact ⟨R2, Ext.refl, g2⟩
theorem RI.tup {ι : Nat → Addr} {n : Nat} {H : Hp} {xs : List U} {vs : List V} {ad : Addr} (s : SqT W.K H ad vs) (r : RUs W ι n H xs vs) (mu : ∀ i, i < n → ∃ o, H (ι i) = some o ∧ Mut (some o)) : RI W ι n H (.tup xs) (Itt W.K ad) := fun ι2 h2 H2 k X2 R2 => by
  have s2 := X2.tup mu s
  have r2 := r.mono X2 mu
  refine ⟨fun e => ?_, fun u e => ?_⟩
  · simp only [next, Option.some.injEq] at e
    exact ⟨vs, s2, nth_none r2 e⟩
  · simp only [next, Option.some.injEq] at e
    obtain ⟨v, g1, g2⟩ := r2.nth e
    refine ⟨⟨vs, v, s2, g1⟩, fun x H' y => ?_⟩
    obtain ⟨e1, y⟩ := y
    have e2 := y vs s2
    rw [g1] at e2
    cases e2
    rw [e1]
    exact ⟨R2, Ext.refl, g2⟩
theorem RI.rng {ι : Nat → Addr} {n : Nat} {H : Hp} {m : Int} : RI W ι n H (.rng m) (Itr 0 m.toNat) := fun ι2 h2 H2 k X2 R2 => by
  cases q : decide ((k : Int) < m) with
  | true =>
    have := of_decide_eq_true q
    refine ⟨fun e => ?_, fun u e => ?_⟩
    · simp only [next, q] at e; cases e
    · simp only [next, q] at e
      cases e
      refine ⟨by show k < m.toNat; omega, fun x H' y => ?_⟩
      obtain ⟨e1, e2⟩ := y
      rw [e1, e2]
      have z : (0 : Int) + (k : Int) = (SI.lit (k : Int)).ev W.θ := Int.zero_add _
      rw [z]
      exact ⟨R2, Ext.refl, .int _⟩
  | false =>
    have := of_decide_eq_false q
    refine ⟨fun e => by show m.toNat ≤ k; omega, fun u e => ?_⟩
    simp only [next, q] at e
    cases e
theorem pair_ok {ι : Nat → Addr} {h : MH} {H : Hp} (R : Rep W ι h H) {x y : U} {v w : V} (r1 : RU W ι h.n H x v) (r2 : RU W ι h.n H y w) {T : Addr} (nT : H T = none) :
    Rep W ι h (L2.upd H T (.tup [v, w])) ∧ Ext ι h.n H ι h.n (L2.upd H T (.tup [v, w])) ∧ RU W ι h.n (L2.upd H T (.tup [v, w])) (.tup [x, y]) (.ref T) := by
  obtain ⟨R', X'⟩ := R.tup nT (u := .tup [v, w])
  exact ⟨R', X', .tup (SqT.of upd_same) (.cons (R.ext X' r1) (.cons (R.ext X' r2) .nil))⟩
theorem RI.enL {ι : Nat → Addr} {n : Nat} {H : Hp} {i : Nat} (hi : i < n) : RI W ι n H (.enL i) (Ite W.K (ι i)) := fun ι2 h2 H2 k X2 R2 => by
  cases q : h2.lst i with
  | none =>
    refine ⟨fun e => ?_, fun u e => ?_⟩ <;> (simp only [next, q] at e; cases e)
  | some xs =>
    obtain ⟨_, vs, g, r⟩ := R2.lst q
    rw [X2.same i hi] at g
    cases q2 : nth xs k with
    | none =>
      refine ⟨fun e => ⟨vs, SqL.of g, nth_none r q2⟩, fun u e => ?_⟩
      simp only [next, q, q2] at e
      cases e
    | some x0 =>
      refine ⟨fun e => ?_, fun u e => ?_⟩
      · simp only [next, q, q2] at e; cases e
      · simp only [next, q, q2] at e
        cases e
        obtain ⟨v, g1, g2⟩ := r.nth q2
        refine ⟨⟨vs, v, SqL.of g, g1⟩, fun x H' y => ?_⟩
        obtain ⟨T, x1, e1, nT, e2, y⟩ := y
        have e3 := y vs (SqL.of g)
        rw [g1] at e3
        cases e3
        rw [e1, e2]
        exact pair_ok R2 (.int (SI.lit (k : Int))) g2 nT
def tI (W : Wd) (f : Env → MH → Option (IT × MH)) : TI := fun σ H R => ∃ ι us h σ0, Rep W ι h H ∧ RS W ι h.n H σ0 us σ ∧ ∃ I h', f us h = some (I, h') ∧ ∀ ι' J H', Rep W ι' h' H' → Ext ι h.n H ι' h'.n H' → RI W ι' h'.n H' I J → R J H'
variable {tg : Expr}
include ok in
theorem si_val (ha : PE X a (tE W fa)) : PI X tg a (tI W fun us h => match fa us h with
    | none => none
    | some (x, h1) => match x with
      | .tup xs => some (.tup xs, h1)
      | .ref r => match h1.lst r with
        | some _ => some (.lst r, h1)
        | none => none
      | _ => none) := ⟨fun pins s σ H Q I q => by
  obtain ⟨ι, us, h, σ0, R, S, J, h', e, k⟩ := q
  cases q1 : fa us h with
  | none => simp only [q1] at e; cases e
  | some p1 =>
    obtain ⟨x, h1⟩ := p1
    cases x with
    | tup xs =>
      simp only [q1] at e
      cases e
      refine (pi_tup ha).run pins s σ H Q I ⟨ι, us, h, σ0, R, S, _, h', q1, fun ι2 v H2 R2 X2 rv => ?_⟩
      rw [ok.K]
      cases rv with
      | tup s r => exact ⟨_, rfl, ⟨_, s⟩, k ι2 _ H2 R2 X2 (RI.tup s r R2.mu)⟩
    | ref i =>
      cases q2 : h1.lst i with
      | none => simp only [q1, q2] at e; cases e
      | some xs =>
        simp only [q1, q2] at e
        cases e
        refine (pi_list ha).run pins s σ H Q I ⟨ι, us, h, σ0, R, S, _, h', q1, fun ι2 v H2 R2 X2 rv => ?_⟩
        obtain ⟨vs, rfl, g, r⟩ := rv.ref_lst R2 q2
        rw [ok.K]
        exact ⟨_, rfl, ⟨_, SqL.of g⟩, k ι2 _ H2 R2 X2 (RI.lst (R2.lst q2).1)⟩
    | _ => simp only [q1] at e; cases e⟩
include ok in
theorem si_rng (hg : Gl X "range") (hm : W.mg "range" = none) (ha : PE X a (tE W fa)) (hs : noStar a = true) : PI X tg (.Call (.Name "range" p) [a] [] pos) (tI W fun us h => match fa us h with
    | some (.int (.lit n), h1) => match decide (-1000000 ≤ n ∧ n ≤ 1000000) with
      | true => some (.rng n, h1)
      | false => none
    | _ => none) :=
  PI.imp (pi_range1 hg (by rw [ok.mg]; exact hm) (pa_cons ha pa_nil (star_of hs [] X.env)) (star_of hs [] X.env)) fun σ H Q ⟨ι, us, h, σ0, R, S, J, h', e, k⟩ => by
    cases q1 : fa us h with
    | none => simp only [q1] at e; cases e
    | some p1 =>
      obtain ⟨x, h1⟩ := p1
      cases x with
      | int i => cases i with
        | lit n =>
          cases q2 : decide (-1000000 ≤ n ∧ n ≤ 1000000) with
          | false => simp only [q1, q2] at e; cases e
          | true =>
            simp only [q1, q2] at e
            cases e
            have b := of_decide_eq_true q2
            refine ⟨ι, us, h, σ0, R, S, _, h', q1, fun ι2 v H2 R2 X2 rv => ⟨n, by rw [rv.ints]; rfl, by omega, by omega, k ι2 _ H2 R2 X2 RI.rng⟩⟩
        | pol c ms => simp only [q1] at e; cases e
      | _ => simp only [q1] at e; cases e
/-! ### loops -/
section
variable {F : Nat → Fns} (F0 : F 0 = bot)
def anyG (n : Nat) (t : Nat → TG) : TG := fun v σ H Q => ∃ k, k < n ∧ t k v σ H Q
def anyS (n : Nat) (t : Nat → TS) : TS := fun D σ H => ∃ k, k < n ∧ t k D σ H
def anyT (n : Nat) (t : Nat → TT) : TT := fun σ H Q => ∃ k, k < n ∧ t k σ H Q
def anyE (n : Nat) (t : Nat → TE) : TE := fun σ H Q => ∃ k, k < n ∧ t k σ H Q
theorem pg_any {n : Nat} {t : Nat → TG} (h : ∀ k, k < n → PG X a (t k)) : PG X a (anyG n t) := ⟨fun pins s σ H v u Q I r ⟨k, hk, q⟩ => (h k hk).run pins s σ H v u Q I r q⟩
theorem pss_any {n : Nat} {t : Nat → TS} {es : List Stmt} (h : ∀ k, k < n → PSs X es (t k)) : PSs X es (anyS n t) := ⟨fun pins s σ H D I ⟨k, hk, q⟩ => (h k hk).run pins s σ H D I q⟩
theorem pt_any {n : Nat} {t : Nat → TT} (h : ∀ k, k < n → PT X a (t k)) : PT X a (anyT n t) := ⟨fun pins s σ H Q I ⟨k, hk, q⟩ => (h k hk).run pins s σ H Q I q⟩
theorem pe_any {n : Nat} {t : Nat → TE} (h : ∀ k, k < n → PE X a (t k)) : PE X a (anyE n t) := ⟨fun pins s σ H Q I ⟨k, hk, q⟩ => (h k hk).run pins s σ H Q I q⟩
theorem pts_any {n : Nat} {t : Nat → TT} {es : List Expr} (h : ∀ k, k < n → PTs X es (t k)) : PTs X es (anyT n t) := ⟨fun pins s σ H Q I ⟨k, hk, q⟩ => (h k hk).run pins s σ H Q I q⟩
end
include ok in
theorem ss_while {n dd : Nat} {mc : ME} {mb : List MS} {body : List Stmt} (hc : ∀ k, k < n → PT X c (tT W ((fns Γ P k).t dd mc))) (hb : ∀ k, k < n → PSs X body (tS W (evSs ((fns Γ P k).s dd) mb))) :
    PS X (.While c body [] pos) (tS W ((fns Γ P n).w dd mc mb)) := by
  have ho : PassesOwn (model X.prog X.w) X.A X.env X.xe := by
    rw [ok.xe]
    exact PassesOwn.never
  refine PS.imp (ps_while ho (pt_any (n := n) hc) (pss_any (n := n) hb)) fun D σ H ⟨ι, us, h, σ0, R, S, r, us', h', e, k⟩ => ?_
  refine ⟨fun m σ H => m ≤ n ∧ ∃ ι us h σ0, Rep W ι h H ∧ RS W ι h.n H σ0 us σ ∧ ∃ r us' h', (fns Γ P m).w dd mc mb us h = some (r, us', h') ∧ SFin W ι h H σ0 D r us' h', ⟨n, Nat.le_refl _, ι, us, h, σ0, R, S, r, us', h', e, k⟩, ?_⟩
  rintro m σ H ⟨hm, ι, us, h, σ0, R, S, r, us', h', e, k⟩
  cases m with
  | zero => cases e
  | succ m =>
    have e1 : stepW (fns Γ P m) dd mc mb us h = some (r, us', h') := e
    unfold stepW at e1
    cases q1 : (fns Γ P m).t dd mc us h with
    | none => simp only [q1] at e1; cases e1
    | some p1 =>
      obtain ⟨b1, h1⟩ := p1
      refine ⟨m, hm, ι, us, h, σ0, R, S, b1, h1, q1, fun ι2 H2 R2 X2 => ?_⟩
      cases b1 with
      | false =>
        simp only [q1] at e1
        cases e1
        exact iteF (k ι2 σ H2 R2 X2 (S.mono X2 R.mu))
      | true =>
        refine iteT ⟨fun σ' H' => m ≤ n ∧ ∃ ι us h σ0, Rep W ι h H' ∧ RS W ι h.n H' σ0 us σ' ∧ ∃ r us' h', (fns Γ P m).w dd mc mb us h = some (r, us', h') ∧ SFin W ι h H' σ0 D r us' h', fun σ' H' q => ⟨m, Nat.lt_succ_self _, q⟩, m, hm, ?_⟩
        simp only [q1] at e1
        cases q2 : evSs ((fns Γ P m).s dd) mb us h1 with
        | none => simp only [q2] at e1; cases e1
        | some p2 =>
          obtain ⟨r2, us2, h2⟩ := p2
          refine ⟨ι2, us, h1, σ0, R2, S.mono X2 R.mu, r2, us2, h2, q2, fun ι3 σ3 H3 R3 X3 S3 => ?_⟩
          cases r2 with
          | nx =>
            simp only [q2] at e1
            exact ⟨Nat.le_of_succ_le hm, ι3, us2, h2, σ0, R3, S3, r, us', h', e1, k.of (X2.trans X3)⟩
          | ret u =>
            simp only [q2] at e1
            cases e1
            exact k ι3 σ3 H3 R3 (X2.trans X3) S3
include ok in
theorem ss_for {n dd : Nat} {mg : MG} {fi : Env → MH → Option (IT × MH)} {mb : List MS} {body : List Stmt} {it : Expr} (hi : PI X tg it (tI W fi)) (hg : ∀ k, k < n → PG X tg (tG W (gnames mg) ((fns Γ P k).g dd mg))) (hb : ∀ k, k < n → PSs X body (tS W (evSs ((fns Γ P k).s dd) mb)))
    (hs : noSet it = true) : PS X (.For tg it body [] pos) (tS W fun us h => match fi us h with
    | none => none
    | some (I, h1) => (fns Γ P n).f dd I 0 mg mb us h1) := by
  have ho : PassesOwn (model X.prog X.w) X.A X.env X.xe := by
    rw [ok.xe]
    exact PassesOwn.never
  refine PS.imp (ps_for ho ok.calm hi (pg_any (n := n) hg) (pss_any (n := n) hb) (set_of hs X.env)) fun D σ H ⟨ι, us, h, σ0, R, S, r, us', h', e, k⟩ => ?_
  cases q : fi us h with
  | none => simp only [q] at e; cases e
  | some p =>
    obtain ⟨I, h1⟩ := p
    simp only [q] at e
    refine ⟨ι, us, h, σ0, R, S, I, h1, q, fun ι1 J H1 R1 X1 RJ => ?_⟩
    refine ⟨fun i m σ H => m ≤ n ∧ ∃ ι us h σ0, Rep W ι h H ∧ RS W ι h.n H σ0 us σ ∧ RI W ι h.n H I J ∧ ∃ r us' h', (fns Γ P m).f dd I i mg mb us h = some (r, us', h') ∧ SFin W ι h H σ0 D r us' h',
      ⟨n, Nat.le_refl _, ι1, us, h1, σ0, R1, S.mono X1 R.mu, RJ, r, us', h', e, k.of X1⟩, ?_⟩
    rintro i m σ H ⟨hm, ι, us, h, σ0, R, S, RJ, r, us', h', e, k⟩
    cases m with
    | zero => cases e
    | succ m =>
      have e1 : stepF (fns Γ P m) dd I i mg mb us h = some (r, us', h') := e
      unfold stepF at e1
      obtain ⟨z1, z2⟩ := RJ ι h H i Ext.refl R
      cases q1 : next I i h with
      | none => simp only [q1] at e1; cases e1
      | some o => cases o with
        | none =>
          simp only [q1] at e1
          cases e1
          exact .inl ⟨z1 q1, k ι σ H R Ext.refl S⟩
        | some x =>
          obtain ⟨g1, g2⟩ := z2 x q1
          refine .inr ⟨g1, fun σ' H' => m ≤ n ∧ ∃ ι us h σ0, Rep W ι h H' ∧ RS W ι h.n H' σ0 us σ' ∧ RI W ι h.n H' I J ∧ ∃ r us' h', (fns Γ P m).f dd I (i + 1) mg mb us h = some (r, us', h') ∧ SFin W ι h H' σ0 D r us' h', fun σ' H' q => ⟨m, Nat.lt_succ_self _, q⟩, fun v H' y => ?_⟩
          obtain ⟨R2, X2, rv⟩ := g2 v H' y
          simp only [q1] at e1
          cases q2 : (fns Γ P m).g dd mg x us h with
          | none => simp only [q2] at e1; cases e1
          | some p2 =>
            obtain ⟨us1, h1⟩ := p2
            simp only [q2] at e1
            refine ⟨m, hm, ι, us, h, σ0, x, R2, S.mono X2 R.mu, rv, us1, h1, q2, fun ι3 σ3 H3 R3 X3 S3 _ => ?_⟩
            cases q3 : evSs ((fns Γ P m).s dd) mb us1 h1 with
            | none => simp only [q3] at e1; cases e1
            | some p3 =>
              obtain ⟨r2, us2, h2⟩ := p3
              refine ⟨m, hm, ι3, us1, h1, σ0, R3, S3, r2, us2, h2, q3, fun ι4 σ4 H4 R4 X4 S4 => ?_⟩
              cases r2 with
              | nx =>
                simp only [q3] at e1
                exact ⟨Nat.le_of_succ_le hm, ι4, us2, h2, σ0, R4, S4, RJ.ext ((X2.trans X3).trans X4), r, us', h', e1, k.of ((X2.trans X3).trans X4)⟩
              | ret u =>
                simp only [q3] at e1
                cases e1
                exact k ι4 σ4 H4 R4 ((X2.trans X3).trans X4) S4
end
end Se
set_option Elab.async false
set_option linter.all false
set_option maxRecDepth 100000
/-! Se over the hand layer: comprehensions. -/
namespace Se
open PySem PySem.Spec
open PyProof.Rows L2

/-! ### the slots forgotten -/
theorem wipeN_len : ∀ (us : Env) (v : Nat), (wipeN us v).length = us.length
  | [], _ => rfl
  | _ :: _, 0 => rfl
  | _ :: r, n + 1 => congrArg Nat.succ (wipeN_len r n)
theorem wipe_len : ∀ (us : Env) (vs : List Nat), (Se.wipe us vs).length = us.length
  | _, [] => rfl
  | us, v :: r => (wipeN_len _ v).trans (wipe_len us r)
theorem getV_wipeN : ∀ {us : Env} {v i : Nat} {u : U}, getV (wipeN us v) i = some u → getV us i = some u ∧ i ≠ v
  | [], _, _, _, e => nomatch e
  | _ :: _, 0, 0, _, e => nomatch e
  | _ :: _, 0, i + 1, _, e => ⟨e, Nat.succ_ne_zero i⟩
  | _ :: _, v + 1, 0, _, e => ⟨e, fun z => nomatch z⟩
  | _ :: r, v + 1, i + 1, _, e => by
    obtain ⟨h1, h2⟩ := getV_wipeN (us := r) (v := v) (i := i) e
    exact ⟨h1, fun z => h2 (Nat.succ.inj z)⟩
theorem getV_wipe : ∀ {us : Env} {vs : List Nat} {i : Nat} {u : U}, getV (Se.wipe us vs) i = some u → getV us i = some u ∧ i ∉ vs
  | _, [], _, _, e => ⟨e, by simp⟩
  | us, v :: r, i, u, e => by
    obtain ⟨h1, h2⟩ := getV_wipeN (us := Se.wipe us r) e
    obtain ⟨h3, h4⟩ := getV_wipe (us := us) h1
    exact ⟨h3, by simp only [List.mem_cons, not_or]; exact ⟨h2, h4⟩⟩
theorem lw_out {σ : L2.St} {i : Nat} : ∀ {vs : List Nat}, i ∉ vs → (L2.wipe σ vs)[i]? = σ[i]?
  | [], _ => rfl
  | v :: r, h => by
    simp only [List.mem_cons, not_or] at h
    show ((L2.wipe σ r).set v none)[i]? = _
    rw [List.getElem?_set_ne (Ne.symm h.1)]
    exact lw_out h.2
theorem lw_in {σ : L2.St} {i : Nat} : ∀ {vs : List Nat}, i ∈ vs → (L2.wipe σ vs)[i]? = if i < σ.length then some none else none
  | v :: r, h => by
    show ((L2.wipe σ r).set v none)[i]? = _
    by_cases q : i = v
    · rw [q]
      by_cases z : v < σ.length
      · rw [if_pos z, List.getElem?_set_self (by rw [L2.wipe_length]; exact z)]
      · rw [if_neg z, List.getElem?_eq_none (by rw [List.length_set, L2.wipe_length]; omega)]
    · rw [List.getElem?_set_ne (Ne.symm q)]
      rcases List.mem_cons.1 h with e | e
      · exact absurd e q
      · exact lw_in e
theorem lw_eq {σ σ2 : L2.St} {vs ns : List Nat} (hl : σ2.length = (L2.wipe σ vs).length) (hn : ∀ j, j ∈ ns → j ∈ vs) (h : ∀ j, j ∉ ns → σ2[j]? = (L2.wipe σ vs)[j]?) : L2.wipe σ2 vs = L2.wipe σ vs := by
  refine List.ext_getElem? fun i => ?_
  by_cases q : i ∈ vs
  · rw [lw_in q, lw_in q, hl, L2.wipe_length]
  · rw [lw_out q, h i fun z => q (hn i z)]
section
variable {W : Wd} {P : Pg} (N : NmOk W P) {X : Cx} {d : Nat} {Γ : Bd} (G : Γ.ok W.θ) (ok : XOk W d X) {a b c : Expr} {pos p : Pos} {fa fb fc : Env → MH → Option (U × MH)}
theorem RS.wipe {ι : Nat → Addr} {n : Nat} {H : Hp} {σ0 σ : L2.St} {us : Env} (S : RS W ι n H σ0 us σ) (vs : List Nat) : RS W ι n H (L2.wipe σ vs) (Se.wipe us vs) (L2.wipe σ vs) :=
  ⟨by rw [wipe_len, L2.wipe_length]; exact S.len, rfl, fun i u e => by
    obtain ⟨h1, h2⟩ := getV_wipe e
    obtain ⟨v, h3, h4⟩ := S.some_ i u h1
    exact ⟨v, by rw [lw_out h2]; exact h3, h4⟩, fun _ _ => rfl⟩
theorem tE_imp {f : Env → MH → Option (U × MH)} {σ : L2.St} {H : Hp} {Q Q' : VK} (h : tE W f σ H Q) (k : ∀ v H, Q v H → Q' v H) : tE W f σ H Q' := by
  obtain ⟨ι, us, h, σ0, R, S, u, h', e, q⟩ := h
  exact ⟨ι, us, h, σ0, R, S, u, h', e, fun ι' v H' R' X' r => k v H' (q ι' v H' R' X' r)⟩
def fLc (l : IT → Nat → Nat → Env → MH → Option MH) (vs : List Nat) (fi : Env → MH → Option (IT × MH)) : Env → MH → Option (U × MH) := fun us h => match fi us h with
  | none => none
  | some (I, h1) => match l I 0 h1.n (Se.wipe us vs) (h1.new (.lst [])) with
    | none => none
    | some h2 => some (.ref h1.n, h2)
def fDc (l : IT → Nat → Nat → Env → MH → Option MH) (vs : List Nat) (fi : Env → MH → Option (IT × MH)) : Env → MH → Option (U × MH) := fun us h => match fi us h with
  | none => none
  | some (I, h1) => match l I 0 h1.n (Se.wipe us vs) (h1.new (.dK [])) with
    | none => none
    | some h2 => some (.ref h1.n, h2)
theorem lc_tr {n dd : Nat} {mg : MG} {mt : Option ME} {me : ME} {vs : List Nat} {fi : Env → MH → Option (IT × MH)} (hn : ∀ j, j ∈ gnames mg → j ∈ vs) {σ : L2.St} {H : Hp} {Q : VK}
    (h : tE W (fLc (fun I i D us h => (fns Γ P n).l dd I i D mg mt me us h) vs fi) σ H Q) :
    tLc (tI W fi) (anyG n fun k => tG W (gnames mg) ((fns Γ P k).g dd mg)) (anyT n fun k => tT W (testO (fns Γ P k) dd mt)) (anyE n fun k => tE W ((fns Γ P k).e dd me)) vs σ H Q := by
  obtain ⟨ι, us, h, σ0, R, S, u, h', e, k⟩ := h
  unfold fLc at e
  cases q1 : fi us h with
  | none => simp only [q1] at e; cases e
  | some p1 =>
    obtain ⟨I, h1⟩ := p1
    cases q2 : (fns Γ P n).l dd I 0 h1.n mg mt me (Se.wipe us vs) (h1.new (.lst [])) with
    | none => simp only [q1, q2] at e; cases e
    | some h2 =>
      simp only [q1, q2] at e
      cases e
      refine ⟨ι, us, h, σ0, R, S, I, h1, q1, fun ι1 J H1 R1 X1 RJ D nD => ?_⟩
      obtain ⟨R2, X2⟩ := R1.new nD (o := .lst []) (u := .lst []) (.lst .nil)
      have S2 := ((S.mono X1 R.mu).mono X2 R1.mu).wipe vs
      refine ⟨fun i m H => m ≤ n ∧ ∃ ι3 h3, Rep W ι3 h3 H ∧ RS W ι3 h3.n H (L2.wipe σ vs) (Se.wipe us vs) (L2.wipe σ vs) ∧ RI W ι3 h3.n H I J ∧ h1.n < h3.n ∧ ι3 h1.n = D ∧ (fns Γ P m).l dd I i h1.n mg mt me (Se.wipe us vs) h3 = some h' ∧
        (∀ ι' H', Rep W ι' h' H' → Ext ι3 h3.n H ι' h'.n H' → Q (.ref D) H'), ⟨n, Nat.le_refl _, _, _, R2, S2, RJ.ext X2, Nat.lt_succ_self _, put1_same, q2, fun ι' H' R' X' => ?_⟩, ?_⟩
      · have z := k ι' (.ref (ι' h1.n)) H' R' ((X1.trans X2).trans X') (.ref (Nat.lt_of_lt_of_le (Nat.lt_succ_self _) X'.le))
        rw [X'.same h1.n (Nat.lt_succ_self _), put1_same] at z
        exact z
      · clear R2 X2 S2 q2 RJ nD R1 X1
        rintro i m H ⟨hm, ι3, h3, R3, S3, RJ, hD, eD, e3, k3⟩
        cases m with
        | zero => cases e3
        | succ m =>
          have e1 : stepL (fns Γ P m) dd I i h1.n mg mt me (Se.wipe us vs) h3 = some h' := e3
          unfold stepL at e1
          obtain ⟨z1, z2⟩ := RJ ι3 h3 H i Ext.refl R3
          cases q4 : next I i h3 with
          | none => simp only [q4] at e1; cases e1
          | some o => cases o with
            | none =>
              simp only [q4] at e1
              cases e1
              exact .inl ⟨z1 q4, k3 ι3 H R3 Ext.refl⟩
            | some x =>
              obtain ⟨g1, g2⟩ := z2 x q4
              refine .inr ⟨g1, fun H => m ≤ n ∧ ∃ ι3 h3, Rep W ι3 h3 H ∧ RS W ι3 h3.n H (L2.wipe σ vs) (Se.wipe us vs) (L2.wipe σ vs) ∧ RI W ι3 h3.n H I J ∧ h1.n < h3.n ∧ ι3 h1.n = D ∧ (fns Γ P m).l dd I (i + 1) h1.n mg mt me (Se.wipe us vs) h3 = some h' ∧
                (∀ ι' H', Rep W ι' h' H' → Ext ι3 h3.n H ι' h'.n H' → Q (.ref D) H'), fun H' w => ⟨m, Nat.lt_succ_self _, w⟩, fun v H' y => ?_⟩
              obtain ⟨R4, X4, rv⟩ := g2 v H' y
              simp only [q4] at e1
              cases q5 : (fns Γ P m).g dd mg x (Se.wipe us vs) h3 with
              | none => simp only [q5] at e1; cases e1
              | some p5 =>
                obtain ⟨us5, h5⟩ := p5
                simp only [q5] at e1
                refine ⟨m, hm, ι3, Se.wipe us vs, h3, L2.wipe σ vs, x, R4, S3.mono X4 R3.mu, rv, us5, h5, q5, fun ι5 σ5 H5 R5 X5 S5 j5 => ⟨lw_eq S5.len0.symm hn j5, ?_⟩⟩
                cases q6 : testO (fns Γ P m) dd mt us5 h5 with
                | none => simp only [q6] at e1; cases e1
                | some p6 =>
                  obtain ⟨b6, h6⟩ := p6
                  refine ⟨m, hm, ι5, us5, h5, _, R5, S5, b6, h6, q6, fun ι6 H6 R6 X6 => ?_⟩
                  have X36 := (X4.trans X5).trans X6
                  cases b6 with
                  | false =>
                    simp only [q6] at e1
                    refine iteF ⟨Nat.le_of_succ_le hm, ι6, h6, R6, S3.mono X36 R3.mu, RJ.ext X36, Nat.lt_of_lt_of_le hD X36.le, (X36.same _ hD).trans eD, e1, fun ι' H' R' X' => k3 ι' H' R' (X36.trans X')⟩
                  | true =>
                    simp only [q6] at e1
                    refine iteT ?_
                    cases q7 : (fns Γ P m).e dd me us5 h6 with
                    | none => simp only [q7] at e1; cases e1
                    | some p7 =>
                      obtain ⟨y7, h7⟩ := p7
                      simp only [q7] at e1
                      refine ⟨m, hm, ι6, us5, h6, _, R6, S5.mono X6 R5.mu, y7, h7, q7, fun ι7 v7 H7 R7 X7 r7 => ?_⟩
                      cases q8 : h7.lst h1.n with
                      | none => simp only [q8] at e1; cases e1
                      | some acc =>
                        cases q9 : small acc with
                        | false => simp only [q8, q9] at e1; cases e1
                        | true =>
                          simp only [q8, q9] at e1
                          have X37 := X36.trans X7
                          obtain ⟨h7i, ws, g7, r8⟩ := R7.lst q8
                          have eD7 : ι7 h1.n = D := (X37.same _ hD).trans eD
                          rw [eD7] at g7
                          obtain ⟨R9, X9⟩ := R7.upd h7i (o := .lst (acc ++ [y7])) (u := .lst (ws ++ [v7])) (.lst (r8.append (.cons r7 .nil)))
                          rw [eD7] at R9 X9
                          have X39 := X37.trans X9
                          refine ⟨ws, g7, by rw [← r8.len]; exact small_line (small_le q9), Nat.le_of_succ_le hm, ι7, _, R9, S3.mono X39 R3.mu, RJ.ext X39, Nat.lt_of_lt_of_le hD X39.le, eD7, e1, fun ι' H' R' X' => k3 ι' H' R' (X39.trans X')⟩
theorem tYes_ite {σ : L2.St} {H : Hp} {A B : Hp → Prop} (h : A H) : tYes σ H fun b H3 => if b = true then A H3 else B H3 := by
  show if true = true then A H else B H
  rw [if_pos rfl]
  exact h
theorem dc_tr {n dd : Nat} {mg : MG} {mk me : ME} {vs : List Nat} {fi : Env → MH → Option (IT × MH)} (hn : ∀ j, j ∈ gnames mg → j ∈ vs) {σ : L2.St} {H : Hp} {Q : VK}
    (h : tE W (fDc (fun I i D us h => (fns Γ P n).d dd I i D mg mk me us h) vs fi) σ H Q) :
    tDc (tI W fi) (anyG n fun k => tG W (gnames mg) ((fns Γ P k).g dd mg)) tYes (anyE n fun k => tE W ((fns Γ P k).e dd mk)) (anyE n fun k => tE W ((fns Γ P k).e dd me)) vs σ H Q := by
  obtain ⟨ι, us, h, σ0, R, S, u, h', e, k⟩ := h
  unfold fDc at e
  cases q1 : fi us h with
  | none => simp only [q1] at e; cases e
  | some p1 =>
    obtain ⟨I, h1⟩ := p1
    cases q2 : (fns Γ P n).d dd I 0 h1.n mg mk me (Se.wipe us vs) (h1.new (.dK [])) with
    | none => simp only [q1, q2] at e; cases e
    | some h2 =>
      simp only [q1, q2] at e
      cases e
      refine ⟨ι, us, h, σ0, R, S, I, h1, q1, fun ι1 J H1 R1 X1 RJ D nD => ?_⟩
      obtain ⟨R2, X2⟩ := R1.new nD (o := .dK []) (u := .dK []) (.dK .nil)
      have S2 := ((S.mono X1 R.mu).mono X2 R1.mu).wipe vs
      refine ⟨fun i m H => m ≤ n ∧ ∃ ι3 h3, Rep W ι3 h3 H ∧ RS W ι3 h3.n H (L2.wipe σ vs) (Se.wipe us vs) (L2.wipe σ vs) ∧ RI W ι3 h3.n H I J ∧ h1.n < h3.n ∧ ι3 h1.n = D ∧ (fns Γ P m).d dd I i h1.n mg mk me (Se.wipe us vs) h3 = some h' ∧
        (∀ ι' H', Rep W ι' h' H' → Ext ι3 h3.n H ι' h'.n H' → Q (.ref D) H'), ⟨n, Nat.le_refl _, _, _, R2, S2, RJ.ext X2, Nat.lt_succ_self _, put1_same, q2, fun ι' H' R' X' => ?_⟩, ?_⟩
      · have z := k ι' (.ref (ι' h1.n)) H' R' ((X1.trans X2).trans X') (.ref (Nat.lt_of_lt_of_le (Nat.lt_succ_self _) X'.le))
        rw [X'.same h1.n (Nat.lt_succ_self _), put1_same] at z
        exact z
      · clear R2 X2 S2 q2 RJ nD R1 X1
        rintro i m H ⟨hm, ι3, h3, R3, S3, RJ, hD, eD, e3, k3⟩
        cases m with
        | zero => cases e3
        | succ m =>
          have e1 : stepD (fns Γ P m) dd I i h1.n mg mk me (Se.wipe us vs) h3 = some h' := e3
          unfold stepD at e1
          obtain ⟨z1, z2⟩ := RJ ι3 h3 H i Ext.refl R3
          cases q4 : next I i h3 with
          | none => simp only [q4] at e1; cases e1
          | some o => cases o with
            | none =>
              simp only [q4] at e1
              cases e1
              exact .inl ⟨z1 q4, k3 ι3 H R3 Ext.refl⟩
            | some x =>
              obtain ⟨g1, g2⟩ := z2 x q4
              refine .inr ⟨g1, fun H => m ≤ n ∧ ∃ ι3 h3, Rep W ι3 h3 H ∧ RS W ι3 h3.n H (L2.wipe σ vs) (Se.wipe us vs) (L2.wipe σ vs) ∧ RI W ι3 h3.n H I J ∧ h1.n < h3.n ∧ ι3 h1.n = D ∧ (fns Γ P m).d dd I (i + 1) h1.n mg mk me (Se.wipe us vs) h3 = some h' ∧
                (∀ ι' H', Rep W ι' h' H' → Ext ι3 h3.n H ι' h'.n H' → Q (.ref D) H'), fun H' w => ⟨m, Nat.lt_succ_self _, w⟩, fun v H' y => ?_⟩
              obtain ⟨R4, X4, rv⟩ := g2 v H' y
              simp only [q4] at e1
              cases q5 : (fns Γ P m).g dd mg x (Se.wipe us vs) h3 with
              | none => simp only [q5] at e1; cases e1
              | some p5 =>
                obtain ⟨us5, h5⟩ := p5
                simp only [q5] at e1
                refine ⟨m, hm, ι3, Se.wipe us vs, h3, L2.wipe σ vs, x, R4, S3.mono X4 R3.mu, rv, us5, h5, q5, fun ι5 σ5 H5 R5 X5 S5 j5 => ⟨lw_eq S5.len0.symm hn j5, ?_⟩⟩
                refine tYes_ite ?_
                cases q6 : (fns Γ P m).e dd mk us5 h5 with
                | none => simp only [q6] at e1; cases e1
                | some p6 =>
                  obtain ⟨y6, h6⟩ := p6
                  simp only [q6] at e1
                  refine ⟨m, hm, ι5, us5, h5, _, R5, S5, y6, h6, q6, fun ι6 v6 H6 R6 X6 r6 => ?_⟩
                  have X36 := (X4.trans X5).trans X6
                  cases q7 : (fns Γ P m).e dd me us5 h6 with
                  | none => simp only [q7] at e1; cases e1
                  | some p7 =>
                    obtain ⟨y7, h7⟩ := p7
                    simp only [q7] at e1
                    refine ⟨m, hm, ι6, us5, h6, _, R6, S5.mono X6 R5.mu, y7, h7, q7, fun ι7 v7 H7 R7 X7 r7 => ?_⟩
                    have X37 := X36.trans X7
                    cases q10 : keyU y6 with
                    | none => simp only [q10] at e1; cases e1
                    | some ky =>
                      cases q8 : h7.get h1.n with
                      | none => simp only [q10, q8] at e1; cases e1
                      | some o => cases o with
                        | dK kvs =>
                          cases q9 : Nat.ble kvs.length 1000000 with
                          | false => simp only [q10, q8, q9] at e1; cases e1
                          | true =>
                            simp only [q10, q8, q9] at e1
                            obtain ⟨h7i, ws, g7, r8⟩ := get_dK R7 q8
                            have eD7 : ι7 h1.n = D := (X37.same _ hD).trans eD
                            rw [eD7] at g7
                            obtain ⟨R9, X9⟩ := R7.upd h7i (.dK (putK_ok (k := ky) r7 r8))
                            rw [eD7] at R9 X9
                            have X39 := X37.trans X9
                            refine ⟨ws, keyV ky, keyU_ok q10 r6, g7, by rw [← Paired.length r8]; exact small_line (Nat.le_of_ble_eq_true q9), Nat.le_of_succ_le hm, ι7, _, R9, S3.mono X39 R3.mu, RJ.ext X39, Nat.lt_of_lt_of_le hD X39.le, eD7, e1, fun ι' H' R' X' => k3 ι' H' R' (X39.trans X')⟩
                        | _ => simp only [q10, q8] at e1; cases e1
end
end Se
set_option Elab.async false
set_option linter.all false
set_option maxRecDepth 100000
/-! Se over the hand layer: enumerate over a tuple, zip of a tuple and a list. -/
namespace Se
open PySem PySem.Spec
open PyProof.Rows L2

/-! ### enumerate(v), one argument -/
set_option maxHeartbeats 1234567 in
theorem enum1_meets {v : Value} {o : Obj} {H : Heap → Prop} (B : Begins v o H) : Meets (Builtin.«enumerate.__new__» ⟨[.type "enumerate", v], []⟩)
    (fun _ R s => H s.heap ∧ R (.ok (.ret (.ref (s.heap.push o).objs.size)))
      { s with heap := (s.heap.push o).push { cls := .type "enumerate", data := .fields #[.none, .bool false, .ref s.heap.objs.size, rawInt 0, .none, .none] } }) :=
  .of_wp fun prog w A R s hh => by
    obtain ⟨hp, gs, dr, tk, os⟩ := s
    obtain ⟨hB, h⟩ := hh
    have hsub := sub_enumerate
    have begin_ : ∀ {A' : Around} {E : Value → Shared → Prop} {Q : Value → Shared → Prop}, Q (.ref hp.objs.size) ⟨hp.push o, gs, dr, tk, os⟩ → wpAny (model prog w) A' (pyIter v) Q E ⟨hp, gs, dr, tk, os⟩ := fun q => B.iter prog w _ _ ⟨hp, gs, dr, tk, os⟩ _ hB q
    wp_walk using begin_
    refine wpAny_stack_any fun at0 => wpAny_pure ?_
    split
    · rename_i cl _ _ _ _ _
      cases (cl == Value.type "enumerate")
      all_goals
        wp_walk using begin_
        exact ⟨_, rfl, h⟩
    · wp_walk using begin_
      exact ⟨_, rfl, h⟩
section
variable {w : World} {prog : Program} {A : Around}
variable {E : Value → Shared → Prop} {s : Shared}
theorem enum1_begins {v : Value} {o : Obj} {H : Heap → Prop} {Q : Value → Shared → Prop} (B : Begins v o H) (hB : H s.heap)
    (k : ∀ h', IsEnum h' (s.heap.objs.size + 1) s.heap.objs.size 0 .none → h'.get? s.heap.objs.size = some o → (∀ b o, s.heap.get? b = some o → h'.get? b = some o) → Q (.ref (s.heap.objs.size + 1)) { s with heap := h' }) :
    wpAny (model prog w) A (call (.type "enumerate") [v]) Q E s := by
  refine callType_new F.called_enumerate (by decide) (F.typeCall_enumerate_1 _) (F.newCall_enumerate_1 _) (fun x => F.args_object_init_2 x _) F.entry_enumerate_new (enum1_meets B) ⟨hB, ?_⟩
  have z : (s.heap.push o).objs.size = s.heap.objs.size + 1 := by rw [Heap.size_push]
  have g := Heap.get?_push_size (s.heap.push o) (o := { cls := .type "enumerate", data := .fields #[.none, .bool false, .ref s.heap.objs.size, rawInt 0, .none, .none] }) rfl
  rw [z] at g
  show _ ∧ _
  rw [z]
  exact ⟨⟨_, g, rfl⟩, k _ g (Heap.get?_push_of_some _ (Heap.get?_push_size _ B.free)) fun b o' e => Heap.get?_push_of_some _ (Heap.get?_push_of_some _ e)⟩
end
/-- the tuple at a, each item in a new pair -/
def IteT (K : PySem.W.Frag) (a : Addr) : It where
  go := fun i H => ∃ (xs : List V) (x : V), SqT K H a xs ∧ xs[i]? = some x
  yld := fun i H v H' => ∃ T x, v = .ref T ∧ H T = none ∧ H' = L2.upd H T (.tup [.int (i : Nat), x]) ∧ ∀ xs, SqT K H a xs → xs[i]? = some x
  stop := fun i H => ∃ xs : List V, SqT K H a xs ∧ xs.length = i
theorem turnEnT {P : Program} {w : World} {K : PySem.W.Frag} {elts : List Expr} {kk : Nat} {tpos : Pos} (a e it : Addr) (hai : a ≠ it) (hae : e ≠ a) :
    Turn P w K (.Tuple elts kk tpos) (IteT K a) [e, it] e (fun i h => (∃ old, IsEnum h e it ((i : Nat) : Int) old) ∧ h.IsTupleIter it a i ∧ e ≠ it) where
  mem := List.mem_cons_self ..
  obj := by
    rintro i h ⟨⟨old, en⟩, ⟨o, ho, _, hd⟩, _⟩ b hb
    rcases (by simpa using hb : b = e ∨ b = it) with rfl | rfl
    · exact ⟨_, en, fun v q => nomatch q⟩
    · exact ⟨o, ho, fun v q => by rw [hd] at q; cases q⟩
  keep := by
    rintro i h h' ⟨⟨old, en⟩, hi, nei⟩ k
    exact ⟨⟨old, k e (by simp) _ en⟩, hi.at fun o q => k it (by simp) o q, nei⟩
  item := by
    intro X eP ew eK cm i pn s σ H E I nf at0 gg
    subst eP ew eK
    have hh : X.A.in1.handled = none := I.ok.hd cm
    obtain ⟨⟨old, en⟩, it0, nei⟩ := at0
    obtain ⟨xs, x, hq, hx⟩ := gg
    obtain ⟨ws1, rl1, p, _⟩ := I.tuple hq
    obtain ⟨u, gu, ru1⟩ := rl1.get hx
    have ln : e < s.heap.objs.size := Heap.lt_size en
    have li : it < s.heap.objs.size := by obtain ⟨_, q, _⟩ := it0; exact Heap.lt_size q
    have lt0 : i < ws1.toArray.size := by
      have := (List.getElem?_eq_some_iff.mp gu).1
      simpa using this
    refine wpAny_pyNext_enum_itemD (Draws.tuple hh it a hai ws1.toArray) en ⟨it0, p⟩ lt0 nei (by simp only [List.mem_cons, List.not_mem_nil, or_false, not_or]; exact ⟨nei, hae⟩) fun x' h' tk hx' ho hit' hT hsz kp => ?_
    have ex : x' = u := by
      have z : ws1[i]? = some x' := by simpa using hx'
      rw [gu] at z
      cases z
      rfl
    subst ex
    refine ⟨_, rfl, wpAny_letOwnedTupleGo_enum (s := { s with heap := h', toks := tk + 1 }) ho fun h'' he' sb => ?_⟩
    have hT2 : h''.get? s.heap.objs.size = some { cls := .type "tuple", data := .seq #[.int i tk, x'] } := (sb.2 _ (Nat.ne_of_gt ln)).trans hT
    have new : ObjOk X.prog X.w (L2.upd H s.heap.objs.size (.tup [.int (i : Nat), x])) h'' s.heap.objs.size (.tup [.int (i : Nat), x]) := ⟨by show 2 ≤ sizeLine; decide, [.int i tk, x'], .cons ⟨_, rfl⟩ (.cons ru1 .nil), ⟨_, hT2, rfl, _, rfl⟩⟩
    have I1 : Inv X pn σ (L2.upd H s.heap.objs.size (.tup [.int (i : Nat), x])) { s with heap := h'', toks := tk + 1 } := by
      refine I.turnedNew (ch := [e, it]) (fun b ob hb q => ?_) nf (Nat.le_refl _) new
      simp only [List.mem_cons, List.not_mem_nil, or_false, not_or] at hb
      exact (sb.2 b hb.1).trans (kp b ob hb.1 hb.2 q)
    refine ⟨.ref s.heap.objs.size, _, I1, rfl, ⟨_, x, rfl, I.hok.fresh (Nat.le_refl _), rfl, fun ys hy => by rw [I.tuple_inj hy hq]; exact hx⟩, ⟨⟨x', ?_⟩, hit'.1.at fun o q => (sb.2 it (Ne.symm nei)).trans q, nei⟩, fun b hb => ?_⟩
    · rw [show ((i + 1 : Nat) : Int) = (i : Int) + 1 by omega]
      exact he'
    · rcases (by simpa using hb : b = e ∨ b = it) with rfl | rfl
      · rw [upd_ne (Nat.ne_of_lt ln)]
        exact (nf _ hb).1
      · rw [upd_ne (Nat.ne_of_lt li)]
        exact (nf _ hb).1
  done := by
    intro X eP ew eK cm i pn s σ H E I nf at0 gg
    subst eP ew eK
    have hh : X.A.in1.handled = none := I.ok.hd cm
    obtain ⟨⟨old, en⟩, it0, nei⟩ := at0
    obtain ⟨xs, hq, hx⟩ := gg
    obtain ⟨ws1, rl1, p, _⟩ := I.tuple hq
    obtain ⟨w0, w1, w2, w3, w4, w5⟩ := nf it (by simp)
    have hl := rl1.length
    have en : i = ws1.toArray.size := by simp; omega
    subst en
    exact wpAny_pyNext_enum_endD (Draws.tuple hh it a hai ws1.toArray) en ⟨it0, p⟩ fun h' eb => ⟨rfl, I.turned (t' := s.toks) (fun b o hb q => eb b o hb q) w0 w1 w3 w4 w5⟩
  self := fun A i s Q E at0 h => wpAny_pyIter_enum at0.1.choose_spec h
def iEnumT (K : PySem.W.Frag) (ta : TA) : TI := fun σ H R => ta σ H fun vs H1 => ∃ a xs, vs = [.ref a] ∧ SqT K H1 a xs ∧ R (IteT K a) H1
theorem pi_enumT {X : Cx} {e : Expr} {ta : TA} {p pos tpos : Pos} {elts : List Expr} {kk : Nat} (gg : Gl X "enumerate") (hm : X.mg "enumerate" = none) (ha : PA X [e] ta) (hs : starEach [e] X.env = [(false, eval e X.env)]) :
    PI X (.Tuple elts kk tpos) (.Call (.Name "enumerate" p) [e] [] pos) (iEnumT X.K ta) := ⟨fun pn s σ H R I h => by
  refine Call_ (ld_blt I gg hm boot_enumerate (PyProof.Rows.callWith_type1 (thn (ha.run pos pn s σ H _ I h) fun us s1 ⟨vs, H1, I1, r1, a, xs, ex, hq, q⟩ => ?_) hs rfl))
  subst ex
  cases r1 with
  | cons r rr =>
    cases rr
    cases r
    obtain ⟨ws1, rl1, pt, _⟩ := I1.tuple hq
    obtain ⟨oa, ha', _⟩ := id pt
    have la : a < s1.heap.objs.size := Heap.lt_size ha'
    refine enum1_begins (begins_tuple a ws1.toArray) pt fun h' en it0 kp => wpAny_pyIter_enum en ?_
    have J2 : Inv X pn σ H1 { s1 with heap := h' } := I1.kept (t' := s1.toks) kp
    refine ⟨s1.heap.objs.size + 1, [s1.heap.objs.size + 1, s1.heap.objs.size], _, _, H1, rfl, J2, turnEnT a (s1.heap.objs.size + 1) s1.heap.objs.size (Nat.ne_of_lt la) (Nat.ne_of_gt (Nat.lt_succ_of_lt la)), ⟨⟨.none, en⟩, ⟨_, it0, rfl, rfl⟩, Nat.succ_ne_self _⟩, fun b hb => ?_, q⟩
    have le0 : s1.heap.objs.size ≤ b := by
      rcases (by simpa using hb : b = s1.heap.objs.size + 1 ∨ b = s1.heap.objs.size) with z | z
      · exact z ▸ Nat.le_add_right _ _
      · rw [z]; exact Nat.le_refl _
    exact I1.fpOk le0 (I1.hok.fresh le0)⟩

/-! ### zip(tuple, list) -/
def ItzTL (K : PySem.W.Frag) (a b : Addr) : It where
  go := fun i H => ∃ (xs ys : List V) (x y : V), SqT K H a xs ∧ SqL K H b ys ∧ xs[i]? = some x ∧ ys[i]? = some y
  yld := fun i H v H' => ∃ T x y, v = .ref T ∧ H T = none ∧ H' = L2.upd H T (.tup [x, y]) ∧ (∀ xs, SqT K H a xs → xs[i]? = some x) ∧ ∀ ys, SqL K H b ys → ys[i]? = some y
  stop := fun i H => ∃ xs ys : List V, SqT K H a xs ∧ SqL K H b ys ∧ i ≤ xs.length ∧ i ≤ ys.length ∧ (i = xs.length ∨ i = ys.length)
theorem turnZTL {P : Program} {w : World} {K : PySem.W.Frag} {elts : List Expr} {kk : Nat} {tpos : Pos} {a b z TI TO i1 i2 : Addr} (S : ZipSep2 z TI TO i1 i2 [i1, a] [i2, b]) (ha : a ≠ i1) (hb2 : b ≠ i2) :
    Turn P w K (.Tuple elts kk tpos) (ItzTL K a b) [z, TI, TO, i1, i2] z (fun i h => IsZip h z TI TO .none ∧ IsTupOf2 h TI (.ref i1) (.ref i2) ∧ (∃ x y, IsTupOf2 h TO x y) ∧ h.IsTupleIter i1 a i ∧ h.IsListIter i2 b i) where
  mem := List.mem_cons_self ..
  obj := by
    rintro i h ⟨zz, tI0, ⟨x, y, tO0⟩, ⟨o1, e1, _, d1⟩, ⟨o2, e2, _, d2⟩⟩ c cm
    rcases (by simpa using cm : c = z ∨ c = TI ∨ c = TO ∨ c = i1 ∨ c = i2) with q | q | q | q | q <;> rw [q]
    · exact ⟨_, zz, fun v q => nomatch q⟩
    · exact ⟨_, tI0, fun v q => nomatch q⟩
    · exact ⟨_, tO0, fun v q => nomatch q⟩
    · exact ⟨o1, e1, fun v q => by rw [d1] at q; cases q⟩
    · exact ⟨o2, e2, fun v q => by rw [d2] at q; cases q⟩
  keep := by
    rintro i h h' ⟨zz, tI0, ⟨x, y, tO0⟩, h1, h2⟩ k
    exact ⟨k z (by simp) _ zz, k TI (by simp) _ tI0, ⟨x, y, k TO (by simp) _ tO0⟩, h1.at fun o q => k i1 (by simp) o q, h2.at fun o q => k i2 (by simp) o q⟩
  item := by
    intro X eP ew eK cm i pn s σ H E I nf at0 gg
    subst eP ew eK
    have hh : X.A.in1.handled = none := I.ok.hd cm
    obtain ⟨zz, tI0, ⟨x0, y0, tO0⟩, h1, h2⟩ := at0
    obtain ⟨xs, ys, x, y, qa, qb, hx, hy⟩ := gg
    obtain ⟨ws1, rl1, p, _⟩ := I.tuple qa
    obtain ⟨ws2, rl2, p2, _⟩ := I.list qb
    obtain ⟨u, gu, ru1⟩ := rl1.get hx
    obtain ⟨uu, gu2, ru22⟩ := rl2.get hy
    have zl : z < s.heap.objs.size := Heap.lt_size zz
    have l1 : i < ws1.toArray.size := by simpa using (List.getElem?_eq_some_iff.mp gu).1
    have l2 : i < ws2.toArray.size := by simpa using (List.getElem?_eq_some_iff.mp gu2).1
    refine wpAny_pyNext_zipD2_item S (Draws.tuple hh i1 a ha ws1.toArray) (Draws.list hh i2 b hb2 ws2.toArray) zz tI0 tO0 ⟨h1, p⟩ ⟨h2, p2.isList⟩ l1 l2 fun x1 x2 h' tk g1 g2 z' TO' h1' h2' hT hsz kp => ?_
    have ex : x1 = u := by
      have z : ws1[i]? = some x1 := by simpa using g1
      rw [gu] at z
      cases z
      rfl
    have ey : x2 = uu := by
      have z : ws2[i]? = some x2 := by simpa using g2
      rw [gu2] at z
      cases z
      rfl
    subst ex ey
    refine ⟨_, rfl, wpAny_letOwnedTupleGo_zip (s := { s with heap := h', toks := tk }) z' fun h'' z'' sb => ?_⟩
    have hT2 : h''.get? s.heap.objs.size = some { cls := .type "tuple", data := .seq #[x1, x2] } := (sb.2 _ (Nat.ne_of_gt zl)).trans hT
    have new : ObjOk X.prog X.w (L2.upd H s.heap.objs.size (.tup [x, y])) h'' s.heap.objs.size (.tup [x, y]) := ⟨by show 2 ≤ sizeLine; decide, [x1, x2], .cons ru1 (.cons ru22 .nil), ⟨_, hT2, rfl, _, rfl⟩⟩
    have I1 : Inv X pn σ (L2.upd H s.heap.objs.size (.tup [x, y])) { s with heap := h'', toks := tk } := by
      refine I.turnedNew (ch := [z, TI, TO, i1, i2]) (fun c o hb q => ?_) nf (Nat.le_refl _) new
      simp only [List.mem_cons, List.not_mem_nil, or_false, not_or] at hb
      exact (sb.2 c hb.1).trans (kp c o hb.1 hb.2.2.1 hb.2.2.2.1 hb.2.2.2.2 q)
    refine ⟨.ref s.heap.objs.size, _, I1, rfl, ⟨_, x, y, rfl, I.hok.fresh (Nat.le_refl _), rfl, fun l hl => by rw [I.tuple_inj hl qa]; exact hx, fun l hl => by rw [I.list_inj hl qb]; exact hy⟩, ⟨z'', ?_, ⟨x1, x2, ?_⟩, ?_, ?_⟩, fun c hcm => ?_⟩
    · exact (sb.2 _ S.TIz).trans (kp _ _ S.TIz S.TITO S.TIi1 S.TIi2 tI0)
    · exact (sb.2 _ S.TOz).trans TO'
    · exact h1'.1.at fun o q => (sb.2 _ S.zi1.symm).trans q
    · exact h2'.1.at fun o q => (sb.2 _ S.zi2.symm).trans q
    · have lt0 : c < s.heap.objs.size := by
        rcases (by simpa using hcm : c = z ∨ c = TI ∨ c = TO ∨ c = i1 ∨ c = i2) with q | q | q | q | q <;> rw [q]
        · exact zl
        · exact Heap.lt_size tI0
        · exact Heap.lt_size tO0
        · obtain ⟨_, e1, _⟩ := h1; exact Heap.lt_size e1
        · obtain ⟨_, e2, _⟩ := h2; exact Heap.lt_size e2
      rw [upd_ne (Nat.ne_of_lt lt0)]
      exact (nf c hcm).1
  done := by
    intro X eP ew eK cm i pn s σ H E I nf at0 gg
    subst eP ew eK
    have hh : X.A.in1.handled = none := I.ok.hd cm
    obtain ⟨zz, tI0, ⟨x0, y0, tO0⟩, h1, h2⟩ := at0
    obtain ⟨xs, ys, qa, qb, b1, b2, hend⟩ := gg
    obtain ⟨ws1, rl1, p, _⟩ := I.tuple qa
    obtain ⟨ws2, rl2, p2, _⟩ := I.list qb
    have l1 := rl1.length
    have l2 := rl2.length
    refine wpAny_pyNext_zipD2_end S (Draws.tuple hh i1 a ha ws1.toArray) (Draws.list hh i2 b hb2 ws2.toArray) zz tI0 tO0 ⟨h1, p⟩ ⟨h2, p2.isList⟩ (by simp; omega) (by simp; omega) (by simp; omega) fun h' tk kp => ⟨rfl, ?_⟩
    refine I.turnedL (ch := [z, TI, TO, i1, i2]) (fun c o hb q => ?_) nf
    simp only [List.mem_cons, List.not_mem_nil, or_false, not_or] at hb
    exact kp c o hb.1 hb.2.2.1 hb.2.2.2.1 hb.2.2.2.2 q
  self := fun A i s Q E at0 h => wpAny_pyIter_zip at0.1 h
def iZipTL (K : PySem.W.Frag) (ta : TA) : TI := fun σ H R => ta σ H fun vs H1 => ∃ a b xs ys, vs = [.ref a, .ref b] ∧ SqT K H1 a xs ∧ SqL K H1 b ys ∧ R (ItzTL K a b) H1
theorem pi_zipTL {X : Cx} {e e2 : Expr} {ta : TA} {p pos tpos : Pos} {elts : List Expr} {kk : Nat} (gg : Gl X "zip") (hm : X.mg "zip" = none) (ha : PA X [e, e2] ta)
    (hs : starEach [e, e2] X.env = (false, eval e X.env) :: starEach [e2] X.env) (hpl : (backTo pos (starEach [e2] X.env)).any (·.1) = false) :
    PI X (.Tuple elts kk tpos) (.Call (.Name "zip" p) [e, e2] [] pos) (iZipTL X.K ta) := ⟨fun pn s σ H R I h => by
  refine Call_ (ld_blt I gg hm PyProof.Rows.boot_zip (PyProof.Rows.callWith_type1 (thn (ha.run pos pn s σ H _ I h) fun us s1 ⟨vs, H1, I1, r1, a, b, xs, ys, ex, qa, qb, q⟩ => ?_) hs hpl))
  subst ex
  cases r1 with
  | cons r rr => cases rr with
    | cons r' rr =>
      cases rr
      cases r
      cases r'
      obtain ⟨ws1, rl1, p1, _⟩ := I1.tuple qa
      obtain ⟨ws2, rl2, p2, _⟩ := I1.list qb
      have la : a < s1.heap.objs.size := by obtain ⟨_, e, _⟩ := id p1; exact Heap.lt_size e
      have lb : b < _ := p2.lt
      refine zip_begins2 (begins_tuple a ws1.toArray) (begins_list b ws2.toArray) p1 p2.isList fun h' zz tI0 tO0 g1 g2 hsz kp => wpAny_pyIter_zip zz ?_
      have J2 : Inv X pn σ H1 { s1 with heap := h' } := I1.kept (t' := s1.toks) kp
      have S : ZipSep2 (s1.heap.objs.size + 4) (s1.heap.objs.size + 2) (s1.heap.objs.size + 3) s1.heap.objs.size (s1.heap.objs.size + 1) [s1.heap.objs.size, a] [s1.heap.objs.size + 1, b] :=
        zip_sep2 (fun c cm => by rw [List.mem_singleton.mp cm]; exact la) (fun c cm => by rw [List.mem_singleton.mp cm]; exact lb)
      refine ⟨s1.heap.objs.size + 4, [s1.heap.objs.size + 4, s1.heap.objs.size + 2, s1.heap.objs.size + 3, s1.heap.objs.size, s1.heap.objs.size + 1], _, _, H1, rfl, J2, turnZTL S (Nat.ne_of_lt la) (Nat.ne_of_lt (Nat.lt_succ_of_lt lb)), ⟨zz, tI0, ⟨_, _, tO0⟩, ⟨_, g1, rfl, rfl⟩, ⟨_, g2, rfl, rfl⟩⟩, fun c hcm => ?_, q⟩
      have le0 : s1.heap.objs.size ≤ c := by
        rcases (by simpa using hcm : c = s1.heap.objs.size + 4 ∨ c = s1.heap.objs.size + 2 ∨ c = s1.heap.objs.size + 3 ∨ c = s1.heap.objs.size ∨ c = s1.heap.objs.size + 1) with q | q | q | q | q <;> rw [q]
        · exact Nat.le_add_right _ _
        · exact Nat.le_add_right _ _
        · exact Nat.le_add_right _ _
        · exact Nat.le_refl _
        · exact Nat.le_add_right _ _
      exact I1.fpOk le0 (I1.hok.fresh le0)⟩
end Se
set_option Elab.async false
set_option linter.all false
set_option maxRecDepth 100000
/-! Se over the hand layer: enumerate and zip as items, comprehensions as values, a written table's get. -/
namespace Se
open PySem PySem.Spec
open PyProof.Rows L2

section
variable {W : Wd} {P : Pg} (N : NmOk W P) {X : Cx} {d : Nat} {Γ : Bd} (G : Γ.ok W.θ) (ok : XOk W d X) {a b c : Expr} {pos p : Pos} {fa fb fc : Env → MH → Option (U × MH)}
theorem RI.enT {ι : Nat → Addr} {n : Nat} {H : Hp} {xs : List U} {vs : List V} {ad : Addr} (s : SqT W.K H ad vs) (r : RUs W ι n H xs vs) (mu : ∀ i, i < n → ∃ o, H (ι i) = some o ∧ Mut (some o)) : RI W ι n H (.enT xs) (IteT W.K ad) := fun ι2 h2 H2 k X2 R2 => by
  have s2 := X2.tup mu s
  have r2 := r.mono X2 mu
  cases q2 : nth xs k with
  | none =>
    refine ⟨fun e => ?_, fun u e => ?_⟩
    · cases q3 : Nat.beq k xs.length with
      | false => simp only [next, q2, q3] at e; cases e
      | true => exact ⟨vs, s2, by rw [← r2.len]; exact (Nat.eq_of_beq_eq_true q3).symm⟩
    · cases q3 : Nat.beq k xs.length <;> (simp only [next, q2, q3] at e; cases e)
  | some x0 =>
    refine ⟨fun e => ?_, fun u e => ?_⟩
    · simp only [next, q2] at e; cases e
    · simp only [next, q2] at e
      cases e
      obtain ⟨v, g1, g2⟩ := r2.nth q2
      refine ⟨⟨vs, v, s2, g1⟩, fun x H' y => ?_⟩
      obtain ⟨T, x1, e1, nT, e2, y⟩ := y
      have e3 := y vs s2
      rw [g1] at e3
      cases e3
      rw [e1, e2]
      exact pair_ok R2 (.int (SI.lit (k : Int))) g2 nT
theorem RI.zTL {ι : Nat → Addr} {n : Nat} {H : Hp} {xs : List U} {vs : List V} {ad : Addr} {j : Nat} (s : SqT W.K H ad vs) (r : RUs W ι n H xs vs) (mu : ∀ i, i < n → ∃ o, H (ι i) = some o ∧ Mut (some o)) (hj : j < n) : RI W ι n H (.zTL xs j) (ItzTL W.K ad (ι j)) := fun ι2 h2 H2 k X2 R2 => by
  have s2 := X2.tup mu s
  have r2 := r.mono X2 mu
  cases q : h2.lst j with
  | none =>
    refine ⟨fun e => ?_, fun u e => ?_⟩ <;> (simp only [next, q] at e; cases e)
  | some ys =>
    obtain ⟨_, ws, g, rl⟩ := R2.lst q
    rw [X2.same j hj] at g
    cases b1 : Nat.ble k xs.length with
    | false =>
      refine ⟨fun e => ?_, fun u e => ?_⟩ <;> (simp only [next, q, b1] at e; cases e)
    | true =>
      cases b2 : Nat.ble k ys.length with
      | false =>
        refine ⟨fun e => ?_, fun u e => ?_⟩ <;> (simp only [next, q, b1, b2] at e; cases e)
      | true =>
        have c1 := Nat.le_of_ble_eq_true b1
        have c2 := Nat.le_of_ble_eq_true b2
        have l1 := r2.len
        have l2 := rl.len
        cases q2 : nth xs k with
        | none =>
          refine ⟨fun e => ⟨vs, ws, s2, SqL.of g, by omega, by omega, .inl ?_⟩, fun u e => ?_⟩
          · have := nth_none r2 q2
            omega
          · simp only [next, q, b1, b2, q2] at e; cases e
        | some x0 =>
          cases q3 : nth ys k with
          | none =>
            refine ⟨fun e => ⟨vs, ws, s2, SqL.of g, by omega, by omega, .inr ?_⟩, fun u e => ?_⟩
            · have := nth_none rl q3
              omega
            · simp only [next, q, b1, b2, q2, q3] at e; cases e
          | some y0 =>
            refine ⟨fun e => ?_, fun u e => ?_⟩
            · simp only [next, q, b1, b2, q2, q3] at e; cases e
            · simp only [next, q, b1, b2, q2, q3] at e
              cases e
              obtain ⟨v, g1, g2⟩ := r2.nth q2
              obtain ⟨w, g3, g4⟩ := rl.nth q3
              refine ⟨⟨vs, ws, v, w, s2, SqL.of g, g1, g3⟩, fun x H' y => ?_⟩
              obtain ⟨T, x1, y1, e1, nT, e2, y, y'⟩ := y
              have e3 := y vs s2
              have e4 := y' ws (SqL.of g)
              rw [g1] at e3
              rw [g3] at e4
              cases e3
              cases e4
              rw [e1, e2]
              exact pair_ok R2 g2 g4 nT
variable {elts : List Expr} {kk : Nat} {tpos : Pos}
include ok in
theorem si_enum (hg : Gl X "enumerate") (hm : W.mg "enumerate" = none) (ha : PE X a (tE W fa)) (hs : noStar a = true) : PI X (.Tuple elts kk tpos) (.Call (.Name "enumerate" p) [a] [] pos) (tI W fun us h => match fa us h with
    | none => none
    | some (x, h1) => match x with
      | .tup xs => some (.enT xs, h1)
      | .ref r => match h1.lst r with
        | some _ => some (.enL r, h1)
        | none => none
      | _ => none) := ⟨fun pins s σ H Q I q => by
  obtain ⟨ι, us, h, σ0, R, S, J, h', e, k⟩ := q
  have hm' : X.mg "enumerate" = none := by rw [ok.mg]; exact hm
  have pa := pa_cons (X := X) ha pa_nil (star_of hs [] X.env)
  cases q1 : fa us h with
  | none => simp only [q1] at e; cases e
  | some p1 =>
    obtain ⟨x, h1⟩ := p1
    cases x with
    | tup xs =>
      simp only [q1] at e
      cases e
      refine (pi_enumT hg hm' pa (star_of hs [] X.env)).run pins s σ H Q I ⟨ι, us, h, σ0, R, S, _, h', q1, fun ι2 v H2 R2 X2 rv => ?_⟩
      rw [ok.K]
      cases rv with
      | tup s r => exact ⟨_, _, rfl, s, k ι2 _ H2 R2 X2 (RI.enT s r R2.mu)⟩
    | ref i =>
      cases q2 : h1.lst i with
      | none => simp only [q1, q2] at e; cases e
      | some xs =>
        simp only [q1, q2] at e
        cases e
        refine (pi_enum hg hm' pa (star_of hs [] X.env)).run pins s σ H Q I ⟨ι, us, h, σ0, R, S, _, h', q1, fun ι2 v H2 R2 X2 rv => ?_⟩
        obtain ⟨vs, rfl, g, r⟩ := rv.ref_lst R2 q2
        rw [ok.K]
        exact ⟨_, _, rfl, SqL.of g, k ι2 _ H2 R2 X2 (RI.enL (R2.lst q2).1)⟩
    | _ => simp only [q1] at e; cases e⟩
include ok in
theorem si_zip (hg : Gl X "zip") (hm : W.mg "zip" = none) (ha : PE X a (tE W fa)) (hb : PE X b (tE W fb)) (hs : noStar a = true) (hs2 : noStar b = true) : PI X (.Tuple elts kk tpos) (.Call (.Name "zip" p) [a, b] [] pos) (tI W fun us h => match fa us h with
    | some (.tup xs, h1) => match fb us h1 with
      | some (.ref j, h2) => match h2.lst j with
        | some _ => some (.zTL xs j, h2)
        | none => none
      | _ => none
    | _ => none) := by
  have hm' : X.mg "zip" = none := by rw [ok.mg]; exact hm
  refine PI.imp (pi_zipTL hg hm' (pa_cons ha (pa_cons hb pa_nil (star_of hs2 [] X.env)) (star_of hs [b] X.env)) (star_of hs [b] X.env) (by rw [star_of hs2]; rfl)) fun σ H Q ⟨ι, us, h, σ0, R, S, J, h', e, k⟩ => ?_
  cases q1 : fa us h with
  | none => simp only [q1] at e; cases e
  | some p1 =>
    obtain ⟨x, h1⟩ := p1
    cases x with
    | tup xs =>
      cases q2 : fb us h1 with
      | none => simp only [q1, q2] at e; cases e
      | some p2 =>
        obtain ⟨y, h2⟩ := p2
        cases y with
        | ref j =>
          cases q3 : h2.lst j with
          | none => simp only [q1, q2, q3] at e; cases e
          | some ys =>
            simp only [q1, q2, q3] at e
            cases e
            refine ⟨ι, us, h, σ0, R, S, _, h1, q1, fun ι2 v H2 R2 X2 r1 => ⟨ι2, us, h1, σ0, R2, S.mono X2 R.mu, _, h', q2, fun ι3 w H3 R3 X3 r2 => ?_⟩⟩
            have r1' := R2.ext X3 r1
            obtain ⟨ws, rfl, g, rl⟩ := r2.ref_lst R3 q3
            rw [ok.K]
            cases r1' with
            | tup s r => exact ⟨_, _, _, _, rfl, s, SqL.of g, k ι3 _ H3 R3 (X2.trans X3) (RI.zTL s r R3.mu (R3.lst q3).1)⟩
        | _ => simp only [q1, q2] at e; cases e
    | _ => simp only [q1] at e; cases e

/-! ### comprehensions -/
variable {tg it elt kx vx : Expr} {scope : Scope} {own : List (Str × Nat)} {mg : MG} {fi : Env → MH → Option (IT × MH)} {n dd : Nat}
/-- what one needs of a comprehension's parts, in its block -/
structure CompP (W : Wd) (Γ : Bd) (P : Pg) (X : Cx) (n dd : Nat) (tg it : Expr) (scope : Scope) (own : List (Str × Nat)) (mg : MG) (fi : Env → MH → Option (IT × MH)) : Prop where
  itp : PI X tg it (tI W fi)
  blk : blkC X.N X.env.scope scope own = true
  tgt : ∀ k, k < n → ∀ (s : Shared) (H : Hp) (C : Addr) (cl : List (Str × Addr)) (fp : List Addr), PG (X.blk s H scope (compEnvC scope cl C X.env) fp) tg (tG W (gnames mg) ((fns Γ P k).g dd mg))
  own : (gnames mg).all (fun j => (own.map (·.2)).elem j) = true
  set : noSet it = true
theorem CompP.names (C : CompP W Γ P X n dd tg it scope own mg fi) : ∀ j, j ∈ gnames mg → j ∈ own.map (·.2) := fun j hj => by
  have z := List.all_eq_true.mp C.own j hj
  exact List.elem_iff.mp z
include ok in
theorem se_lc {ifs : List Expr} {mt : Option ME} {me : ME} (C : CompP W Γ P X n dd tg it scope own mg fi)
    (ht : ∀ k, k < n → ∀ (s : Shared) (H : Hp) (C : Addr) (cl : List (Str × Addr)) (fp : List Addr), PTs (X.blk s H scope (compEnvC scope cl C X.env) fp) ifs (tT W (testO (fns Γ P k) dd mt)))
    (he : ∀ k, k < n → ∀ (s : Shared) (H : Hp) (C : Addr) (cl : List (Str × Addr)) (fp : List Addr), PE (X.blk s H scope (compEnvC scope cl C X.env) fp) elt (tE W ((fns Γ P k).e dd me))) :
    PE X (.ListComp elt [⟨tg, it, ifs, 0⟩] scope pos) (tE W (fLc (fun I i D us h => (fns Γ P n).l dd I i D mg mt me us h) (own.map (·.2)) fi)) :=
  PE.imp (pe_lc ok.calm ok.nd C.itp (blkOk_by C.blk) (fun s H Ca cl fp => pg_any fun k hk => C.tgt k hk s H Ca cl fp) (fun s H Ca cl fp => pts_any fun k hk => ht k hk s H Ca cl fp) (fun s H Ca cl fp => pe_any fun k hk => he k hk s H Ca cl fp) (set_of C.set X.env)) fun σ H Q q => lc_tr C.names q
include ok in
theorem se_dc {mk me : ME} (C : CompP W Γ P X n dd tg it scope own mg fi)
    (hk : ∀ k, k < n → ∀ (s : Shared) (H : Hp) (C : Addr) (cl : List (Str × Addr)) (fp : List Addr), PE (X.blk s H scope (compEnvC scope cl C X.env) fp) kx (tE W ((fns Γ P k).e dd mk)))
    (he : ∀ k, k < n → ∀ (s : Shared) (H : Hp) (C : Addr) (cl : List (Str × Addr)) (fp : List Addr), PE (X.blk s H scope (compEnvC scope cl C X.env) fp) vx (tE W ((fns Γ P k).e dd me))) :
    PE X (.DictComp kx vx [⟨tg, it, [], 0⟩] scope pos) (tE W (fDc (fun I i D us h => (fns Γ P n).d dd I i D mg mk me us h) (own.map (·.2)) fi)) :=
  PE.imp (pe_dc ok.calm ok.nd C.itp (blkOk_by C.blk) (fun s H Ca cl fp => pg_any fun k hk => C.tgt k hk s H Ca cl fp) (fun s H Ca cl fp => pts_nil) (fun s H Ca cl fp => pe_any fun k h => hk k h s H Ca cl fp) (fun s H Ca cl fp => pe_any fun k h => he k h s H Ca cl fp) (set_of C.set X.env)) fun σ H Q q => dc_tr C.names q
/-- name = {..} on one line, the name a local -/
theorem ps_setDc {i : Nat} {y : Str} {py spos : Pos} {ifs : List Expr} {wi : TI} {g : TG} {tt : TT} {tk tv : TE} (hc : X.calm = true) (hN : X.N.Nodup) (hy : X.N[i]? = some y) (hyl : X.env.scope.names.lookup y = some .local)
    (hsw : swapsWith (.DictComp kx vx [⟨tg, it, ifs, 0⟩] scope pos) (some (.Name y py)) spos.line X.env = pure true) (hi : PI X tg it wi) (bk : BlkOk X.N X.env.scope scope own)
    (hg : ∀ (sh : Shared) (H : Hp) (C : Addr) (cl : List (Str × Addr)) (fp : List Addr), PG (X.blk sh H scope (compEnvC scope cl C X.env) fp) tg g) (ht : ∀ (sh : Shared) (H : Hp) (C : Addr) (cl : List (Str × Addr)) (fp : List Addr), PTs (X.blk sh H scope (compEnvC scope cl C X.env) fp) ifs tt)
    (hk : ∀ (sh : Shared) (H : Hp) (C : Addr) (cl : List (Str × Addr)) (fp : List Addr), PE (X.blk sh H scope (compEnvC scope cl C X.env) fp) kx tk)
    (he : ∀ (s : Shared) (H : Hp) (C : Addr) (cl : List (Str × Addr)) (fp : List Addr), PE (X.blk s H scope (compEnvC scope cl C X.env) fp) vx tv) (hs : ∀ x, foldedSetIterable it X.env x = pure x) :
    PS X (.Assign [.Name y py] (.DictComp kx vx [⟨tg, it, ifs, 0⟩] scope pos) spos) (tAsg (tDc wi g tt tk tv (own.map (·.2))) (gName i)) := ⟨fun pins s σ H D I q => by
  rw [exec_Assign_Name_used y py _ spos hsw]
  refine wpAny_bind ?_
  refine wpAny_standAt (wpAny_bind ?_)
  show wpAny _ X.A (do let _ ← comprehension (.DictComp kx vx [⟨tg, it, ifs, 0⟩] scope pos) scope X.env (firstIterPos [⟨tg, it, ifs, 0⟩] pos) newDict false (eval it X.env) (some (assign (.Name y py) X.env))) _ _ s
  have q0 : tDc wi g tt tk tv (own.map (·.2)) σ H (fun x H1 => gName i x σ H1 D.nx) := q
  refine wpAny_bind (thn (dc_core (Qf := fun _ s' => SP X pins D .next s') hc hN I hi bk hg ht hk he hs q0 fun L C s' m H' I' qq hn ff => ?_) fun _ s' hq => wpAny_pure (wpAny_pure hq))
  show wpAny _ _ (assign (Expr.Name y py) X.env (Value.ref L)) _ _ _
  refine wpAny_assign_Name (store_ok2 (v := V.ref L) I' hN hy (.inl hyl) rfl (fun s2 I2 ⟨ad, sb, had⟩ => ?_) (.inr hyl))
  have ne : C ≠ ad := by
    rcases had with z | z
    · rw [z]; exact ff.2.1
    · exact fun e => ff.2.2.2.2.1 y ad z e.symm
  exact ⟨m, hn.sameBut sb ne, fun h3 sb3 => ⟨_, H', I2.turned (t' := s2.toks) (fun b o hb e => (sb3.2 b hb).trans e) ff.1 ff.2.1 ff.2.2.2.1 ff.2.2.2.2.1 ff.2.2.2.2.2, qq⟩⟩⟩
theorem sw_trueD {gs : List Comprehension} {py : Pos} {y : Str} {l : Nat} {env : PySem.Env} (hk : env.scope.kind = .function) (hy : env.scope.names.lookup y = some .local) (hl : (py.line == pos.line) = true)
    (ha : (scope.names.any fun (n, k) => n == y && (k == .local || k == .cell)) = false) : swapsWith (.DictComp kx vx gs scope pos) (some (.Name y py)) l env = pure true := by
  have hb : env.blockKind = .function := by
    unfold PySem.Env.blockKind
    rw [hk]
    rfl
  have loc : env.kindOf y = some .local := hy
  unfold swapsWith
  simp only [ha, hb, hl, loc, Expr.pos]
  rfl
/-- the conditions of an assignment of a comprehension to a name, as a Bool -/
def asgC (N : List Str) (sc scope : Scope) (i : Nat) (y : Str) (py pos : Pos) : Bool :=
  decide (N[i]? = some y) && (decide (sc.names.lookup y = some .local) && ((match sc.kind with | .function => true | _ => false) && ((py.line == pos.line) && !(scope.names.any fun (n, k) => n == y && (k == .local || k == .cell)))))
theorem asgC_ok {Ns : List Str} {sc : Scope} {i : Nat} {y : Str} {py : Pos} (h : asgC Ns sc scope i y py pos = true) :
    Ns[i]? = some y ∧ sc.names.lookup y = some .local ∧ sc.kind = .function ∧ (py.line == pos.line) = true ∧ (scope.names.any fun (n, k) => n == y && (k == .local || k == .cell)) = false := by
  unfold asgC at h
  obtain ⟨h1, h⟩ := and2 h
  obtain ⟨h2, h⟩ := and2 h
  obtain ⟨h3, h⟩ := and2 h
  obtain ⟨h4, h5⟩ := and2 h
  refine ⟨of_decide_eq_true h1, of_decide_eq_true h2, ?_, h4, ?_⟩
  · split at h3
    · assumption
    · cases h3
  · cases q : (scope.names.any fun (n, k) => n == y && (k == .local || k == .cell)) with
    | false => rfl
    | true => rw [q] at h5; cases h5
theorem set_tr {f : Env → MH → Option (U × MH)} {i : Nat} {D : Ends} {σ : L2.St} {H : Hp} (q : tS W (fun us h => match f us h with
    | none => none
    | some (x, h1) => some (.nx, setV us i x, h1)) D σ H) : tE W f σ H fun x H1 => gName i x σ H1 D.nx := by
  obtain ⟨ι, us, h, σ0, R, S, r, us', h', e, k⟩ := q
  cases q : f us h with
  | none => simp only [q] at e; cases e
  | some pr =>
    obtain ⟨x, h1⟩ := pr
    simp only [q] at e
    cases e
    exact ⟨ι, us, h, σ0, R, S, x, h', q, fun ι2 v H2 R2 X2 rv => k ι2 _ H2 R2 X2 ((S.mono X2 R.mu).set rv)⟩
include ok in
theorem ss_setLc {i : Nat} {y : Str} {py spos : Pos} {ifs : List Expr} {mt : Option ME} {me : ME} (ha : asgC X.N X.env.scope scope i y py pos = true) (C : CompP W Γ P X n dd tg it scope own mg fi)
    (ht : ∀ k, k < n → ∀ (s : Shared) (H : Hp) (C : Addr) (cl : List (Str × Addr)) (fp : List Addr), PTs (X.blk s H scope (compEnvC scope cl C X.env) fp) ifs (tT W (testO (fns Γ P k) dd mt)))
    (he : ∀ k, k < n → ∀ (s : Shared) (H : Hp) (C : Addr) (cl : List (Str × Addr)) (fp : List Addr), PE (X.blk s H scope (compEnvC scope cl C X.env) fp) elt (tE W ((fns Γ P k).e dd me))) :
    PS X (.Assign [.Name y py] (.ListComp elt [⟨tg, it, ifs, 0⟩] scope pos) spos) (tS W fun us h => match fLc (fun I i D us h => (fns Γ P n).l dd I i D mg mt me us h) (own.map (·.2)) fi us h with
    | none => none
    | some (x, h1) => some (.nx, setV us i x, h1)) := by
  obtain ⟨h1, h2, h3, h4, h5⟩ := asgC_ok ha
  exact PS.imp (ps_setLc ok.calm ok.nd h1 h2 (sw_true h3 h2 h4 h5) C.itp (blkOk_by C.blk) (fun s H Ca cl fp => pg_any fun k hk => C.tgt k hk s H Ca cl fp) (fun s H Ca cl fp => pts_any fun k hk => ht k hk s H Ca cl fp) (fun s H Ca cl fp => pe_any fun k hk => he k hk s H Ca cl fp) (set_of C.set X.env)) fun D σ H q => lc_tr C.names (set_tr q)
include ok in
theorem ss_setDc {i : Nat} {y : Str} {py spos : Pos} {mk me : ME} (ha : asgC X.N X.env.scope scope i y py pos = true) (C : CompP W Γ P X n dd tg it scope own mg fi)
    (hk : ∀ k, k < n → ∀ (s : Shared) (H : Hp) (C : Addr) (cl : List (Str × Addr)) (fp : List Addr), PE (X.blk s H scope (compEnvC scope cl C X.env) fp) kx (tE W ((fns Γ P k).e dd mk)))
    (he : ∀ k, k < n → ∀ (s : Shared) (H : Hp) (C : Addr) (cl : List (Str × Addr)) (fp : List Addr), PE (X.blk s H scope (compEnvC scope cl C X.env) fp) vx (tE W ((fns Γ P k).e dd me))) :
    PS X (.Assign [.Name y py] (.DictComp kx vx [⟨tg, it, [], 0⟩] scope pos) spos) (tS W fun us h => match fDc (fun I i D us h => (fns Γ P n).d dd I i D mg mk me us h) (own.map (·.2)) fi us h with
    | none => none
    | some (x, h1) => some (.nx, setV us i x, h1)) := by
  obtain ⟨h1, h2, h3, h4, h5⟩ := asgC_ok ha
  exact PS.imp (ps_setDc ok.calm ok.nd h1 h2 (sw_trueD h3 h2 h4 h5) C.itp (blkOk_by C.blk) (fun s H Ca cl fp => pg_any fun k hk => C.tgt k hk s H Ca cl fp) (fun s H Ca cl fp => pts_nil) (fun s H Ca cl fp => pe_any fun k h => hk k h s H Ca cl fp) (fun s H Ca cl fp => pe_any fun k h => he k h s H Ca cl fp) (set_of C.set X.env)) fun D σ H q => dc_tr C.names (set_tr q)

/-! ### a written table of whole numbers, asked with get -/
def gdE : List DictEntry → List (Int × Int) → Bool
  | [], [] => true
  | e :: es, p :: ps => (match e.key with | .int i _ => decide (i = p.1) | _ => false) && ((decide (e.hash = hashInt p.1)) && ((match e.val with | .int i _ => decide (i = p.2) | _ => false) && gdE es ps))
  | _, _ => false
def gdB (K : PySem.W.Frag) (ad : Addr) (ps : List (Int × Int)) : Bool := match K.lookup ad with
  | some ⟨.type c, none, .dict es _, sl⟩ => decide (c = "dict") && (decide (sl.size = 0) && ((!(ad == sysModules)) && gdE es.toList ps))
  | _ => false
def findI (k : Int) : List (Int × Int) → Option Int
  | [] => none
  | p :: r => if p.1 = k then some p.2 else findI k r
theorem gdE_keys : ∀ {es : List DictEntry} {ps : List (Int × Int)}, gdE es ps = true → ∀ e ∈ es, ∃ k : Int, Value.isInt k e.key = true ∧ e.hash = hashInt k
  | e :: es, p :: ps, h, e', hm => by
    unfold gdE at h
    obtain ⟨h1, h⟩ := and2 h
    obtain ⟨h2, h⟩ := and2 h
    obtain ⟨h3, h4⟩ := and2 h
    rcases List.mem_cons.1 hm with rfl | hm
    · refine ⟨p.1, ?_, of_decide_eq_true h2⟩
      cases q : e'.key with
      | int i t =>
        rw [q] at h1
        have := of_decide_eq_true h1
        subst this
        simp [Value.isInt]
      | _ => rw [q] at h1; cases h1
    · exact gdE_keys h4 e' hm
theorem gdE_find (k : Int) : ∀ {es : List DictEntry} {ps : List (Int × Int)}, gdE es ps = true → (es.find? fun e => Value.isInt k e.key).map (·.val) = none ∧ findI k ps = none ∨ ∃ i t, (es.find? fun e => Value.isInt k e.key).map (·.val) = some (.int i t) ∧ findI k ps = some i
  | [], [], _ => .inl ⟨rfl, rfl⟩
  | [], _ :: _, h => nomatch h
  | _ :: _, [], h => nomatch h
  | e :: es, p :: ps, h => by
    unfold gdE at h
    obtain ⟨h1, h⟩ := and2 h
    obtain ⟨h2, h⟩ := and2 h
    obtain ⟨h3, h4⟩ := and2 h
    cases q : e.key with
    | int i t =>
      rw [q] at h1
      have h1 := of_decide_eq_true h1
      subst h1
      cases q2 : e.val with
      | int j u =>
        rw [q2] at h3
        have h3 := of_decide_eq_true h3
        by_cases hk : p.1 = k
        · refine .inr ⟨p.2, u, ?_, by unfold findI; rw [if_pos hk]⟩
          rw [List.find?_cons_of_pos (by rw [q]; subst hk; simp [Value.isInt])]
          rw [Option.map_some, q2, h3]
        · rw [List.find?_cons_of_neg (by rw [q]; simp [Value.isInt]; exact hk)]
          unfold findI
          rw [if_neg hk]
          exact gdE_find k h4
      | _ => rw [q2] at h3; cases h3
    | _ => rw [q] at h1; cases h1
theorem gdB_map {K : PySem.W.Frag} {ad : Addr} {ps : List (Int × Int)} (h : gdB K ad ps = true) {prog : Program} {w : World} {hp : Heap} (X : K.In hp) :
    (ad == sysModules) = false ∧ ∃ f, hp.MapOf (PySem.intKind prog w) ad f ∧ ∀ k, (f k = none ∧ findI k ps = none) ∨ ∃ i t, f k = some (.int i t) ∧ findI k ps = some i := by
  unfold gdB at h
  cases q : K.lookup ad with
  | none => rw [q] at h; cases h
  | some o =>
    obtain ⟨oc, od, dt, sl⟩ := o
    rw [q] at h
    cases oc with
    | type c => cases od with
      | none => cases dt with
        | dict es n =>
          obtain ⟨h1, h⟩ := Bool.and_eq_true_iff.mp (show (decide (c = "dict") && (decide (sl.size = 0) && ((!(ad == sysModules)) && gdE es.toList ps))) = true from h)
          obtain ⟨h2, h⟩ := and2 h
          obtain ⟨h3, h4⟩ := and2 h
          have c1 := of_decide_eq_true h1
          have c2 : sl = #[] := Array.eq_empty_of_size_eq_zero (of_decide_eq_true h2)
          subst c1 c2
          refine ⟨by simpa using h3, fun k => findBy Value.isInt es k, ⟨_, es, n, X _ _ q, ⟨rfl, rfl, rfl⟩, rfl, fun e he => gdE_keys h4 e (Array.mem_toList_iff.mpr he), fun _ => rfl⟩, fun k => ?_⟩
          have z := gdE_find k h4
          obtain ⟨l⟩ := es
          have e : findBy Value.isInt ⟨l⟩ k = (l.find? fun e => Value.isInt k e.key).map (·.val) := by
            unfold findBy
            rw [List.find?_toArray]
          show (findBy Value.isInt ⟨l⟩ k = none ∧ _) ∨ ∃ i t, findBy Value.isInt ⟨l⟩ k = some (.int i t) ∧ _
          rw [e]
          exact z
        | _ => cases h
      | some _ => cases dt <;> cases h
    | _ => cases dt <;> cases od <;> cases h
end
end Se
set_option Elab.async false
set_option linter.all false
set_option maxRecDepth 100000
/-! Se over the hand layer: calls. -/
namespace Se
open PySem PySem.Spec
open PyProof.Rows L2

theorem meth_ht {o : Expr} {m : Str} {apos pos : Pos} {args : List Expr} {env : PySem.Env} (hp : plainObj o = true) (hs : args.all noStar = true) (hn : decide (args.length < 30) = true) (hl : (apos.endLine == pos.line) = true) :
    ∃ pl : Sem Bool, eval (.Call (.Attribute o m apos) args [] pos) env = (do
      let ov ← eval o env
      standAt apos.atName
      let (callee, first) ← holding [ov] (getMethod ov m pl)
      callWith pos callee first (backTo pos (starEach args env)) (backToKw pos (keywordEach [] env))) := by
  have form : methodCallForm (args.length + ([] : List Keyword).length) (backTo pos (starEach args env)) (backToKw pos (keywordEach [] env)) = true := by
    unfold methodCallForm
    rw [back_of hs]
    simp only [List.all_map, Function.comp_def]
    have e : (backToKw pos (keywordEach [] env)) = [] := rfl
    rw [e]
    have l : args.length < 30 := of_decide_eq_true hn
    simp [l]
  have hpos : methodCallPos true o env apos pos = pure pos := by
    unfold methodCallPos
    simp [hl]
  refine ⟨(do return (← importBound o env).getD true), ?_⟩
  rw [arm_eval_Call, attr_of' hp]
  unfold methodCall calleeOf
  rw [form, hpos]
  simp only [if_true, pure_bind]

/-- a def's promise: what the small evaluator says of it -/
def spC (W : Wd) (c : List U → MH → Option (U × MH)) : Sp := fun vs H Q _ => ∃ ι xs h, Rep W ι h H ∧ RUs W ι h.n H xs vs ∧ ∃ u h', c xs h = some (u, h') ∧ Fin W ι h H h' u Q
/-- where the defs stand, and how they are named -/
structure Tb where
  FA : Nat → Addr
  FT : Nat → FuncData
  PS : Nat → List Str
  KW : Nat → List Str
  df : Nat → Str
  isF : Nat → Bool
  cl : Nat → Str
  gl : Nat → Str
  gd : Nat → Str
/-- how a def's parameters are bound -/
structure DefB (W : Wd) (T : Tb) (j : Nat) (fd : FD) : Prop where
  len : (T.PS j).length = fd.np
  kwl : (T.KW j).length = fd.nk
  all : ∃ dvs ds, (∀ ι n H, RUs W ι n H fd.dk dvs) ∧ Vals dvs ds ∧ Binds W.K (T.FT j) (T.PS j) ds
  kbn : fd.nk = 0 ∨ KBn W.K (T.FT j) (T.PS j) (fd.np - fd.nk) (T.KW j) (fun us ws => us ++ ws) (fun vs zs => vs ++ zs)
structure PgOk (W : Wd) (P : Pg) (T : Tb) : Prop where
  nm : NmOk W P
  glo : ∀ g u, P.glo g = some u → ∃ v val, W.mg (T.gl g) = some val ∧ RelV v val ∧ ∀ ι n H, RU W ι n H u v
  gdic : ∀ g kvs, P.gdic g = some kvs → ∃ ad ps, W.mg (T.gd g) = some (.ref ad) ∧ gdB W.K ad ps = true ∧ kvs = ps.map fun p => (p.1, .int (.lit p.2))
  df : ∀ j fd, P.defs j = some fd → DefB W T j fd
  fn : ∀ j fd, P.defs j = some fd → T.isF j = true → W.mg (T.df j) = some (.ref (T.FA j)) ∧ PySem.W.keepIn W.K (.ref (T.FA j)) = true
  cls : ∀ c j, P.init c = some j → W.mg (T.cl c) = some (.ref (W.C c)) ∧ Cls W.K (W.C c) ∧ Mk W.K (W.C c) (T.FA j)
  meth : ∀ c m j, P.meth c m = some j → Cls W.K (W.C c) ∧ Meth W.K (W.C c) (W.nm m) (T.FA j)
section
variable {W : Wd} {P : Pg} {T : Tb} (O : PgOk W P T) {X : Cx} {d : Nat} {Γ : Bd} (ok : XOk W d X) {a b c : Expr} {pos p : Pos} {fa fb fc : Env → MH → Option (U × MH)}
theorem argsOf_len {fd : FD} {xs zs as : List U} (e : argsOf fd xs zs = some as) : (zs = [] ∧ as = xs ++ fd.dk) ∨ (zs ≠ [] ∧ zs.length = fd.nk ∧ as = xs ++ zs ∧ xs.length + fd.nk = fd.np) := by
  unfold argsOf at e
  cases q : Nat.beq (xs.length + fd.nk) fd.np with
  | false => simp only [q] at e; cases e
  | true =>
    cases zs with
    | nil => simp only [q] at e; cases e; exact .inl ⟨rfl, rfl⟩
    | cons z r =>
      cases q2 : Nat.beq (z :: r).length fd.nk with
      | false => simp only [q, q2] at e; cases e
      | true =>
        simp only [q, q2] at e
        cases e
        exact .inr ⟨(fun z => nomatch z), Nat.eq_of_beq_eq_true q2, rfl, Nat.eq_of_beq_eq_true q⟩
def fCall (P : Pg) (c : List U → MH → Option (U × MH)) (j : Nat) (fs fk : Env → MH → Option (List U × MH)) : Env → MH → Option (U × MH) := fun us h => match fs us h with
  | none => none
  | some (xs, h1) => match fk us h1 with
    | none => none
    | some (zs, h2) => match P.defs j with
      | none => none
      | some fd => match argsOf fd xs zs with
        | none => none
        | some as => c as h2
theorem fCall_some {cc : List U → MH → Option (U × MH)} {j : Nat} {fs fk : Env → MH → Option (List U × MH)} {us : Env} {h : MH} {o : U × MH} (e : fCall P cc j fs fk us h = some o) :
    ∃ xs h1 zs h2 fd as, fs us h = some (xs, h1) ∧ fk us h1 = some (zs, h2) ∧ P.defs j = some fd ∧ argsOf fd xs zs = some as ∧ cc as h2 = some o := by
  unfold fCall at e
  cases q1 : fs us h with
  | none => simp only [q1] at e; cases e
  | some p1 =>
    obtain ⟨xs, h1⟩ := p1
    cases q2 : fk us h1 with
    | none => simp only [q1, q2] at e; cases e
    | some p2 =>
      obtain ⟨zs, h2⟩ := p2
      cases q3 : P.defs j with
      | none => simp only [q1, q2, q3] at e; cases e
      | some fd =>
        cases q4 : argsOf fd xs zs with
        | none => simp only [q1, q2, q3, q4] at e; cases e
        | some as =>
          simp only [q1, q2, q3, q4] at e
          exact ⟨xs, h1, zs, h2, fd, as, rfl, q2, rfl, q4, e⟩
include ok in
theorem to_X {k : Nat} {f : Addr} {fd : FuncData} {ps : List Str} {sp : Sp} (F : FnOk W.prog W.w W.K W.mg W.base CX0 k f fd ps sp) : FnOk X.prog X.w X.K X.mg X.base CX0 k f fd ps sp := by
  rw [ok.prog, ok.w, ok.K, ok.mg, ok.base]
  exact F
variable {f : ME → Env → MH → Option (U × MH)} {ms ks : List ME} {es : List Expr} {kws : List Keyword}
theorem tA_nil {σ : L2.St} {H : Hp} {Q : List V → Hp → Prop} (q : tA W (evL f []) σ H Q) : tNil σ H Q := by
  obtain ⟨ι, us, h, σ0, R, S, u, h', e, k⟩ := q
  cases e
  exact k ι [] H R Ext.refl .nil
theorem stars_split {e : Expr} {es : List Expr} (h : (e :: es).all noStar = true) : noStar e = true ∧ es.all noStar = true := by
  rw [List.all_cons] at h
  exact and2 h
include O ok in
/-- f(e, ..) -/
theorem se_call {j : Nat} {cc : List U → MH → Option (U × MH)} (F : FnOk W.prog W.w W.K W.mg W.base CX0 d (T.FA j) (T.FT j) (T.PS j) (spC W cc)) (hF : T.isF j = true) (hg : Gl X (T.df j)) (hdb : (T.df j == ("__debug__" : Str)) = false)
    (ha : ArgL W X f ms es) : PE X (.Call (.Name (T.df j) p) es [] pos) (tE W (fCall P cc j (evL f ms) fun us h => some ([], h))) := ⟨fun pins s σ H Q I q => by
  obtain ⟨ι, us, h, σ0, R, S, u, h', e, k⟩ := q
  obtain ⟨xs, h1, zs, h2, fd, as, e1, e2, e3, e4, e5⟩ := fCall_some e
  cases e2
  obtain ⟨hm, kp⟩ := O.fn j fd e3 hF
  obtain ⟨dvs, ds, rd, vd, hb⟩ := (O.df j fd e3).all
  have hm' : X.mg (T.df j) = some (.ref (T.FA j)) := by rw [ok.mg]; exact hm
  have kp' : PySem.W.keepIn X.K (.ref (T.FA j)) = true := by rw [ok.K]; exact kp
  have hb' : Binds X.K (T.FT j) (T.PS j) ds := by rw [ok.K]; exact hb
  have pe : PE X (.Call (.Name (T.df j) p) es [] pos) (tCall (spC W cc) dvs E0 (tA W (evL f ms))) := by
    cases ha with
    | nil => exact PE.imp (pe_call0 (to_X ok F) ok.room hg hm' kp' hb' vd pass0 hdb) fun σ H Q q => tA_nil q
    | cons he s0 r => exact pe_call (to_X ok F) ok.room hg hm' kp' hb' vd pass0 (sa_of (.cons he s0 r)) hdb (star_of s0 _ X.env) (backAny_of r.stars X.env pos)
  refine pe.run pins s σ H Q I ⟨ι, us, h, σ0, R, S, xs, h1, e1, fun ι2 vs H2 R2 X2 rs => ?_⟩
  rcases argsOf_len e4 with ⟨_, rfl⟩ | ⟨z, _⟩
  · exact ⟨ι2, _, h1, R2, rs.append (rd _ _ _), u, h', e5, k.of X2⟩
  · exact absurd rfl z⟩
/-! keywords -/
inductive KwL (W : Wd) (X : Cx) (f : ME → Env → MH → Option (U × MH)) : List ME → List Keyword → Prop
  | nil : KwL W X f [] []
  | cons {m : ME} {nm : Str} {e : Expr} {q : Pos} {ms : List ME} {es : List Keyword} (h : PE X e (tE W (f m))) (r : KwL W X f ms es) : KwL W X f (m :: ms) (⟨some nm, e, q⟩ :: es)
theorem kw_of (h : KwL W X f ms kws) : PK X kws (tA W (evL f ms)) := by
  induction h with
  | nil => exact ⟨fun pos pins s σ H Q I q => pk_nil.run pos pins s σ H Q I (tA_nil q)⟩
  | @cons m nm e q ms es h r ih =>
    refine ⟨fun pos pins s σ H Q I q => (pk_cons h ih).run pos pins s σ H Q I ?_⟩
    obtain ⟨ι, us, h, σ0, R, S, u, h', e, k⟩ := q
    simp only [evL] at e
    cases q1 : f m us h with
    | none => simp only [q1] at e; cases e
    | some p1 =>
      obtain ⟨x, h1⟩ := p1
      cases q2 : evL f ms us h1 with
      | none => simp only [q1, q2] at e; cases e
      | some p2 =>
        obtain ⟨xs, h2⟩ := p2
        simp only [q1, q2] at e
        cases e
        exact ⟨ι, us, h, σ0, R, S, x, h1, q1, fun ι2 v H2 R2 X2 rv => ⟨ι2, us, h1, σ0, R2, S.mono X2 R.mu, xs, h', q2, fun ι3 vs H3 R3 X3 rs => k ι3 _ H3 R3 (X2.trans X3) (.cons (R2.ext X3 rv) rs)⟩⟩
def kwNames : List Keyword → List (Option Str)
  | [] => []
  | k :: r => k.arg :: kwNames r
theorem kw_names {ns : List Str} (h : KwL W X f ms kws) (hn : kwNames kws = ns.map some) (env : PySem.Env) (pos : Pos) :
    (backToKw pos (keywordEach kws env)).all (·.1.isSome) = true ∧ (backToKw pos (keywordEach kws env)).filterMap (·.1) = ns ∧ (backToKw pos (keywordEach kws env)).any (·.1.isNone) = false := by
  induction h generalizing ns with
  | nil =>
    cases ns with
    | nil => exact ⟨rfl, rfl, rfl⟩
    | cons _ _ => cases hn
  | @cons m nm e q ms es h r ih =>
    cases ns with
    | nil => cases hn
    | cons n ns =>
      simp only [kwNames, List.map_cons, List.cons.injEq] at hn
      obtain ⟨h1, h2, h3⟩ := ih hn.2
      cases hn.1
      refine ⟨?_, ?_, ?_⟩
      · show ((some nm).isSome && (backToKw pos (keywordEach es env)).all (·.1.isSome)) = true
        rw [h1]
        rfl
      · show nm :: (backToKw pos (keywordEach es env)).filterMap (·.1) = nm :: ns
        rw [h2]
      · show ((some nm).isNone || (backToKw pos (keywordEach es env)).any (·.1.isNone)) = false
        rw [h3]
        rfl
theorem stars_len : ∀ {ms : List ME} {us : Env} {h h' : MH} {xs : List U}, evL f ms us h = some (xs, h') → xs.length = ms.length
  | [], _, _, _, _, e => by cases e; rfl
  | m :: r, us, h, h', xs, e => by
    simp only [evL] at e
    cases q1 : f m us h with
    | none => simp only [q1] at e; cases e
    | some p1 =>
      obtain ⟨x, h1⟩ := p1
      cases q2 : evL f r us h1 with
      | none => simp only [q1, q2] at e; cases e
      | some p2 =>
        obtain ⟨ys, h2⟩ := p2
        simp only [q1, q2] at e
        cases e
        exact congrArg Nat.succ (stars_len q2)
include O ok in
/-- f(e, .., k = v, ..): all keyword-only ones given -/
theorem se_callK {j : Nat} {cc : List U → MH → Option (U × MH)} (F : FnOk W.prog W.w W.K W.mg W.base CX0 d (T.FA j) (T.FT j) (T.PS j) (spC W cc)) (hF : T.isF j = true) (hg : Gl X (T.df j)) (hdb : (T.df j == ("__debug__" : Str)) = false)
    (ha : ArgL W X f ms es) (hne : es ≠ []) (hk : KwL W X f ks kws) (hkn : kws ≠ []) (hn : kwNames kws = (T.KW j).map some) : PE X (.Call (.Name (T.df j) p) es kws pos) (tE W (fCall P cc j (evL f ms) (evL f ks))) := ⟨fun pins s σ H Q I q => by
  obtain ⟨ι, us, h, σ0, R, S, u, h', e, k⟩ := q
  obtain ⟨xs, h1, zs, h2, fd, as, e1, e2, e3, e4, e5⟩ := fCall_some e
  obtain ⟨hm, kp⟩ := O.fn j fd e3 hF
  have DB := O.df j fd e3
  have hm' : X.mg (T.df j) = some (.ref (T.FA j)) := by rw [ok.mg]; exact hm
  have kp' : PySem.W.keepIn X.K (.ref (T.FA j)) = true := by rw [ok.K]; exact kp
  obtain ⟨n1, n2, n3⟩ := kw_names hk hn X.env pos
  have zne : zs ≠ [] := fun z => by
    subst z
    have l := stars_len e2
    cases hk with
    | nil => exact hkn rfl
    | cons _ _ => cases l
  rcases argsOf_len e4 with ⟨z, _⟩ | ⟨_, z1, z2, z3⟩
  · exact absurd z zne
  have kb : KBn X.K (T.FT j) (T.PS j) (fd.np - fd.nk) (T.KW j) (fun us ws => us ++ ws) (fun vs zs => vs ++ zs) := by
    rw [ok.K]
    rcases DB.kbn with z | z
    · rw [z] at z1
      exact absurd (List.eq_nil_of_length_eq_zero z1) zne
    · exact z
  cases ha with
  | nil => exact absurd rfl hne
  | @cons m0 e0 ms0 es0 he s0 r =>
    have pe := pe_callN (p := p) (pos := pos) (to_X ok F) ok.room hg hm' kp' kb pass0 (sa_of (.cons he s0 r)) (kw_of hk) n1 n2 hdb (star_of s0 _ X.env)
      (by rw [backAny_of (ArgL.stars (.cons he s0 r)) X.env pos, n3]; rfl)
    refine pe.run pins s σ H Q I ⟨ι, us, h, σ0, R, S, xs, h1, e1, fun ι2 vs H2 R2 X2 rs => ⟨ι2, us, h1, σ0, R2, S.mono X2 R.mu, zs, h2, e2, fun ι3 ws H3 R3 X3 rz => ?_⟩⟩
    refine ⟨by rw [← rs.len]; omega, by rw [← rz.len, DB.kwl]; exact z1, ι3, as, h2, R3, ?_, u, h', e5, k.of (X2.trans X3)⟩
    rw [z2]
    exact (R2.exts X3 rs).append rz⟩
def fMake (P : Pg) (c : Nat) (cc : Nat → List U → MH → Option (U × MH)) (fs fk : Env → MH → Option (List U × MH)) : Env → MH → Option (U × MH) := fun us h => match fs us h with
  | none => none
  | some (xs, h1) => match fk us h1 with
    | none => none
    | some (zs, h2) => match P.init c with
      | none => none
      | some j => match P.defs j with
        | none => none
        | some fd => match argsOf fd (.ref h2.n :: xs) zs with
          | none => none
          | some as => match cc j as (h2.new (.ins c [])) with
            | some (.non, h3) => some (.ref h2.n, h3)
            | _ => none
theorem fMake_some {c : Nat} {cc : Nat → List U → MH → Option (U × MH)} {fs fk : Env → MH → Option (List U × MH)} {us : Env} {h : MH} {o : U × MH} (e : fMake P c cc fs fk us h = some o) :
    ∃ xs h1 zs h2 j fd as h3, fs us h = some (xs, h1) ∧ fk us h1 = some (zs, h2) ∧ P.init c = some j ∧ P.defs j = some fd ∧ argsOf fd (.ref h2.n :: xs) zs = some as ∧ cc j as (h2.new (.ins c [])) = some (.non, h3) ∧ o = (.ref h2.n, h3) := by
  unfold fMake at e
  cases q1 : fs us h with
  | none => simp only [q1] at e; cases e
  | some p1 =>
    obtain ⟨xs, h1⟩ := p1
    cases q2 : fk us h1 with
    | none => simp only [q1, q2] at e; cases e
    | some p2 =>
      obtain ⟨zs, h2⟩ := p2
      cases q0 : P.init c with
      | none => simp only [q1, q2, q0] at e; cases e
      | some j =>
        cases q3 : P.defs j with
        | none => simp only [q1, q2, q0, q3] at e; cases e
        | some fd =>
          cases q4 : argsOf fd (.ref h2.n :: xs) zs with
          | none => simp only [q1, q2, q0, q3, q4] at e; cases e
          | some as =>
            cases q5 : cc j as (h2.new (.ins c [])) with
            | none => simp only [q1, q2, q0, q3, q4, q5] at e; cases e
            | some p5 =>
              obtain ⟨v, h3⟩ := p5
              cases v with
              | non =>
                simp only [q1, q2, q0, q3, q4, q5] at e
                cases e
                exact ⟨xs, h1, zs, h2, j, fd, as, h3, rfl, q2, rfl, q3, q4, q5, rfl⟩
              | _ => simp only [q1, q2, q0, q3, q4, q5] at e; cases e
theorem make_at {ι : Nat → Addr} {h h3 : MH} {H : Hp} (R : Rep W ι h H) {c : Nat} (hc : Cls W.K (W.C c)) {xs bs : List U} {vs ws : List V} {Q : VK} (k : Fin W ι h H h3 (.ref h.n) Q) {cc : List U → MH → Option (U × MH)} (e : cc ((.ref h.n :: xs) ++ bs) (h.new (.ins c [])) = some (.non, h3))
    (rs : RUs W ι h.n H xs vs) (rb : ∀ ι n H, RUs W ι n H bs ws) {x dx : Addr} (nx : H x = none) (ndx : H dx = none) (ne : dx ≠ x) :
    spC W cc (.ref x :: (vs ++ ws)) (L2.upd (L2.upd H dx (.own x)) x (.ins (W.C c) dx [])) (fun v H2 => v = .non ∧ Q (.ref x) H2) E0 := by
  obtain ⟨R1, X1⟩ := R.tup ndx (u := .own x)
  have nx1 : (L2.upd H dx (.own x)) x = none := by rw [upd_ne (Ne.symm ne)]; exact nx
  obtain ⟨R2, X2⟩ := R1.new nx1 (o := .ins c []) (u := .ins (W.C c) dx []) (.ins hc .nil)
  have r0 : RU W (put1 ι h.n x) (h.new (.ins c [])).n (L2.upd (L2.upd H dx (.own x)) x (.ins (W.C c) dx [])) (.ref h.n) (.ref x) := by
    have z : RU W (put1 ι h.n x) (h.new (.ins c [])).n (L2.upd (L2.upd H dx (.own x)) x (.ins (W.C c) dx [])) (.ref h.n) (.ref (put1 ι h.n x h.n)) := .ref (Nat.lt_succ_self _)
    rw [put1_same] at z
    exact z
  refine ⟨_, _, _, R2, .cons r0 ((R.exts (X1.trans X2) rs).append (rb _ _ _)), .non, h3, e, fun ι' v H' R' X' rv => ⟨by cases rv; rfl, ?_⟩⟩
  have q := k ι' (.ref (ι' h.n)) H' R' ((X1.trans X2).trans X') (.ref (Nat.lt_of_lt_of_le (Nat.lt_succ_self _) X'.le))
  rw [X'.same h.n (Nat.lt_succ_self _), put1_same] at q
  exact q
include O ok in
/-- C(e, ..) -/
theorem se_make {d1 cx : Nat} (hdd : d = d1 + 1) {cc : Nat → List U → MH → Option (U × MH)} (F : ∀ j fd, P.defs j = some fd → FnOk W.prog W.w W.K W.mg W.base CX0 d1 (T.FA j) (T.FT j) (T.PS j) (spC W (cc j))) (hg : Gl X (T.cl cx)) (hdb : (T.cl cx == ("__debug__" : Str)) = false)
    (ha : ArgL W X f ms es) (hne : es ≠ []) : PE X (.Call (.Name (T.cl cx) p) es [] pos) (tE W (fMake P cx cc (evL f ms) fun us h => some ([], h))) := ⟨fun pins s σ H Q I q => by
  obtain ⟨ι, us, h, σ0, R, S, u, h', e, k⟩ := q
  obtain ⟨xs, h1, zs, h2, j, fd, as, h3, e1, e2, e0, e3, e4, e5, e6⟩ := fMake_some e
  cases e2
  cases e6
  obtain ⟨hm, hc, mk⟩ := O.cls cx j e0
  obtain ⟨dvs, ds, rd, vd, hb⟩ := (O.df j fd e3).all
  have hm' : X.mg (T.cl cx) = some (.ref (W.C cx)) := by rw [ok.mg]; exact hm
  have mk' : Mk X.K (W.C cx) (T.FA j) := by rw [ok.K]; exact mk
  have hb' : Binds X.K (T.FT j) (T.PS j) ds := by rw [ok.K]; exact hb
  have rm : Room (d1 + 1) X.A := hdd ▸ ok.room
  cases ha with
  | nil => exact absurd rfl hne
  | cons he s0 r =>
    refine (pe_make mk' (to_X ok (F j fd e3)) rm hg hm' hb' vd pass0 (sa_of (.cons he s0 r)) hdb (star_of s0 _ X.env) (backAny_of r.stars X.env pos)).run pins s σ H Q I ⟨ι, us, h, σ0, R, S, xs, h1, e1, fun ι2 vs H2 R2 X2 rs x dx nx ndx ne => ?_⟩
    rcases argsOf_len e4 with ⟨_, rfl⟩ | ⟨z, _⟩
    · exact make_at R2 hc (k.of X2) e5 rs rd nx ndx ne
    · exact absurd rfl z⟩
include O ok in
/-- C(e, .., k = v, ..) -/
theorem se_makeK {d1 cx : Nat} {ns : List Str} (hdd : d = d1 + 1) {cc : Nat → List U → MH → Option (U × MH)} (F : ∀ j fd, P.defs j = some fd → FnOk W.prog W.w W.K W.mg W.base CX0 d1 (T.FA j) (T.FT j) (T.PS j) (spC W (cc j))) (hg : Gl X (T.cl cx)) (hdb : (T.cl cx == ("__debug__" : Str)) = false)
    (ha : ArgL W X f ms es) (hne : es ≠ []) (hk : KwL W X f ks kws) (hkn : kws ≠ []) (hn : ∀ j, P.init cx = some j → kwNames kws = (T.KW j).map some) : PE X (.Call (.Name (T.cl cx) p) es kws pos) (tE W (fMake P cx cc (evL f ms) (evL f ks))) := ⟨fun pins s σ H Q I q => by
  obtain ⟨ι, us, h, σ0, R, S, u, h', e, k⟩ := q
  obtain ⟨xs, h1, zs, h2, j, fd, as, h3, e1, e2, e0, e3, e4, e5, e6⟩ := fMake_some e
  cases e6
  obtain ⟨hm, hc, mk⟩ := O.cls cx j e0
  have DB := O.df j fd e3
  have hm' : X.mg (T.cl cx) = some (.ref (W.C cx)) := by rw [ok.mg]; exact hm
  have mk' : Mk X.K (W.C cx) (T.FA j) := by rw [ok.K]; exact mk
  have rm : Room (d1 + 1) X.A := hdd ▸ ok.room
  obtain ⟨n1, n2, n3⟩ := kw_names hk (hn j e0) X.env pos
  have zne : zs ≠ [] := fun z => by
    subst z
    have l := stars_len e2
    cases hk with
    | nil => exact hkn rfl
    | cons _ _ => cases l
  rcases argsOf_len e4 with ⟨z, _⟩ | ⟨_, z1, z2, z3⟩
  · exact absurd z zne
  have lx : xs.length + 1 + fd.nk = fd.np := z3
  have kb : KBn X.K (T.FT j) (T.PS j) (xs.length + 1) (T.KW j) (fun us ws => us ++ ws) (fun vs zs => vs ++ zs) := by
    rw [ok.K]
    rcases DB.kbn with z | z
    · rw [z] at z1
      exact absurd (List.eq_nil_of_length_eq_zero z1) zne
    · have : fd.np - fd.nk = xs.length + 1 := by omega
      rw [this] at z
      exact z
  cases ha with
  | nil => exact absurd rfl hne
  | cons he s0 r =>
    refine (pe_makeK mk' (to_X ok (F j fd e3)) rm hg hm' kb pass0 (sa_of (.cons he s0 r)) (kw_of hk) n1 n2 hdb (star_of s0 _ X.env) (by rw [backAny_of (ArgL.stars (.cons he s0 r)) X.env pos, n3]; rfl)).run pins s σ H Q I
      ⟨ι, us, h, σ0, R, S, xs, h1, e1, fun ι2 vs H2 R2 X2 rs => ⟨ι2, us, h1, σ0, R2, S.mono X2 R.mu, zs, h2, e2, fun ι3 ws H3 R3 X3 rz => ⟨rs.len.symm, by rw [← rz.len, DB.kwl]; exact z1, fun x dx nx ndx ne => ?_⟩⟩⟩
    have r2 := (R2.exts X3 rs).append rz
    have e5' : cc j ((.ref h2.n :: (xs ++ zs)) ++ []) (h2.new (.ins cx [])) = some (.non, h') := by
      rw [List.append_nil, ← List.cons_append, ← z2]
      exact e5
    have z := make_at (ws := []) R3 hc (k.of (X2.trans X3)) e5' r2 (fun _ _ _ => .nil) nx ndx ne
    rw [List.append_nil] at z
    exact z⟩
def fMeth (P : Pg) (c m : Nat) (cc : Nat → List U → MH → Option (U × MH)) (fo : Env → MH → Option (U × MH)) (fs : Env → MH → Option (List U × MH)) : Env → MH → Option (U × MH) := fun us h => match fo us h with
  | some (.ref i, h1) => match h1.get i with
    | some (.ins c' fs0) => match Nat.beq c c' with
      | false => none
      | true => match fget m fs0 with
        | some _ => none
        | none => match fs us h1 with
          | none => none
          | some (xs, h2) => match P.meth c m with
            | none => none
            | some j => match P.defs j with
              | none => none
              | some fd => match argsOf fd (.ref i :: xs) [] with
                | none => none
                | some as => cc j as h2
    | _ => none
  | _ => none
theorem fMeth_some {c m : Nat} {cc : Nat → List U → MH → Option (U × MH)} {fo : Env → MH → Option (U × MH)} {fs : Env → MH → Option (List U × MH)} {us : Env} {h : MH} {o : U × MH} (e : fMeth P c m cc fo fs us h = some o) :
    ∃ i h1 fs0 xs h2 j fd as, fo us h = some (.ref i, h1) ∧ h1.get i = some (.ins c fs0) ∧ fget m fs0 = none ∧ fs us h1 = some (xs, h2) ∧ P.meth c m = some j ∧ P.defs j = some fd ∧ argsOf fd (.ref i :: xs) [] = some as ∧ cc j as h2 = some o := by
  unfold fMeth at e
  cases q1 : fo us h with
  | none => simp only [q1] at e; cases e
  | some p1 =>
    obtain ⟨x, h1⟩ := p1
    cases x with
    | ref i =>
      cases q2 : h1.get i with
      | none => simp only [q1, q2] at e; cases e
      | some ob => cases ob with
        | ins c' fs0 =>
          cases q3 : Nat.beq c c' with
          | false => simp only [q1, q2, q3] at e; cases e
          | true =>
            cases q4 : fget m fs0 with
            | some _ => simp only [q1, q2, q3, q4] at e; cases e
            | none =>
              cases q5 : fs us h1 with
              | none => simp only [q1, q2, q3, q4, q5] at e; cases e
              | some p5 =>
                obtain ⟨xs, h2⟩ := p5
                cases q6 : P.meth c m with
                | none => simp only [q1, q2, q3, q4, q5, q6] at e; cases e
                | some j =>
                  cases q7 : P.defs j with
                  | none => simp only [q1, q2, q3, q4, q5, q6, q7] at e; cases e
                  | some fd =>
                    cases q8 : argsOf fd (.ref i :: xs) [] with
                    | none => simp only [q1, q2, q3, q4, q5, q6, q7, q8] at e; cases e
                    | some as =>
                      simp only [q1, q2, q3, q4, q5, q6, q7, q8] at e
                      have z := Nat.eq_of_beq_eq_true q3
                      subst z
                      exact ⟨i, h1, fs0, xs, h2, j, fd, as, rfl, q2, q4, q5, rfl, q7, q8, e⟩
        | _ => simp only [q1, q2] at e; cases e
    | _ => simp only [q1] at e; cases e
include O ok in
/-- o.m(e, ..) -/
theorem se_meth {cx m : Nat} {apos : Pos} (hmN : m < W.nN) {cc : Nat → List U → MH → Option (U × MH)} (F : ∀ j fd, P.defs j = some fd → FnOk W.prog W.w W.K W.mg W.base CX0 d (T.FA j) (T.FT j) (T.PS j) (spC W (cc j))) (ho : PE X a (tE W fa)) (hp : plainObj a = true) (hl : (apos.endLine == pos.line) = true) (hn : decide (es.length < 30) = true)
    (ha : ArgL W X f ms es) : PE X (.Call (.Attribute a (W.nm m) apos) es [] pos) (tE W (fMeth P cx m cc fa (evL f ms))) := ⟨fun pins s σ H Q I q => by
  obtain ⟨ι, us, h, σ0, R, S, u, h', e, k⟩ := q
  obtain ⟨i, h1, fs0, xs, h2, j, fd, as, e1, e2, e3, e4, e5, e6, e7, e8⟩ := fMeth_some e
  obtain ⟨hc, hm⟩ := O.meth cx m j e5
  obtain ⟨dvs, ds, rd, vd, hb⟩ := (O.df j fd e6).all
  have hc' : Cls X.K (W.C cx) := by rw [ok.K]; exact hc
  have hm' : Meth X.K (W.C cx) (W.nm m) (T.FA j) := by rw [ok.K]; exact hm
  have hb' : Binds X.K (T.FT j) (T.PS j) ds := by rw [ok.K]; exact hb
  obtain ⟨pl, ht⟩ := meth_ht (m := W.nm m) (apos := apos) (pos := pos) (env := X.env) hp ha.stars hn hl
  have pe : PE X (.Call (.Attribute a (W.nm m) apos) es [] pos) (tMeth (W.C cx) (W.nm m) (spC W (cc j)) dvs E0 (tE W fa) (tA W (evL f ms))) := by
    cases ha with
    | nil =>
      refine PE.imp (pe_meth0 ho hc' hm' (to_X ok (F j fd e6)) ok.room hb' vd pass0 ht) fun σ H Q q => ?_
      exact tE_imp q fun v H ⟨a, dx, fs, q1, q2, q3, q4⟩ => ⟨a, dx, fs, q1, q2, q3, tA_nil q4⟩
    | cons he s0 r => exact pe_meth ho hc' hm' (to_X ok (F j fd e6)) ok.room hb' vd pass0 (sa_of (.cons he s0 r)) (star_of s0 _ X.env) (backAny_of r.stars X.env pos) ht
  refine pe.run pins s σ H Q I ⟨ι, us, h, σ0, R, S, _, h1, e1, fun ι2 v H2 R2 X2 rv => ?_⟩
  obtain ⟨hi, dx, vs, g, gc, gp⟩ := get_ins R2 e2
  refine ⟨_, dx, vs, rv.ref_i, g, (fget_ok O.nm.inj hmN gp).2 e3, ι2, us, h1, σ0, R2, S.mono X2 R.mu, xs, h2, e4, fun ι3 ws H3 R3 X3 rs => ?_⟩
  have r0 := R2.ext X3 rv
  rcases argsOf_len e7 with ⟨_, rfl⟩ | ⟨z, _⟩
  · exact ⟨ι3, _, h2, R3, .cons r0 (rs.append (rd _ _ _)), u, h', e8, k.of (X2.trans X3)⟩
  · exact absurd rfl z⟩

/-! ### a written table asked -/
def fGet (P : Pg) (g : Nat) (fa fb : Env → MH → Option (U × MH)) : Env → MH → Option (U × MH) := fun us h => match fa us h with
  | some (.int (.lit k), h1) => match fb us h1 with
    | none => none
    | some (y, h2) => match P.gdic g with
      | none => none
      | some kvs => match kvs.find? fun p => decide (p.1 = k) with
        | some p => some (p.2, h2)
        | none => some (y, h2)
  | _ => none
theorem find_I (k : Int) : ∀ ps : List (Int × Int), (ps.map fun p => (p.1, U.int (.lit p.2))).find? (fun p => decide (p.1 = k)) = (findI k ps).map fun i => (k, U.int (.lit i))
  | [] => rfl
  | p :: r => by
    unfold findI
    rw [List.map_cons]
    by_cases h : p.1 = k
    · rw [List.find?_cons_of_pos (by simpa using h), if_pos h, ← h]
      rfl
    · rw [List.find?_cons_of_neg (by simpa using h), if_neg h]
      exact find_I k r
include O ok in
theorem se_gget {g : Nat} {apos q : Pos} (hg : Gl X (T.gd g)) (hdb : (T.gd g == ("__debug__" : Str)) = false) (ha : PE X a (tE W fa)) (hb : PE X b (tE W fb)) (hs : noStar a = true) (hs2 : noStar b = true) (hl : (apos.endLine == pos.line) = true) :
    PE X (.Call (.Attribute (.Name (T.gd g) q) "get" apos) [a, b] [] pos) (tE W (fGet P g fa fb)) := ⟨fun pins s σ H Q I qq => by
  obtain ⟨ι, us, h, σ0, R, S, u, h', e, k⟩ := qq
  unfold fGet at e
  cases q1 : fa us h with
  | none => simp only [q1] at e; cases e
  | some p1 =>
    obtain ⟨x, h1⟩ := p1
    cases x with
    | int n => cases n with
      | lit n =>
        cases q2 : fb us h1 with
        | none => simp only [q1, q2] at e; cases e
        | some p2 =>
          obtain ⟨y, h2⟩ := p2
          cases q3 : P.gdic g with
          | none => simp only [q1, q2, q3] at e; cases e
          | some kvs =>
            obtain ⟨ad, ps, hm, hd, rfl⟩ := O.gdic g kvs q3
            have hm' : X.mg (T.gd g) = some (.ref ad) := by rw [ok.mg]; exact hm
            have st : ([a, b] : List Expr).all noStar = true := by rw [List.all_cons, hs, List.all_cons, hs2]; rfl
            simp only [q1, q2, q3, find_I] at e
            refine wpAny_Call_method rfl (by rw [back_of st]; rfl) hl PySem.F.plainAttrs_dict PySem.F.slot_dict_get PySem.F.type_dict_get (ld_glob I hg hm' ?_ hdb)
            have hK : X.K = W.K := ok.K
            obtain ⟨_, f0, mo0, _⟩ := gdB_map (prog := X.prog) (w := X.w) hd (hp := s.heap) (by rw [← hK]; exact I.kIn)
            refine ⟨mo0.typeIs, fun b' e' => ?_, ?_⟩
            · cases e'
              obtain ⟨o, es, ep, g1, g2, _⟩ := mo0
              exact ⟨o, g1, g2.2.1⟩
            · rw [back_of st]
              refine Calls.callWith_builtin rfl (Calls.evalArgs_plain (Calls.spliced_cons (thn (ha.run pins s σ H (fun v H2 => v = .int n ∧ ∃ ι2, Rep W ι2 h1 H2 ∧ Ext ι h.n H ι2 h1.n H2) I ⟨ι, us, h, σ0, R, S, _, h1, q1, fun ι2 v H2 R2 X2 rv => ⟨rv.ints, ι2, R2, X2⟩⟩) fun iv s2 ⟨v, H2, I2, rv, ev, ι2, R2, X2⟩ =>
                Calls.spliced_cons (thn (hb.run pins s2 σ H2 (fun v H3 => ∃ ι3, Rep W ι3 h2 H3 ∧ Ext ι h.n H ι3 h2.n H3 ∧ RU W ι3 h2.n H3 y v) I2 ⟨ι2, us, h1, σ0, R2, S.mono X2 R.mu, y, h2, q2, fun ι3 w H3 R3 X3 rw' => ⟨ι3, R3, X2.trans X3, rw'⟩⟩) fun fv s3 ⟨w, H3, I3, rw', ι3, R3, X3, ry⟩ => Calls.spliced_nil ?_))))
              subst ev
              obtain ⟨t, rfl⟩ := (show ∃ t, iv = Value.int n t from rv)
              obtain ⟨lo, f3, mo3, hf3⟩ := gdB_map (prog := X.prog) (w := X.w) hd (hp := s3.heap) (by rw [← hK]; exact I3.kIn)
              refine call_meetsIn PySem.F.slot_dict_get mo3.typeIs PySem.F.entry_dict_get (PySem.F.args_dict_get_3 _ _ _) (meets_dict_get_default (PySem.intKind X.prog X.w) ad (k := n) (by show Value.isInt n (.int n t) = true; simp [Value.isInt]) lo fv) ⟨_, mo3, ?_⟩
              rcases hf3 n with ⟨z1, z2⟩ | ⟨i, t', z1, z2⟩
              · rw [z2] at e
                cases e
                rw [z1]
                exact ⟨w, H3, I3.tok _, rw', k ι3 w H3 R3 X3 ry⟩
              · rw [z2] at e
                cases e
                rw [z1]
                exact ⟨.int i, H3, I3.tok _, ⟨t', rfl⟩, k ι3 _ H3 R3 X3 (.int (.lit i))⟩
      | pol c ms => simp only [q1] at e; cases e
    | _ => simp only [q1] at e; cases e⟩
end
end Se
set_option Elab.async false
set_option linter.all false
set_option maxRecDepth 100000
/-! Se over the hand layer: a text and its small tree agree. -/
namespace Se
open PySem PySem.Spec
open PyProof.Rows L2

/-- the names of a program's things -/
structure Nmz where
  df : Nat → Str
  isF : Nat → Bool
  cl : Nat → Str
  gl : Nat → Str
  gd : Nat → Str
  KW : Nat → List Str
  fld : Nat → Str
  nN : Nat
  ini : Nat → Option Nat
def visB (sc : Scope) (x : Str) : Bool := match sc.names.lookup x with
  | some .local => true
  | some .cell => true
  | some .free => true
  | _ => false
def glB (sc : Scope) (x : Str) : Bool := match sc.names.lookup x with
  | some .globalImplicit => true
  | _ => false
def locB (sc : Scope) (x : Str) : Bool := match sc.names.lookup x with
  | some .local => true
  | _ => false
def nameB (x : Str) : Bool := !(x == ("__debug__" : Str)) && !(x == ("__classdict__" : Str))
theorem visB_ok {sc : Scope} {x : Str} (h : visB sc x = true) : Vis sc x := by
  unfold visB at h
  cases q : sc.names.lookup x with
  | none => rw [q] at h; cases h
  | some k =>
    rw [q] at h
    cases k with
    | «local» => exact .inl q
    | cell => exact .inr (.inl q)
    | free => exact .inr (.inr q)
    | _ => cases h
theorem glB_ok {X : Cx} {x : Str} (h : glB X.env.scope x = true) : Gl X x := by
  unfold glB at h
  cases q : X.env.scope.names.lookup x with
  | none => rw [q] at h; cases h
  | some k =>
    rw [q] at h
    cases k with
    | globalImplicit => exact q
    | _ => cases h
theorem locB_ok {sc : Scope} {x : Str} (h : locB sc x = true) : sc.names.lookup x = some .local := by
  unfold locB at h
  cases q : sc.names.lookup x with
  | none => rw [q] at h; cases h
  | some k =>
    rw [q] at h
    cases k with
    | «local» => rfl
    | _ => cases h
theorem nameB_ok {x : Str} (h : nameB x = true) : (x == ("__debug__" : Str)) = false ∧ (x == ("__classdict__" : Str)) = false := by
  unfold nameB at h
  obtain ⟨h1, h2⟩ := and2 h
  exact ⟨by simpa using h1, by simpa using h2⟩
def boS : BO → Operator → Bool
  | .add, .Add => true
  | .sub, .Sub => true
  | .mul, .Mult => true
  | _, _ => false
def biS : BI → Str
  | .len => "len"
  | .int => "int"
  | .list => "list"
  | .tuple => "tuple"
def mL (f : Expr → ME → Bool) : List Expr → List ME → Bool
  | [], [] => true
  | e :: es, m :: ms => noStar e && (f e m && mL f es ms)
  | _, _ => false
def mTl (f : Expr → ME → Bool) : List Expr → List ME → Bool
  | [], [] => true
  | e :: es, m :: ms => f e m && mTl f es ms
  | _, _ => false
def mTs (f : Expr → ME → Bool) (es : List Expr) (ms : List ME) : Bool := (match es with | [] => false | _ :: _ => true) && mTl f es ms
def mKs (f : Expr → ME → Bool) : List Keyword → List ME → Bool
  | [], [] => true
  | k :: es, m :: ms => match k with
    | ⟨some _, e, _⟩ => f e m && mKs f es ms
    | _ => false
  | _, _ => false
def mO (f : Expr → ME → Bool) : Option Expr → Option ME → Bool
  | none, none => true
  | some e, some m => f e m
  | _, _ => false
def mGs (f : Expr → MG → Bool) : List Expr → List MG → Bool
  | [], [] => true
  | e :: es, m :: ms => noStar e && (f e m && mGs f es ms)
  | _, _ => false
def mSs (f : Stmt → MS → Bool) : List Stmt → List MS → Bool
  | [], [] => true
  | e :: es, m :: ms => f e m && mSs f es ms
  | _, _ => false
def bmB (f : Expr → ME → Bool) (nm : Str) (b : BM) (xs : List Expr) (es : List ME) : Bool := match b, xs, es with
  | .append, [y], [m] => decide (nm = ("append" : Str)) && (noStar y && f y m)
  | .extend, [y], [m] => decide (nm = ("extend" : Str)) && (noStar y && f y m)
  | .pop, [], [] => decide (nm = ("pop" : Str))
  | _, _, _ => false
structure Mf where
  e : Scope → Expr → ME → Bool
  t : Scope → Expr → ME → Bool
  g : Scope → Expr → MG → Bool
  i : Scope → Expr → Expr → MI → Bool
  s : Scope → Stmt → MS → Bool
def mBot : Mf := ⟨fun _ _ _ => false, fun _ _ _ => false, fun _ _ _ => false, fun _ _ _ _ => false, fun _ _ _ => false⟩
section
variable (M : Nmz) (N : List Str) (r : Mf)
def ownS (own : List Nat) : List (Str × Nat) := own.map fun i => (N.getD i Str.empty, i)
/-- a comprehension's head -/
def compB (sc scope : Scope) (tg it : Expr) (z : Int) (own : List Nat) (g : MG) (mi : MI) : Bool :=
  decide (z = 0) && (blkC N sc scope (ownS N own) && ((gnames g).all (fun j => ((ownS N own).map (·.2)).elem j) && (noSet it && (r.i sc tg it mi && r.g (relS scope sc) tg g))))
def ifsB (sc : Scope) : List Expr → Option ME → Bool
  | [], none => true
  | [c], some m => r.t sc c m
  | _, _ => false
def callB (sc : Scope) (xs : List Expr) (kws : List Keyword) (es ks : List ME) (names : Option (List Str)) : Bool :=
  mL (r.e sc) xs es && (mKs (r.e sc) kws ks && (match kws with
    | [] => true
    | _ :: _ => match xs with
      | [] => false
      | _ :: _ => match names with
        | some ns => decide (kwNames kws = ns.map some)
        | none => false))
def mfE (sc : Scope) (e : Expr) (m : ME) : Bool := match m with
  | .no => true
  | .var i => match e with
    | .Name x _ => decide (N[i]? = some x) && (visB sc x && nameB x)
    | _ => false
  | .glo g => match e with
    | .Name x _ => decide (x = M.gl g) && (glB sc x && nameB x)
    | _ => false
  | .int k => match e with
    | .Constant (.int j) _ _ => decide (j = k)
    | _ => false
  | .bl b => match e with
    | .Constant (.bool c) _ _ => decide (c = b)
    | _ => false
  | .non => match e with
    | .Constant .none _ _ => true
    | _ => false
  | .str z => match e with
    | .Constant (.str x) _ _ => decide (x = strV z) && PyData.strOk (strV z)
    | _ => false
  | .tup es => match e with
    | .Tuple xs _ _ => mL (r.e sc) xs es
    | _ => false
  | .lst es => match e with
    | .List xs _ => mL (r.e sc) xs es
    | _ => false
  | .dnew _ => match e with
    | .Dict [] [] _ => true
    | _ => false
  | .bin op a b => match e with
    | .BinOp x o y _ => boS op o && (r.e sc x a && r.e sc y b)
    | _ => false
  | .neg a => match e with
    | .UnaryOp .USub x _ => r.e sc x a
    | _ => false
  | .cmp o a b => match e with
    | .Compare x [p] [y] _ => decide (p = coOp o) && (noSet y && (r.e sc x a && r.e sc y b))
    | _ => false
  | .chain o1 o2 a b c => match e with
    | .Compare x [p, q] [y, z] _ => decide (p = coOp o1) && (decide (q = coOp o2) && (noSet y && (noSet z && (r.e sc x a && (r.e sc y b && r.e sc z c)))))
    | _ => false
  | .and _ => true
  | .or _ => true
  | .not _ => true
  | .ite c a b => match e with
    | .IfExp z x y _ => r.t sc z c && (r.e sc x a && r.e sc y b)
    | _ => false
  | .fld a f => match e with
    | .Attribute x nm _ => decide (nm = M.fld f) && (decide (f < M.nN) && (plainObj x && r.e sc x a))
    | _ => false
  | .ix a b => match e with
    | .Subscript x y _ => noSl y && (r.e sc x a && r.e sc y b)
    | _ => false
  | .sl a lo hi => match e with
    | .Subscript x (.Slice l h none _) _ => r.e sc x a && (mO (r.e sc) l lo && mO (r.e sc) h hi)
    | _ => false
  | .rev a => match e with
    | .Subscript x (.Slice none none (some (.UnaryOp .USub (.Constant (.int i) _ _) _)) _) _ => decide (i = 1) && r.e sc x a
    | _ => false
  | .call j es ks => match e with
    | .Call (.Name x _) xs kws _ => decide (x = M.df j) && (M.isF j && (glB sc x && (nameB x && callB r sc xs kws es ks (some (M.KW j)))))
    | _ => false
  | .make c es ks => match e with
    | .Call (.Name x _) (y :: xs) kws _ => decide (x = M.cl c) && (glB sc x && (nameB x && callB r sc (y :: xs) kws es ks ((M.ini c).map M.KW)))
    | _ => false
  | .meth _ m o es => match e with
    | .Call (.Attribute x nm ap) xs [] p => decide (nm = M.fld m) && (decide (m < M.nN) && (plainObj x && ((ap.endLine == p.line) && (decide (xs.length < 30) && (r.e sc x o && mL (r.e sc) xs es)))))
    | _ => false
  | .bm b o es => match e with
    | .Call (.Attribute x nm ap) xs [] p => plainObj x && ((ap.endLine == p.line) && (r.e sc x o && bmB (r.e sc) nm b xs es))
    | _ => false
  | .bi b a => match e with
    | .Call (.Name x _) [y] [] _ => decide (x = biS b) && (glB sc x && (noStar y && r.e sc y a))
    | _ => false
  | .isi a t => match e with
    | .Call (.Name x _) [y, .Name z _] [] _ => decide (x = ("isinstance" : Str)) && (decide (z = Str.ofString (tyS t)) && (glB sc x && (glB sc z && (noStar y && r.e sc y a))))
    | _ => false
  | .gget g a b => match e with
    | .Call (.Attribute (.Name x _) nm ap) [y, z] [] p => decide (x = M.gd g) && (decide (nm = ("get" : Str)) && (glB sc x && (nameB x && ((ap.endLine == p.line) && (noStar y && (noStar z && (r.e sc y a && r.e sc z b)))))))
    | _ => false
  | .lc own g mi t me => match e with
    | .ListComp x [⟨tg, it, ifs, z⟩] scope _ => compB N r sc scope tg it z own g mi && (ifsB r (relS scope sc) ifs t && r.e (relS scope sc) x me)
    | _ => false
  | .dc own g mi mk mv => match e with
    | .DictComp x y [⟨tg, it, [], z⟩] scope _ => compB N r sc scope tg it z own g mi && (r.e (relS scope sc) x mk && r.e (relS scope sc) y mv)
    | _ => false
def mfT (sc : Scope) (e : Expr) (m : ME) : Bool := match m with
  | .and es => match e with
    | .BoolOp .And xs _ => mTs (r.t sc) xs es
    | _ => false
  | .or es => match e with
    | .BoolOp .Or xs _ => mTs (r.t sc) xs es
    | _ => false
  | .not a => match e with
    | .UnaryOp .Not x _ => r.t sc x a
    | _ => false
  | .cmp _ _ _ => r.e sc e m
  | .chain _ _ _ _ _ => r.e sc e m
  | m => plainTest e && r.e sc e m
def mfG (sc : Scope) (e : Expr) (g : MG) : Bool := match g with
  | .name i => match e with
    | .Name x _ => decide (N[i]? = some x) && locB sc x
    | _ => false
  | .fld o f => match e with
    | .Attribute x nm _ => decide (nm = M.fld f) && r.e sc x o
    | _ => false
  | .sub o i => match e with
    | .Subscript x y _ => noSl y && (r.e sc x o && r.e sc y i)
    | _ => false
  | .tup gs => match e with
    | .Tuple xs _ _ => mGs (r.g sc) xs gs
    | _ => false
def isTup : Expr → Bool
  | .Tuple .. => true
  | _ => false
def mfI (sc : Scope) (tg e : Expr) (m : MI) : Bool := match m with
  | .val a => r.e sc e a
  | .rng a => match e with
    | .Call (.Name x _) [y] [] _ => decide (x = ("range" : Str)) && (glB sc x && (noStar y && r.e sc y a))
    | _ => false
  | .enum a => match e with
    | .Call (.Name x _) [y] [] _ => isTup tg && (decide (x = ("enumerate" : Str)) && (glB sc x && (noStar y && r.e sc y a)))
    | _ => false
  | .zip a b => match e with
    | .Call (.Name x _) [y, z] [] _ => isTup tg && (decide (x = ("zip" : Str)) && (glB sc x && (noStar y && (noStar z && (r.e sc y a && r.e sc z b)))))
    | _ => false
def isComp : Expr → Bool
  | .ListComp .. => true
  | .DictComp .. => true
  | _ => false
/-- two or three names at once -/
def parB (sc : Scope) (ts vs : List Expr) (is : List Nat) : Bool := match ts, vs, is with
  | [.Name x p, .Name y q], [_, _], [i, j] => decide (N[i]? = some x) && (decide (N[j]? = some y) && (locB sc x && (locB sc y && (decide (q.line = p.line) && (decide (x ≠ y) && decide (i ≠ j))))))
  | [.Name x p, .Name y q, .Name z t], [_, _, _], [i, j, l] => decide (N[i]? = some x) && (decide (N[j]? = some y) && (decide (N[l]? = some z) && (locB sc x && (locB sc y && (locB sc z && (decide (q.line = p.line) && (decide (t.line = p.line) && (decide (x ≠ y ∧ x ≠ z ∧ y ≠ z) && decide (i ≠ j ∧ i ≠ l ∧ j ≠ l)))))))))
  | _, _, _ => false
def kindF (sc : Scope) : Bool := match sc.kind with
  | .function => true
  | _ => false
def mfS (sc : Scope) (st : Stmt) (m : MS) : Bool := match m with
  | .no => true
  | .exp a => match st with
    | .Expr x _ => noComp x && r.e sc x a
    | _ => false
  | .asg g a => match st with
    | .Assign [tg] v p => match v with
      | .ListComp x [⟨ct, it, ifs, z⟩] scope vp => match tg with
        | .Name y py => match g, a with
          | .name i, .lc own cg mi t me => asgC N sc scope i y py vp && (compB N r sc scope ct it z own cg mi && (ifsB r (relS scope sc) ifs t && r.e (relS scope sc) x me))
          | _, _ => false
        | .Attribute .. => r.g sc tg g && r.e sc v a
        | _ => false
      | .DictComp x w [⟨ct, it, [], z⟩] scope vp => match tg with
        | .Name y py => match g, a with
          | .name i, .dc own cg mi mk mv => asgC N sc scope i y py vp && (compB N r sc scope ct it z own cg mi && (r.e (relS scope sc) x mk && r.e (relS scope sc) w mv))
          | _, _ => false
        | .Attribute .. => r.g sc tg g && r.e sc v a
        | _ => false
      | v => noComp v && (noStar tg && ((noTup v || noTL tg) && (r.g sc tg g && r.e sc v a)))
    | _ => false
  | .par is es => match st with
    | .Assign [.Tuple ts _ _] (.Tuple vs _ _) _ => kindF sc && (parB N sc ts vs is && (!(vs.all (foldedForSure 8)) && (!(vs.all (constantsAlone 8)) && mL (r.e sc) vs es)))
    | _ => false
  | .augF o f op a => match st with
    | .AugAssign (.Attribute x nm _) q y _ => decide (nm = M.fld f) && (decide (f < M.nN) && (decide (q = boOp op) && (r.e sc x o && r.e sc y a)))
    | _ => false
  | .augN _ _ _ => false
  | .ite c a b => match st with
    | .If x s t _ => r.t sc x c && (mSs (r.s sc) s a && mSs (r.s sc) t b)
    | _ => false
  | .whil c b => match st with
    | .While x s [] _ => r.t sc x c && mSs (r.s sc) s b
    | _ => false
  | .for_ g mi b => match st with
    | .For tg it s [] _ => noSet it && (r.i sc tg it mi && (r.g sc tg g && mSs (r.s sc) s b))
    | _ => false
  | .ret a => match st with
    | .Return (some x) _ => r.e sc x a
    | _ => false
  | .retN => match st with
    | .Return none _ => true
    | _ => false
  | .pass => match st with
    | .Pass _ => true
    | _ => false
def mStep : Mf := ⟨mfE M N r, mfT r, mfG M N r, mfI r, mfS M N r⟩
end
def mf (M : Nmz) (N : List Str) (n : Nat) : Mf := Nat.rec mBot (fun _ r => mStep M N r) n
end Se
set_option Elab.async false
set_option linter.all false
set_option maxRecDepth 100000
/-! Se over the hand layer: what agrees does what the small tree says. -/
namespace Se
open PySem PySem.Spec
open PyProof.Rows L2

structure Sam (W : Wd) (P : Pg) (T : Tb) (M : Nmz) : Prop where
  df : T.df = M.df
  isF : T.isF = M.isF
  cl : T.cl = M.cl
  gl : T.gl = M.gl
  gd : T.gd = M.gd
  KW : T.KW = M.KW
  fld : W.nm = M.fld
  nN : W.nN = M.nN
  ini : P.init = M.ini
  len : W.mg "len" = none
  int : W.mg "int" = none
  list : W.mg "list" = none
  tuple : W.mg "tuple" = none
  isi : W.mg "isinstance" = none
  bool : W.mg "bool" = none
  str : W.mg "str" = none
  range : W.mg "range" = none
  enum : W.mg "enumerate" = none
  zip : W.mg "zip" = none
/-- all that agrees at n is so -/
structure Snd (W : Wd) (P : Pg) (T : Tb) (M : Nmz) (Γ : Bd) (n : Nat) : Prop where
  c : ∀ j fd, P.defs j = some fd → ∀ d, FnOk W.prog W.w W.K W.mg W.base CX0 (d + 1) (T.FA j) (T.FT j) (T.PS j) (spC W ((fns Γ P n).c d j))
  e : ∀ {X : Cx} {d k : Nat} {e : Expr} {m : ME}, XOk W d X → (mf M X.N k).e X.env.scope e m = true → PE X e (tE W ((fns Γ P n).e d m))
  t : ∀ {X : Cx} {d k : Nat} {e : Expr} {m : ME}, XOk W d X → (mf M X.N k).t X.env.scope e m = true → PT X e (tT W ((fns Γ P n).t d m))
  g : ∀ {X : Cx} {d k : Nat} {e : Expr} {m : MG}, XOk W d X → (mf M X.N k).g X.env.scope e m = true → PG X e (tG W (gnames m) ((fns Γ P n).g d m))
  i : ∀ {X : Cx} {d k : Nat} {tg e : Expr} {m : MI}, XOk W d X → (mf M X.N k).i X.env.scope tg e m = true → PI X tg e (tI W (iter ((fns Γ P n).e d) m))
  s : ∀ {X : Cx} {d k : Nat} {st : Stmt} {m : MS}, XOk W d X → (mf M X.N k).s X.env.scope st m = true → PS X st (tS W ((fns Γ P n).s d m))
section
variable {W : Wd} {P : Pg} {T : Tb} {M : Nmz} {Γ : Bd} {X : Cx} {d k : Nat}

theorem argL_of {f : ME → Env → MH → Option (U × MH)} {r : Expr → ME → Bool} (h : ∀ e m, r e m = true → PE X e (tE W (f m))) : ∀ {es : List Expr} {ms : List ME}, mL r es ms = true → ArgL W X f ms es
  | [], [], _ => .nil
  | e :: es, m :: ms, q => by
    unfold mL at q
    obtain ⟨h1, q⟩ := and2 q
    obtain ⟨h2, h3⟩ := and2 q
    exact .cons (h e m h2) h1 (argL_of h h3)
  | [], _ :: _, q => nomatch q
  | _ :: _, [], q => nomatch q
theorem kwL_of {f : ME → Env → MH → Option (U × MH)} {r : Expr → ME → Bool} (h : ∀ e m, r e m = true → PE X e (tE W (f m))) : ∀ {es : List Keyword} {ms : List ME}, mKs r es ms = true → KwL W X f ms es
  | [], [], _ => .nil
  | ⟨a, e, p⟩ :: es, m :: ms, q => by
    cases a with
    | none => cases q
    | some nm =>
      have q : (r e m && mKs r es ms) = true := q
      obtain ⟨h2, h3⟩ := and2 q
      exact .cons (h e m h2) (kwL_of h h3)
  | [], _ :: _, q => nomatch q
  | _ :: _, [], q => nomatch q
theorem testL_cons {f : ME → Env → MH → Option (Bool × MH)} {r : Expr → ME → Bool} (h : ∀ e m, r e m = true → PT X e (tT W (f m))) : ∀ {es : List Expr} {ms : List ME} {e : Expr} {m : ME}, r e m = true → mTl r es ms = true → TestL W X f (m :: ms) (e :: es)
  | [], [], e, m, q0, _ => .one (h e m q0)
  | e2 :: es, m2 :: ms, e, m, q0, q => by
    unfold mTl at q
    obtain ⟨h2, h3⟩ := and2 q
    exact .cons (h e m q0) (testL_cons h h2 h3)
  | [], _ :: _, _, _, _, q => nomatch q
  | _ :: _, [], _, _, _, q => nomatch q
theorem testL_of {f : ME → Env → MH → Option (Bool × MH)} {r : Expr → ME → Bool} (h : ∀ e m, r e m = true → PT X e (tT W (f m))) {es : List Expr} {ms : List ME} (q : mTs r es ms = true) : TestL W X f ms es := by
  unfold mTs at q
  obtain ⟨q1, q2⟩ := and2 q
  cases es with
  | nil => cases q1
  | cons e es => cases ms with
    | nil => cases q2
    | cons m ms =>
      unfold mTl at q2
      obtain ⟨h2, h3⟩ := and2 q2
      exact testL_cons h h2 h3
theorem optL_of {f : ME → Env → MH → Option (U × MH)} {r : Expr → ME → Bool} (h : ∀ e m, r e m = true → PE X e (tE W (f m))) : ∀ {e : Option Expr} {m : Option ME}, mO r e m = true → OptL W X f m e
  | none, none, _ => .none
  | some e, some m, q => .some (h e m q)
  | none, some _, q => nomatch q
  | some _, none, q => nomatch q
theorem tgtL_of {f : MG → U → Env → MH → Option (Env × MH)} {r : Expr → MG → Bool} (h : ∀ e m, r e m = true → PG X e (tG W (gnames m) (f m))) : ∀ {es : List Expr} {ms : List MG}, mGs r es ms = true → TgtL W X f ms es
  | [], [], _ => .nil
  | e :: es, m :: ms, q => by
    unfold mGs at q
    obtain ⟨h1, q⟩ := and2 q
    obtain ⟨h2, h3⟩ := and2 q
    exact .cons (h e m h2) h1 (tgtL_of h h3)
  | [], _ :: _, q => nomatch q
  | _ :: _, [], q => nomatch q
theorem blkL_of {f : MS → Env → MH → Option (Fl × Env × MH)} {r : Stmt → MS → Bool} (h : ∀ e m, r e m = true → PS X e (tS W (f m))) : ∀ {es : List Stmt} {ms : List MS}, mSs r es ms = true → BlkL W X f ms es
  | [], [], _ => .nil
  | e :: es, m :: ms, q => by
    unfold mSs at q
    obtain ⟨h2, h3⟩ := and2 q
    exact .cons (h e m h2) (blkL_of h h3)
  | [], _ :: _, q => nomatch q
  | _ :: _, [], q => nomatch q

theorem pt_none {e : Expr} {f : Env → MH → Option (Bool × MH)} (hf : ∀ us h, f us h = none) : PT X e (tT W f) := ⟨fun pins s σ H Q I q => by
  obtain ⟨_, us, h, _, _, _, u, h', e, _⟩ := q
  rw [hf] at e
  cases e⟩
theorem pg_none {e : Expr} {ns : List Nat} {f : U → Env → MH → Option (Env × MH)} (hf : ∀ u us h, f u us h = none) : PG X e (tG W ns f) := ⟨fun pins s σ H v u Q I r q => by
  obtain ⟨_, us, h, _, x, _, _, _, us', h', e, _⟩ := q
  rw [hf] at e
  cases e⟩
theorem pi_none {tg e : Expr} {f : Env → MH → Option (IT × MH)} (hf : ∀ us h, f us h = none) : PI X tg e (tI W f) := ⟨fun pins s σ H Q I q => by
  obtain ⟨_, us, h, _, _, _, u, h', e, _⟩ := q
  rw [hf] at e
  cases e⟩
theorem iter_bot {n : Nat} {m : MI} (us : Env) (h : MH) : iter ((bot).e n) m us h = none := by cases m <;> rfl
/-- at nought nothing is done -/
theorem snd_zero (O : PgOk W P T) : Snd W P T M Γ 0 where
  c := fun j fd e d => by
    refine ⟨fun vs H Q E h => ?_, fun A outer s H args us vs Q E hr he hb hv hs => ?_⟩
    · obtain ⟨ι, xs, h, R, r, u, h', e, _⟩ := h
      cases e
    · obtain ⟨ι, xs, h, R, r, u, h', e, _⟩ := hs
      cases e
  e := fun ok h => pe_no fun _ _ => rfl
  t := fun ok h => pt_none fun _ _ => rfl
  g := fun ok h => pg_none fun _ _ _ => rfl
  i := fun ok h => pi_none fun us h => iter_bot us h
  s := fun ok h => ss_no fun _ _ => rfl
end
end Se
set_option Elab.async false
set_option linter.all false
set_option maxRecDepth 100000
/-! Se over the hand layer: one level more, expressions. -/
namespace Se
open PySem PySem.Spec
open PyProof.Rows L2

theorem call_zero {Γ : Bd} {P : Pg} {r : Fns} {j : Nat} {es ks : List ME} (us : Env) (h : MH) : stepE Γ P r 0 (.call j es ks) us h = none := by
  show (match evL (r.e 0) es us h with
    | none => none
    | some (_, h1) => match evL (r.e 0) ks us h1 with
      | none => none
      | some (_, _) => (none : Option (U × MH))) = none
  cases evL (r.e 0) es us h with
  | none => rfl
  | some p1 =>
    obtain ⟨x, h1⟩ := p1
    dsimp only
    cases evL (r.e 0) ks us h1 <;> rfl
theorem make_few {Γ : Bd} {P : Pg} {r : Fns} {c : Nat} {es ks : List ME} {d : Nat} (hd : d < 2) (us : Env) (h : MH) : stepE Γ P r d (.make c es ks) us h = none := by
  rcases d with _ | _ | d
  · show (match evL (r.e 0) es us h with
      | none => none
      | some (_, h1) => match evL (r.e 0) ks us h1 with
        | none => none
        | some (_, _) => (none : Option (U × MH))) = none
    cases evL (r.e 0) es us h with
    | none => rfl
    | some p1 =>
      obtain ⟨x, h1⟩ := p1
      dsimp only
      cases evL (r.e 0) ks us h1 <;> rfl
  · show (match evL (r.e 1) es us h with
      | none => none
      | some (_, h1) => match evL (r.e 1) ks us h1 with
        | none => none
        | some (_, _) => (none : Option (U × MH))) = none
    cases evL (r.e 1) es us h with
    | none => rfl
    | some p1 =>
      obtain ⟨x, h1⟩ := p1
      dsimp only
      cases evL (r.e 1) ks us h1 <;> rfl
  · omega
theorem fCall_none {P : Pg} {cc : List U → MH → Option (U × MH)} {j : Nat} (z : P.defs j = none) {fs fk : Env → MH → Option (List U × MH)} (us : Env) (h : MH) : fCall P cc j fs fk us h = none := by
  cases q : fCall P cc j fs fk us h with
  | none => rfl
  | some o =>
    obtain ⟨xs, h1, zs, h2, fd, as, e1, e2, e3, e4, e5⟩ := fCall_some q
    rw [z] at e3
    cases e3
theorem meth_zero {Γ : Bd} {P : Pg} {r : Fns} {c m : Nat} {o : ME} {es : List ME} (us : Env) (h : MH) : stepE Γ P r 0 (.meth c m o es) us h = none := by
  show (match r.e 0 o us h with
    | some (.ref i, h1) => match h1.get i with
      | some (.ins c' fs) => match Nat.beq c c' with
        | false => none
        | true => match fget m fs with
          | some _ => none
          | none => match evL (r.e 0) es us h1 with
            | none => none
            | some (_, _) => (none : Option (U × MH))
      | _ => none
    | _ => none) = none
  cases r.e 0 o us h with
  | none => rfl
  | some p1 =>
    obtain ⟨x, h1⟩ := p1
    cases x with
    | ref i =>
      dsimp only
      cases h1.get i with
      | none => rfl
      | some ob => cases ob with
        | ins c' fs =>
          dsimp only
          cases Nat.beq c c' with
          | false => rfl
          | true =>
            dsimp only
            cases fget m fs with
            | some _ => rfl
            | none =>
              dsimp only
              cases evL (r.e 0) es us h1 <;> rfl
        | _ => rfl
    | _ => rfl
section
variable {W : Wd} {P : Pg} {T : Tb} {M : Nmz} {Γ : Bd} {n : Nat} (S : ∀ m, m ≤ n → Snd W P T M Γ m) (O : PgOk W P T) (A : Sam W P T M) (G : Γ.ok W.θ) {X : Cx} {d k : Nat} (ok : XOk W d X)
include S O A G ok

theorem snd_con {e : Expr} {u : U} {v : V} (h : PE X e (tC v)) (r : ∀ ι n H, RU W ι n H u v) {f : Env → MH → Option (U × MH)} (hf : f = fun us h => some (u, h)) : PE X e (tE W f) := by
  subst hf
  exact se_con h r
theorem call_ok {j : Nat} {es ks : List ME} {xs : List Expr} {kws : List Keyword} {p pos : Pos} (hF : T.isF j = true) (hg : Gl X (T.df j)) (hdb : (T.df j == ("__debug__" : Str)) = false)
    (h : callB (mf M X.N k) X.env.scope xs kws es ks (some (T.KW j)) = true) : PE X (.Call (.Name (T.df j) p) xs kws pos) (tE W (stepE Γ P (fns Γ P n) d (.call j es ks))) := by
  have I := S n (Nat.le_refl _)
  unfold callB at h
  obtain ⟨h1, h⟩ := and2 h
  obtain ⟨h2, h3⟩ := and2 h
  have aL := argL_of (f := (fns Γ P n).e d) (fun e m q => I.e ok q) h1
  have kL := kwL_of (f := (fns Γ P n).e d) (fun e m q => I.e ok q) h2
  cases d with
  | zero =>
    exact pe_no call_zero
  | succ d1 =>
    refine PE.imp (?_ : PE X (.Call (.Name (T.df j) p) xs kws pos) (tE W (fCall P ((fns Γ P n).c d1 j) j (evL ((fns Γ P n).e (d1 + 1)) es) (evL ((fns Γ P n).e (d1 + 1)) ks)))) fun σ H Q q => q
    by_cases hD : ∃ fd, P.defs j = some fd
    · obtain ⟨fd, hD⟩ := hD
      have F := I.c j fd hD d1
      cases kws with
      | nil =>
        cases kL
        exact se_call O ok F hF hg hdb aL
      | cons k0 kws =>
        cases xs with
        | nil => cases h3
        | cons x0 xs => exact se_callK O ok F hF hg hdb aL (by simp) kL (by simp) (of_decide_eq_true h3)
    · have z : P.defs j = none := by
        cases q : P.defs j with
        | none => rfl
        | some fd => exact absurd ⟨fd, q⟩ hD
      exact pe_no (fCall_none z)
theorem make_ok {c : Nat} {es ks : List ME} {y : Expr} {xs : List Expr} {kws : List Keyword} {p pos : Pos} (hg : Gl X (T.cl c)) (hdb : (T.cl c == ("__debug__" : Str)) = false)
    (h : callB (mf M X.N k) X.env.scope (y :: xs) kws es ks ((P.init c).map T.KW) = true) : PE X (.Call (.Name (T.cl c) p) (y :: xs) kws pos) (tE W (stepE Γ P (fns Γ P n) d (.make c es ks))) := by
  have I := S n (Nat.le_refl _)
  unfold callB at h
  obtain ⟨h1, h⟩ := and2 h
  obtain ⟨h2, h3⟩ := and2 h
  have aL := argL_of (f := (fns Γ P n).e d) (fun e m q => I.e ok q) h1
  have kL := kwL_of (f := (fns Γ P n).e d) (fun e m q => I.e ok q) h2
  rcases d with _ | _ | d1
  · exact pe_no (make_few (by omega))
  · exact pe_no (make_few (by omega))
  · refine PE.imp (?_ : PE X (.Call (.Name (T.cl c) p) (y :: xs) kws pos) (tE W (fMake P c ((fns Γ P n).c d1) (evL ((fns Γ P n).e (d1 + 1 + 1)) es) (evL ((fns Γ P n).e (d1 + 1 + 1)) ks)))) fun σ H Q q => q
    have F := fun j fd hD => I.c j fd hD d1
    cases kws with
    | nil =>
      cases kL
      exact se_make O ok rfl F hg hdb aL (by simp)
    | cons k0 kws =>
      refine se_makeK (ns := []) O ok rfl F hg hdb aL (by simp) kL (by simp) fun j hj => ?_
      rw [hj] at h3
      exact of_decide_eq_true h3
theorem comp_ok {scope : Scope} {tg it : Expr} {z : Int} {own : List Nat} {g : MG} {mi : MI} (h : compB X.N (mf M X.N k) X.env.scope scope tg it z own g mi = true) :
    z = 0 ∧ CompP W Γ P X n d tg it scope (ownS X.N own) g (iter ((fns Γ P n).e d) mi) := by
  unfold compB at h
  obtain ⟨h1, h⟩ := and2 h
  obtain ⟨h2, h⟩ := and2 h
  obtain ⟨h3, h⟩ := and2 h
  obtain ⟨h4, h⟩ := and2 h
  obtain ⟨h5, h6⟩ := and2 h
  exact ⟨of_decide_eq_true h1, (S n (Nat.le_refl _)).i ok h5, h2, fun k1 hk1 s H C cl fp => (S k1 (Nat.le_of_lt hk1)).g (ok.blk s H scope _ fp) h6, h3, h4⟩
theorem ifs_ok {scope : Scope} {ifs : List Expr} {mt : Option ME} (h : ifsB (mf M X.N k) (relS scope X.env.scope) ifs mt = true) :
    ∀ k1, k1 < n → ∀ (s : Shared) (H : Hp) (C : Addr) (cl : List (Str × Addr)) (fp : List Addr), PTs (X.blk s H scope (compEnvC scope cl C X.env) fp) ifs (tT W (testO (fns Γ P k1) d mt)) := by
  intro k1 hk1 s H C cl fp
  cases ifs with
  | nil => cases mt with
    | none =>
      refine ⟨fun pins s σ H Q I q => pts_nil.run pins s σ H Q I ?_⟩
      obtain ⟨ι, us, h, σ0, R, S, u, h', e, k⟩ := q
      cases e
      exact k ι _ R Ext.refl
    | some m => cases h
  | cons c r => cases r with
    | cons _ _ => cases mt <;> cases h
    | nil => cases mt with
      | none => cases h
      | some m => exact pts_one ((S k1 (Nat.le_of_lt hk1)).t (ok.blk s H scope _ fp) h)
theorem own_map (own : List Nat) : ((ownS X.N own).map (·.2)) = own := by
  unfold ownS
  rw [List.map_map]
  exact List.map_id own
theorem snd_e {e : Expr} {m : ME} (h : (mf M X.N k).e X.env.scope e m = true) : PE X e (tE W ((fns Γ P (n + 1)).e d m)) := by
  cases k with
  | zero => cases h
  | succ k =>
  have I := S n (Nat.le_refl _)
  have ie : ∀ e m, (mf M X.N k).e X.env.scope e m = true → PE X e (tE W ((fns Γ P n).e d m)) := fun e m q => I.e ok q
  have it : ∀ e m, (mf M X.N k).t X.env.scope e m = true → PT X e (tT W ((fns Γ P n).t d m)) := fun e m q => I.t ok q
  show PE X e (tE W (stepE Γ P (fns Γ P n) d m))
  replace h : mfE M X.N (mf M X.N k) X.env.scope e m = true := h
  cases m with
  | no => exact pe_no fun _ _ => rfl
  | var i =>
    cases e with
    | Name x p =>
      obtain ⟨h1, h⟩ := and2 (show (decide (X.N[i]? = some x) && (visB X.env.scope x && nameB x)) = true from h)
      obtain ⟨h2, h3⟩ := and2 h
      obtain ⟨h4, h5⟩ := nameB_ok h3
      exact se_var (pe_var (of_decide_eq_true h1) (visB_ok h2) h4 h5)
    | _ => cases h
  | glo g =>
    cases e with
    | Name x p =>
      obtain ⟨h1, h⟩ := and2 (show (decide (x = M.gl g) && (glB X.env.scope x && nameB x)) = true from h)
      obtain ⟨h2, h3⟩ := and2 h
      obtain ⟨h4, h5⟩ := nameB_ok h3
      have ex := of_decide_eq_true h1
      rw [← A.gl] at ex
      by_cases hD : ∃ u, P.glo g = some u
      · obtain ⟨u, hu⟩ := hD
        obtain ⟨v, val, q1, q2, q3⟩ := O.glo g u hu
        rw [← ex, ← ok.mg] at q1
        have z := se_con (pe_glob (pos := p) (glB_ok h2) q1 q2 h4) q3
        refine PE.imp z fun σ H Q q => ?_
        have e1 : stepE Γ P (fns Γ P n) d (.glo g) = fun us h => some (u, h) := by
          funext us h
          show (match P.glo g with | none => none | some u => some (u, h)) = _
          rw [hu]
        rw [← e1]
        exact q
      · refine pe_no fun us h => ?_
        show (match P.glo g with | none => none | some u => some (u, h)) = none
        cases q : P.glo g with
        | none => rfl
        | some u => exact absurd ⟨u, q⟩ hD
    | _ => cases h
  | int i =>
    cases e with
    | Constant c j p => cases c with
      | int v =>
        have := of_decide_eq_true (show decide (v = i) = true from h)
        subst this
        exact se_con pe_int fun ι n H => .int (.lit v)
      | _ => cases h
    | _ => cases h
  | bl b =>
    cases e with
    | Constant c j p => cases c with
      | bool v =>
        have := of_decide_eq_true (show decide (v = b) = true from h)
        subst this
        exact se_con pe_bl fun ι n H => .bl v
      | _ => cases h
    | _ => cases h
  | non =>
    cases e with
    | Constant c j p => cases c with
      | none => exact se_con pe_non fun ι n H => .non
      | _ => cases h
    | _ => cases h
  | str z =>
    cases e with
    | Constant c j p => cases c with
      | str v =>
        obtain ⟨h1, h2⟩ := and2 (show (decide (v = strV z) && PyData.strOk (strV z)) = true from h)
        have := of_decide_eq_true h1
        subst this
        exact se_con pe_str fun ι n H => .str z h2
      | _ => cases h
    | _ => cases h
  | tup es =>
    cases e with
    | Tuple xs j p => exact se_tup (sa_of (argL_of ie (show mL _ xs es = true from h)))
    | _ => cases h
  | lst es =>
    cases e with
    | List xs p => exact se_lst (sa_of (argL_of ie (show mL _ xs es = true from h)))
    | _ => cases h
  | dnew t =>
    cases e with
    | Dict ks vs p => cases ks with
      | cons _ _ => cases vs <;> cases h
      | nil => cases vs with
        | cons _ _ => cases h
        | nil => cases t with
          | true => exact se_dnewT
          | false => exact se_dnewK
    | _ => cases h
  | bin op a b =>
    cases e with
    | BinOp x o y p =>
      obtain ⟨h1, h⟩ := and2 (show (boS op o && ((mf M X.N k).e X.env.scope x a && (mf M X.N k).e X.env.scope y b)) = true from h)
      obtain ⟨h2, h3⟩ := and2 h
      cases op with
      | add => cases o with
        | Add => exact se_add (Γ := Γ) ok (ie _ _ h2) (ie _ _ h3)
        | _ => cases h1
      | sub => cases o with
        | Sub => exact se_sub (Γ := Γ) (ie _ _ h2) (ie _ _ h3)
        | _ => cases h1
      | mul => cases o with
        | Mult => exact se_mul G (ie _ _ h2) (ie _ _ h3)
        | _ => cases h1
    | _ => cases h
  | neg a =>
    cases e with
    | UnaryOp op x p => cases op with
      | USub => exact se_neg (ie _ _ h)
      | _ => cases h
    | _ => cases h
  | cmp o a b =>
    cases e with
    | Compare x ops cs p =>
      rcases ops with _ | ⟨q, _ | ⟨_, _⟩⟩ <;> rcases cs with _ | ⟨y, _ | ⟨_, _⟩⟩ <;> first | (cases h; done) | skip
      obtain ⟨h1, h⟩ := and2 (show (decide (q = coOp o) && (noSet y && ((mf M X.N k).e X.env.scope x a && (mf M X.N k).e X.env.scope y b))) = true from h)
      obtain ⟨h2, h⟩ := and2 h
      obtain ⟨h3, h4⟩ := and2 h
      have := of_decide_eq_true h1
      subst this
      exact PE.imp (se_co G ok o (ie _ _ h3) (ie _ _ h4) h2) fun σ H Q q => by
        have e1 : stepE Γ P (fns Γ P n) d (.cmp o a b) = f2 (f2b (cmpop Γ o)) ((fns Γ P n).e d a) ((fns Γ P n).e d b) := by
          funext us h
          show (match (fns Γ P n).e d a us h with
            | none => none
            | some (x, h1) => match (fns Γ P n).e d b us h1 with
              | none => none
              | some (y, h2) => match cmpop Γ o x y h2 with
                | none => none
                | some b => some (U.bl b, h2)) = _
          unfold f2 f2b
          rfl
        rw [← e1]
        exact q
    | _ => cases h
  | chain o1 o2 a b c =>
    cases e with
    | Compare x ops cs p =>
      rcases ops with _ | ⟨q, _ | ⟨q2, _ | ⟨_, _⟩⟩⟩ <;> rcases cs with _ | ⟨y, _ | ⟨z, _ | ⟨_, _⟩⟩⟩ <;> first | (cases h; done) | skip
      obtain ⟨h1, h⟩ := and2 (show (decide (q = coOp o1) && (decide (q2 = coOp o2) && (noSet y && (noSet z && ((mf M X.N k).e X.env.scope x a && ((mf M X.N k).e X.env.scope y b && (mf M X.N k).e X.env.scope z c)))))) = true from h)
      obtain ⟨h2, h⟩ := and2 h
      obtain ⟨h3, h⟩ := and2 h
      obtain ⟨h4, h⟩ := and2 h
      obtain ⟨h5, h⟩ := and2 h
      obtain ⟨h6, h7⟩ := and2 h
      have e1 := of_decide_eq_true h1
      have e2 := of_decide_eq_true h2
      subst e1 e2
      exact se_chain G ok o1 o2 (ie _ _ h5) (ie _ _ h6) (ie _ _ h7) h3 h4
    | _ => cases h
  | and es => exact pe_no fun _ _ => rfl
  | or es => exact pe_no fun _ _ => rfl
  | not a => exact pe_no fun _ _ => rfl
  | ite c a b =>
    cases e with
    | IfExp z x y p =>
      obtain ⟨h1, h⟩ := and2 (show ((mf M X.N k).t X.env.scope z c && ((mf M X.N k).e X.env.scope x a && (mf M X.N k).e X.env.scope y b)) = true from h)
      obtain ⟨h2, h3⟩ := and2 h
      exact se_ite (it _ _ h1) (ie _ _ h2) (ie _ _ h3)
    | _ => cases h
  | fld a f =>
    cases e with
    | Attribute x nm p =>
      obtain ⟨h1, h⟩ := and2 (show (decide (nm = M.fld f) && (decide (f < M.nN) && (plainObj x && (mf M X.N k).e X.env.scope x a))) = true from h)
      obtain ⟨h2, h⟩ := and2 h
      obtain ⟨h3, h4⟩ := and2 h
      have e1 := of_decide_eq_true h1
      rw [← A.fld] at e1
      subst e1
      exact se_fld O.nm ok (by rw [A.nN]; exact of_decide_eq_true h2) (ie _ _ h4) h3
    | _ => cases h
  | ix a b =>
    cases e with
    | Subscript x y p =>
      obtain ⟨h1, h⟩ := and2 (show (noSl y && ((mf M X.N k).e X.env.scope x a && (mf M X.N k).e X.env.scope y b)) = true from h)
      obtain ⟨h2, h3⟩ := and2 h
      exact PE.imp (se_ix ok (ie _ _ h2) (ie _ _ h3) h1) fun σ H Q q => by
        have e1 : stepE Γ P (fns Γ P n) d (.ix a b) = f2 fIx ((fns Γ P n).e d a) ((fns Γ P n).e d b) := by
          funext us h
          unfold f2 fIx
          rfl
        rw [← e1]
        exact q
    | _ => cases h
  | sl a lo hi =>
    cases e with
    | Subscript x y p => cases y with
      | Slice l u st p2 => cases st with
        | none =>
          obtain ⟨h1, h⟩ := and2 (show ((mf M X.N k).e X.env.scope x a && (mO ((mf M X.N k).e X.env.scope) l lo && mO ((mf M X.N k).e X.env.scope) u hi)) = true from h)
          obtain ⟨h2, h3⟩ := and2 h
          exact PE.imp (se_sl ok (ie _ _ h1) (so_of (optL_of ie h2)) (so_of (optL_of ie h3))) fun σ H Q q => by
            have e1 : stepE Γ P (fns Γ P n) d (.sl a lo hi) = fSl ((fns Γ P n).e d a) (opE ((fns Γ P n).e d) lo) (opE ((fns Γ P n).e d) hi) := by
              funext us h
              unfold fSl
              rfl
            rw [← e1]
            exact q
        | some _ => cases h
      | _ => cases h
    | _ => cases h
  | rev a =>
    cases e with
    | Subscript x y p => cases y with
      | Slice l u st p2 =>
        cases l with
        | some _ => cases h
        | none => cases u with
          | some _ => cases h
          | none => cases st with
            | none => cases h
            | some s => cases s with
              | UnaryOp op w p3 => cases op with
                | USub => cases w with
                  | Constant c j p4 => cases c with
                    | int i =>
                      obtain ⟨h1, h2⟩ := and2 (show (decide (i = 1) && (mf M X.N k).e X.env.scope x a) = true from h)
                      have e1 := of_decide_eq_true h1
                      subst e1
                      exact se_rev (ie _ _ h2)
                    | _ => cases h
                  | _ => cases h
                | _ => cases h
              | _ => cases h
      | _ => cases h
    | _ => cases h
  | call j es ks =>
    cases e with
    | Call fx xs kws p => cases fx with
      | Name x q =>
        obtain ⟨h1, h⟩ := and2 (show (decide (x = M.df j) && (M.isF j && (glB X.env.scope x && (nameB x && callB (mf M X.N k) X.env.scope xs kws es ks (some (M.KW j)))))) = true from h)
        obtain ⟨h2, h⟩ := and2 h
        obtain ⟨h3, h⟩ := and2 h
        obtain ⟨h4, h5⟩ := and2 h
        have e1 := of_decide_eq_true h1
        rw [← A.df] at e1
        rw [← A.isF] at h2
        rw [← A.KW] at h5
        subst e1
        exact call_ok S O A G ok h2 (glB_ok h3) (nameB_ok h4).1 h5
      | _ => cases h
    | _ => cases h
  | make c es ks =>
    cases e with
    | Call fx xs kws p => cases fx with
      | Name x q => cases xs with
        | nil => cases h
        | cons y xs =>
          obtain ⟨h1, h⟩ := and2 (show (decide (x = M.cl c) && (glB X.env.scope x && (nameB x && callB (mf M X.N k) X.env.scope (y :: xs) kws es ks ((M.ini c).map M.KW)))) = true from h)
          obtain ⟨h3, h⟩ := and2 h
          obtain ⟨h4, h5⟩ := and2 h
          have e1 := of_decide_eq_true h1
          rw [← A.cl] at e1
          rw [← A.KW, ← A.ini] at h5
          subst e1
          exact make_ok S O A G ok (glB_ok h3) (nameB_ok h4).1 h5
      | _ => cases h
    | _ => cases h
  | meth c m o es =>
    cases e with
    | Call fx xs kws p => cases fx with
      | Attribute x nm ap => cases kws with
        | cons _ _ => cases h
        | nil =>
          obtain ⟨h1, h⟩ := and2 (show (decide (nm = M.fld m) && (decide (m < M.nN) && (plainObj x && ((ap.endLine == p.line) && (decide (xs.length < 30) && ((mf M X.N k).e X.env.scope x o && mL ((mf M X.N k).e X.env.scope) xs es)))))) = true from h)
          obtain ⟨h2, h⟩ := and2 h
          obtain ⟨h3, h⟩ := and2 h
          obtain ⟨h4, h⟩ := and2 h
          obtain ⟨h5, h⟩ := and2 h
          obtain ⟨h6, h7⟩ := and2 h
          have e1 := of_decide_eq_true h1
          rw [← A.fld] at e1
          subst e1
          cases d with
          | zero => exact pe_no meth_zero
          | succ d1 =>
            refine PE.imp (se_meth (cx := c) O ok (by rw [A.nN]; exact of_decide_eq_true h2) (cc := (fns Γ P n).c d1) (fun j fd hD => I.c j fd hD d1) (ie _ _ h6) h3 h4 h5 (argL_of ie h7)) fun σ H Q q => q
      | _ => cases kws <;> cases h
    | _ => cases h
  | bm b o es =>
    cases e with
    | Call fx xs kws p => cases fx with
      | Attribute x nm ap => cases kws with
        | cons _ _ => cases h
        | nil =>
          obtain ⟨h1, h⟩ := and2 (show (plainObj x && ((ap.endLine == p.line) && ((mf M X.N k).e X.env.scope x o && bmB ((mf M X.N k).e X.env.scope) nm b xs es))) = true from h)
          obtain ⟨h2, h⟩ := and2 h
          obtain ⟨h3, h⟩ := and2 h
          have fin : ∀ {fs : Env → MH → Option (List U × MH)} {ex : Expr}, PE X ex (tE W (fBm b ((fns Γ P n).e d o) fs)) → fs = evL ((fns Γ P n).e d) es → PE X ex (tE W (stepE Γ P (fns Γ P n) d (.bm b o es))) := fun h0 e0 => PE.imp h0 fun σ H Q q => by
            have e1 : stepE Γ P (fns Γ P n) d (.bm b o es) = fBm b ((fns Γ P n).e d o) (evL ((fns Γ P n).e d) es) := by
              funext us h
              unfold fBm
              rfl
            rw [e0, ← e1]
            exact q
          cases b with
          | append =>
            rcases xs with _ | ⟨y, _ | ⟨_, _⟩⟩ <;> rcases es with _ | ⟨m1, _ | ⟨_, _⟩⟩ <;> first | (cases h; done) | skip
            obtain ⟨g1, h⟩ := and2 (show (decide (nm = ("append" : Str)) && (noStar y && (mf M X.N k).e X.env.scope y m1)) = true from h)
            obtain ⟨g2, g3⟩ := and2 h
            have e1 := of_decide_eq_true g1
            subst e1
            exact fin (se_append (ie _ _ h3) (sa_of (.cons (ie _ _ g3) g2 .nil)) h1 g2 h2) rfl
          | extend =>
            rcases xs with _ | ⟨y, _ | ⟨_, _⟩⟩ <;> rcases es with _ | ⟨m1, _ | ⟨_, _⟩⟩ <;> first | (cases h; done) | skip
            obtain ⟨g1, h⟩ := and2 (show (decide (nm = ("extend" : Str)) && (noStar y && (mf M X.N k).e X.env.scope y m1)) = true from h)
            obtain ⟨g2, g3⟩ := and2 h
            have e1 := of_decide_eq_true g1
            subst e1
            exact fin (se_extend (ie _ _ h3) (sa_of (.cons (ie _ _ g3) g2 .nil)) h1 g2 h2) rfl
          | pop =>
            rcases xs with _ | ⟨y, _⟩ <;> rcases es with _ | ⟨m1, _⟩ <;> first | (cases h; done) | skip
            have e1 := of_decide_eq_true (show decide (nm = ("pop" : Str)) = true from h)
            subst e1
            exact fin (se_pop (ie _ _ h3) h1 h2) rfl
      | _ => cases kws <;> cases h
    | _ => cases h
  | bi b a =>
    cases e with
    | Call fx xs kws p => cases fx with
      | Name x q =>
        rcases xs with _ | ⟨y, _ | ⟨_, _⟩⟩ <;> rcases kws with _ | ⟨_, _⟩ <;> first | (cases h; done) | skip
        obtain ⟨h1, h⟩ := and2 (show (decide (x = biS b) && (glB X.env.scope x && (noStar y && (mf M X.N k).e X.env.scope y a))) = true from h)
        obtain ⟨h2, h⟩ := and2 h
        obtain ⟨h3, h4⟩ := and2 h
        have e1 := of_decide_eq_true h1
        subst e1
        have g := glB_ok h2
        cases b with
        | len => exact se_len ok g A.len (ie _ _ h4) h3
        | int => exact se_int ok g A.int (ie _ _ h4) h3
        | list => exact se_list ok g A.list (ie _ _ h4) h3
        | tuple => exact se_tuple ok g A.tuple (ie _ _ h4) h3
      | _ => rcases xs with _ | ⟨y, _ | ⟨_, _⟩⟩ <;> rcases kws with _ | ⟨_, _⟩ <;> cases h
    | _ => cases h
  | isi a t =>
    cases e with
    | Call fx xs kws p => cases fx with
      | Name x q =>
        rcases xs with _ | ⟨y, _ | ⟨zz, _ | ⟨_, _⟩⟩⟩ <;> rcases kws with _ | ⟨_, _⟩ <;> first | (cases h; done) | skip
        · cases zz with
          | Name z q2 =>
            obtain ⟨h1, h⟩ := and2 (show (decide (x = ("isinstance" : Str)) && (decide (z = Str.ofString (tyS t)) && (glB X.env.scope x && (glB X.env.scope z && (noStar y && (mf M X.N k).e X.env.scope y a))))) = true from h)
            obtain ⟨h2, h⟩ := and2 h
            obtain ⟨h3, h⟩ := and2 h
            obtain ⟨h4, h⟩ := and2 h
            obtain ⟨h5, h6⟩ := and2 h
            have e1 := of_decide_eq_true h1
            have e2 := of_decide_eq_true h2
            subst e1 e2
            have fr : W.mg (Str.ofString (tyS t)) = none := by
              cases t
              · exact A.tuple
              · exact A.list
              · exact A.bool
              · exact A.int
              · exact A.str
            exact se_isi ok (glB_ok h3) A.isi (glB_ok h4) fr (ie _ _ h6) h5
          | _ => cases h
        all_goals (cases zz <;> cases h)
      | _ => rcases xs with _ | ⟨y, _ | ⟨zz, _ | ⟨_, _⟩⟩⟩ <;> rcases kws with _ | ⟨_, _⟩ <;> first | (cases h; done) | (cases zz <;> cases h)
    | _ => cases h
  | gget g a b =>
    cases e with
    | Call fx xs kws p => cases fx with
      | Attribute ox nm ap => cases ox with
        | Name x q =>
          rcases xs with _ | ⟨y, _ | ⟨zz, _ | ⟨_, _⟩⟩⟩ <;> rcases kws with _ | ⟨_, _⟩ <;> first | (cases h; done) | skip
          obtain ⟨h1, h⟩ := and2 (show (decide (x = M.gd g) && (decide (nm = ("get" : Str)) && (glB X.env.scope x && (nameB x && ((ap.endLine == p.line) && (noStar y && (noStar zz && ((mf M X.N k).e X.env.scope y a && (mf M X.N k).e X.env.scope zz b)))))))) = true from h)
          obtain ⟨h2, h⟩ := and2 h
          obtain ⟨h3, h⟩ := and2 h
          obtain ⟨h4, h⟩ := and2 h
          obtain ⟨h5, h⟩ := and2 h
          obtain ⟨h6, h⟩ := and2 h
          obtain ⟨h7, h⟩ := and2 h
          obtain ⟨h8, h9⟩ := and2 h
          have e1 := of_decide_eq_true h1
          have e2 := of_decide_eq_true h2
          rw [← A.gd] at e1
          subst e1 e2
          exact PE.imp (se_gget O ok (glB_ok h3) (nameB_ok h4).1 (ie _ _ h8) (ie _ _ h9) h6 h7 h5) fun σ H Q q => q
        | _ => rcases xs with _ | ⟨y, _ | ⟨zz, _ | ⟨_, _⟩⟩⟩ <;> rcases kws with _ | ⟨_, _⟩ <;> cases h
      | _ => rcases xs with _ | ⟨y, _ | ⟨zz, _ | ⟨_, _⟩⟩⟩ <;> rcases kws with _ | ⟨_, _⟩ <;> cases h
    | _ => cases h
  | lc own g mi t me =>
    cases e with
    | ListComp x gs scope p =>
      rcases gs with _ | ⟨⟨tg, itx, ifs, z⟩, _ | ⟨_, _⟩⟩ <;> first | (cases h; done) | skip
      obtain ⟨h1, h⟩ := and2 (show (compB X.N (mf M X.N k) X.env.scope scope tg itx z own g mi && (ifsB (mf M X.N k) (relS scope X.env.scope) ifs t && (mf M X.N k).e (relS scope X.env.scope) x me)) = true from h)
      obtain ⟨h2, h3⟩ := and2 h
      obtain ⟨rfl, C⟩ := comp_ok S O A G ok h1
      have z := se_lc ok C (ifs_ok S O A G ok h2) (fun k1 hk1 s H C cl fp => (S k1 (Nat.le_of_lt hk1)).e (ok.blk s H scope _ fp) h3) (pos := p)
      rw [own_map S O A G ok own] at z
      exact PE.imp z fun σ H Q q => q
    | _ => cases h
  | dc own g mi mk mv =>
    cases e with
    | DictComp x y gs scope p =>
      rcases gs with _ | ⟨⟨tg, itx, ifs, z⟩, _ | ⟨_, _⟩⟩
      · cases h
      · cases ifs with
        | cons _ _ => cases h
        | nil =>
          obtain ⟨h1, h⟩ := and2 (show (compB X.N (mf M X.N k) X.env.scope scope tg itx z own g mi && ((mf M X.N k).e (relS scope X.env.scope) x mk && (mf M X.N k).e (relS scope X.env.scope) y mv)) = true from h)
          obtain ⟨h2, h3⟩ := and2 h
          obtain ⟨rfl, C⟩ := comp_ok S O A G ok h1
          have z := se_dc ok C (fun k1 hk1 s H C cl fp => (S k1 (Nat.le_of_lt hk1)).e (ok.blk s H scope _ fp) h2) (fun k1 hk1 s H C cl fp => (S k1 (Nat.le_of_lt hk1)).e (ok.blk s H scope _ fp) h3) (pos := p)
          rw [own_map S O A G ok own] at z
          exact PE.imp z fun σ H Q q => q
      · cases ifs <;> cases h
    | _ => cases h
end
end Se
set_option Elab.async false
set_option linter.all false
set_option maxRecDepth 100000
/-! Se over the hand layer: one level more, tests, targets, statements, defs. -/
namespace Se
open PySem PySem.Spec
open PyProof.Rows L2

section
variable {W : Wd} {P : Pg} {T : Tb} {M : Nmz} {Γ : Bd} {n : Nat} (S : ∀ m, m ≤ n → Snd W P T M Γ m) (O : PgOk W P T) (A : Sam W P T M) (G : Γ.ok W.θ) {X : Cx} {d k : Nat} (ok : XOk W d X)
include S O A G ok
theorem snd_g {e : Expr} {g : MG} (h : (mf M X.N k).g X.env.scope e g = true) : PG X e (tG W (gnames g) ((fns Γ P (n + 1)).g d g)) := by
  cases k with
  | zero => cases h
  | succ k =>
  have I := S n (Nat.le_refl _)
  have ie : ∀ e m, (mf M X.N k).e X.env.scope e m = true → PE X e (tE W ((fns Γ P n).e d m)) := fun e m q => I.e ok q
  show PG X e (tG W (gnames g) (stepG P (fns Γ P n) d g))
  replace h : mfG M X.N (mf M X.N k) X.env.scope e g = true := h
  cases g with
  | name i =>
    cases e with
    | Name x p =>
      obtain ⟨h1, h2⟩ := and2 (show (decide (X.N[i]? = some x) && locB X.env.scope x) = true from h)
      exact sg_name (pg_name ok.nd (of_decide_eq_true h1) (.inl (locB_ok h2)) (.inr (locB_ok h2)))
    | _ => cases h
  | fld o f =>
    cases e with
    | Attribute x nm p =>
      obtain ⟨h1, h2⟩ := and2 (show (decide (nm = M.fld f) && (mf M X.N k).e X.env.scope x o) = true from h)
      have e1 := of_decide_eq_true h1
      rw [← A.fld] at e1
      subst e1
      exact sg_fld O.nm ok (ie _ _ h2)
    | _ => cases h
  | sub o i =>
    cases e with
    | Subscript x y p =>
      obtain ⟨h1, h⟩ := and2 (show (noSl y && ((mf M X.N k).e X.env.scope x o && (mf M X.N k).e X.env.scope y i)) = true from h)
      obtain ⟨h2, h3⟩ := and2 h
      exact sg_sub ok (ie _ _ h2) (ie _ _ h3) h1
    | _ => cases h
  | tup gs =>
    cases e with
    | Tuple xs j p => exact sg_tup ok (tgtL_of (fun e m q => I.g ok q) (show mGs _ xs gs = true from h))
    | _ => cases h
theorem snd_i {tg e : Expr} {m : MI} (he : ∀ {k e m}, (mf M X.N k).e X.env.scope e m = true → PE X e (tE W ((fns Γ P (n + 1)).e d m))) (h : (mf M X.N k).i X.env.scope tg e m = true) : PI X tg e (tI W (iter ((fns Γ P (n + 1)).e d) m)) := by
  cases k with
  | zero => cases h
  | succ k =>
  replace h : mfI (mf M X.N k) X.env.scope tg e m = true := h
  cases m with
  | val a => exact si_val ok (he (k := k) (show (mf M X.N k).e X.env.scope e a = true from h))
  | rng a =>
    cases e with
    | Call fx xs kws p => cases fx with
      | Name x q =>
        rcases xs with _ | ⟨y, _ | ⟨_, _⟩⟩ <;> rcases kws with _ | ⟨_, _⟩ <;> first | (cases h; done) | skip
        obtain ⟨h1, h⟩ := and2 (show (decide (x = ("range" : Str)) && (glB X.env.scope x && (noStar y && (mf M X.N k).e X.env.scope y a))) = true from h)
        obtain ⟨h2, h⟩ := and2 h
        obtain ⟨h3, h4⟩ := and2 h
        have e1 := of_decide_eq_true h1
        subst e1
        exact si_rng ok (glB_ok h2) A.range (he h4) h3
      | _ => rcases xs with _ | ⟨y, _ | ⟨_, _⟩⟩ <;> rcases kws with _ | ⟨_, _⟩ <;> cases h
    | _ => cases h
  | enum a =>
    cases e with
    | Call fx xs kws p => cases fx with
      | Name x q =>
        rcases xs with _ | ⟨y, _ | ⟨_, _⟩⟩ <;> rcases kws with _ | ⟨_, _⟩ <;> first | (cases h; done) | skip
        obtain ⟨h0, h⟩ := and2 (show (isTup tg && (decide (x = ("enumerate" : Str)) && (glB X.env.scope x && (noStar y && (mf M X.N k).e X.env.scope y a)))) = true from h)
        obtain ⟨h1, h⟩ := and2 h
        obtain ⟨h2, h⟩ := and2 h
        obtain ⟨h3, h4⟩ := and2 h
        have e1 := of_decide_eq_true h1
        subst e1
        cases tg with
        | Tuple ts j tp => exact si_enum ok (glB_ok h2) A.enum (he h4) h3
        | _ => cases h0
      | _ => rcases xs with _ | ⟨y, _ | ⟨_, _⟩⟩ <;> rcases kws with _ | ⟨_, _⟩ <;> cases h
    | _ => cases h
  | zip a b =>
    cases e with
    | Call fx xs kws p => cases fx with
      | Name x q =>
        rcases xs with _ | ⟨y, _ | ⟨z, _ | ⟨_, _⟩⟩⟩ <;> rcases kws with _ | ⟨_, _⟩ <;> first | (cases h; done) | skip
        obtain ⟨h0, h⟩ := and2 (show (isTup tg && (decide (x = ("zip" : Str)) && (glB X.env.scope x && (noStar y && (noStar z && ((mf M X.N k).e X.env.scope y a && (mf M X.N k).e X.env.scope z b)))))) = true from h)
        obtain ⟨h1, h⟩ := and2 h
        obtain ⟨h2, h⟩ := and2 h
        obtain ⟨h3, h⟩ := and2 h
        obtain ⟨h4, h⟩ := and2 h
        obtain ⟨h5, h6⟩ := and2 h
        have e1 := of_decide_eq_true h1
        subst e1
        cases tg with
        | Tuple ts j tp => exact si_zip ok (glB_ok h2) A.zip (he h5) (he h6) h3 h4
        | _ => cases h0
      | _ => rcases xs with _ | ⟨y, _ | ⟨z, _ | ⟨_, _⟩⟩⟩ <;> rcases kws with _ | ⟨_, _⟩ <;> cases h
    | _ => cases h
/-- a comparison as a test -/
theorem snd_tc {e : Expr} {o : CO} {a b : ME} (h : (mf M X.N k).e X.env.scope e (.cmp o a b) = true) : PT X e (tT W ((fns Γ P (n + 1)).t d (.cmp o a b))) := by
  cases n with
  | zero => exact pt_none fun _ _ => rfl
  | succ n =>
  cases k with
  | zero => cases h
  | succ k =>
  have I := S n (Nat.le_succ _)
  have ie : ∀ e m, (mf M X.N k).e X.env.scope e m = true → PE X e (tE W ((fns Γ P n).e d m)) := fun e m q => I.e ok q
  replace h : mfE M X.N (mf M X.N k) X.env.scope e (.cmp o a b) = true := h
  cases e with
  | Compare x ops cs p =>
    rcases ops with _ | ⟨q, _ | ⟨_, _⟩⟩ <;> rcases cs with _ | ⟨y, _ | ⟨_, _⟩⟩ <;> first | (cases h; done) | skip
    obtain ⟨h1, h⟩ := and2 (show (decide (q = coOp o) && (noSet y && ((mf M X.N k).e X.env.scope x a && (mf M X.N k).e X.env.scope y b))) = true from h)
    obtain ⟨h2, h⟩ := and2 h
    obtain ⟨h3, h4⟩ := and2 h
    have := of_decide_eq_true h1
    subst this
    have c : Cmp2 W (cmpop Γ o) (coR X.K o) := by rw [ok.K]; exact co_cmp G o
    refine PT.imp (tt_cmp (co_opR ok o) c (ie _ _ h3) (ie _ _ h4) (marks_of h2)) fun σ H Q q => ?_
    have e1 : (fns Γ P (n + 1 + 1)).t d (.cmp o a b) = fun us h => match f2 (f2b (cmpop Γ o)) ((fns Γ P n).e d a) ((fns Γ P n).e d b) us h with
      | some (.bl b, h1) => some (b, h1)
      | _ => none := by
      funext us h
      show (match stepE Γ P (fns Γ P n) d (.cmp o a b) us h with
        | some (.bl b, h1) => some (b, h1)
        | _ => none) = _
      have e2 : stepE Γ P (fns Γ P n) d (.cmp o a b) us h = f2 (f2b (cmpop Γ o)) ((fns Γ P n).e d a) ((fns Γ P n).e d b) us h := by
        unfold f2 f2b
        rfl
      rw [e2]
    have z := q
    rw [e1] at z
    exact z
  | _ => cases h
omit S O A ok in
omit G in
theorem chain_t {r : Fns} {o1 o2 : CO} {a b c : ME} (us : Env) (h : MH) : (match stepE Γ P r d (.chain o1 o2 a b c) us h with
      | some (.bl b, h1) => some (b, h1)
      | _ => none) = (match r.e d a us h with
      | none => none
      | some (x, h1) => match r.e d b us h1 with
        | none => none
        | some (y, h2) => match cmpop Γ o1 x y h2 with
          | none => none
          | some false => some (false, h2)
          | some true => match r.e d c us h2 with
            | none => none
            | some (z, h3) => match cmpop Γ o2 y z h3 with
              | none => none
              | some b => some (b, h3)) := by
  have e : stepE Γ P r d (.chain o1 o2 a b c) us h = (match r.e d a us h with
      | none => none
      | some (x, h1) => match r.e d b us h1 with
        | none => none
        | some (y, h2) => match cmpop Γ o1 x y h2 with
          | none => none
          | some false => some (.bl false, h2)
          | some true => match r.e d c us h2 with
            | none => none
            | some (z, h3) => match cmpop Γ o2 y z h3 with
              | none => none
              | some b => some (.bl b, h3)) := rfl
  rw [e]
  cases r.e d a us h with
  | none => rfl
  | some p1 =>
    obtain ⟨x, h1⟩ := p1
    dsimp only
    cases r.e d b us h1 with
    | none => rfl
    | some p2 =>
      obtain ⟨y, h2⟩ := p2
      dsimp only
      cases cmpop Γ o1 x y h2 with
      | none => rfl
      | some b1 => cases b1 with
        | false => rfl
        | true =>
          dsimp only
          cases r.e d c us h2 with
          | none => rfl
          | some p3 =>
            obtain ⟨z, h3⟩ := p3
            dsimp only
            cases cmpop Γ o2 y z h3 <;> rfl
theorem snd_tn {e : Expr} {o1 o2 : CO} {a b c : ME} (h : (mf M X.N k).e X.env.scope e (.chain o1 o2 a b c) = true) : PT X e (tT W ((fns Γ P (n + 1)).t d (.chain o1 o2 a b c))) := by
  cases n with
  | zero => exact pt_none fun _ _ => rfl
  | succ n =>
  cases k with
  | zero => cases h
  | succ k =>
  have I := S n (Nat.le_succ _)
  have ie : ∀ e m, (mf M X.N k).e X.env.scope e m = true → PE X e (tE W ((fns Γ P n).e d m)) := fun e m q => I.e ok q
  replace h : mfE M X.N (mf M X.N k) X.env.scope e (.chain o1 o2 a b c) = true := h
  cases e with
  | Compare x ops cs p =>
    rcases ops with _ | ⟨q, _ | ⟨q2, _ | ⟨_, _⟩⟩⟩ <;> rcases cs with _ | ⟨y, _ | ⟨z, _ | ⟨_, _⟩⟩⟩ <;> first | (cases h; done) | skip
    obtain ⟨h1, h⟩ := and2 (show (decide (q = coOp o1) && (decide (q2 = coOp o2) && (noSet y && (noSet z && ((mf M X.N k).e X.env.scope x a && ((mf M X.N k).e X.env.scope y b && (mf M X.N k).e X.env.scope z c)))))) = true from h)
    obtain ⟨h2, h⟩ := and2 h
    obtain ⟨h3, h⟩ := and2 h
    obtain ⟨h4, h⟩ := and2 h
    obtain ⟨h5, h⟩ := and2 h
    obtain ⟨h6, h7⟩ := and2 h
    have z1 := of_decide_eq_true h1
    have z2 := of_decide_eq_true h2
    subst z1 z2
    have c1 : Cmp2 W (cmpop Γ o1) (coR X.K o1) := by rw [ok.K]; exact co_cmp G o1
    have c2 : Cmp2 W (cmpop Γ o2) (coR X.K o2) := by rw [ok.K]; exact co_cmp G o2
    refine PT.imp (tt_chain (co_opR ok o1) (co_opR ok o2) c1 c2 (ie _ _ h5) (ie _ _ h6) (ie _ _ h7) (marks_of (op := coOp o2) h4)) fun σ H Q q => ?_
    have e1 : (fns Γ P (n + 1 + 1)).t d (.chain o1 o2 a b c) = fun us h => (match (fns Γ P n).e d a us h with
      | none => none
      | some (x, h1) => match (fns Γ P n).e d b us h1 with
        | none => none
        | some (y, h2) => match cmpop Γ o1 x y h2 with
          | none => none
          | some false => some (false, h2)
          | some true => match (fns Γ P n).e d c us h2 with
            | none => none
            | some (z, h3) => match cmpop Γ o2 y z h3 with
              | none => none
              | some b => some (b, h3)) := funext fun us => funext fun h => chain_t (P := P) us h
    have z := q
    rw [e1] at z
    exact z
  | _ => cases h
theorem snd_t {e : Expr} {m : ME} (h : (mf M X.N k).t X.env.scope e m = true) : PT X e (tT W ((fns Γ P (n + 1)).t d m)) := by
  cases k with
  | zero => cases h
  | succ k =>
  have I := S n (Nat.le_refl _)
  have it : ∀ e m, (mf M X.N k).t X.env.scope e m = true → PT X e (tT W ((fns Γ P n).t d m)) := fun e m q => I.t ok q
  have val : ∀ {m : ME}, (plainTest e && (mf M X.N k).e X.env.scope e m) = true → (fns Γ P (n + 1)).t d m = (fun us h => match (fns Γ P n).e d m us h with
      | some (.bl b, h1) => some (b, h1)
      | _ => none) → PT X e (tT W ((fns Γ P (n + 1)).t d m)) := fun {m} q e1 => by
    obtain ⟨h1, h2⟩ := and2 q
    rw [e1]
    exact tt_val (I.e ok h2) h1
  replace h : mfT (mf M X.N k) X.env.scope e m = true := h
  cases m with
  | and es =>
    cases e with
    | BoolOp op xs p => cases op with
      | And => exact (tw_and (testL_of it h)).pt
      | Or => cases h
    | _ => cases h
  | or es =>
    cases e with
    | BoolOp op xs p => cases op with
      | Or => exact (tw_or (testL_of it h)).pt
      | And => cases h
    | _ => cases h
  | not a =>
    cases e with
    | UnaryOp op x p => cases op with
      | Not => exact tt_not (it _ _ h)
      | _ => cases h
    | _ => cases h
  | cmp o a b => exact snd_tc S O A G ok h
  | chain o1 o2 a b c => exact snd_tn S O A G ok h
  | _ => exact val h rfl
end
end Se
set_option Elab.async false
set_option linter.all false
set_option maxRecDepth 100000
/-! Se over the hand layer: one level more, statements, defs; all levels. -/
namespace Se
open PySem PySem.Spec
open PyProof.Rows L2

/-! ### several names at once -/
theorem blockF {env : PySem.Env} (hk : env.scope.kind = .function) : env.blockKind = .function := by
  unfold PySem.Env.blockKind
  rw [hk]
  rfl
theorem noStarred {vs : List Expr} (hs : vs.all noStar = true) : (vs.any fun | .Starred .. => true | _ => false) = false := by
  rw [List.any_eq_false]
  intro v hv' q
  have := List.all_eq_true.mp hs v hv'
  cases v <;> first | (cases q; done) | (cases this; done)
theorem swapped2 {env : PySem.Env} (hk : env.scope.kind = .function) {x y : Str} {px py pt pt2 : Pos} {kt k2 : Nat} {a b : Expr} (hx : env.scope.names.lookup x = some .local) (hy : env.scope.names.lookup y = some .local) (hl : py.line = px.line) (hn : x ≠ y)
    (hs : [a, b].all noStar = true) (hf : [a, b].all (foldedForSure 8) = false) (hc : [a, b].all (constantsAlone 8) = false) : swappedStores [.Tuple [.Name x px, .Name y py] kt pt] (.Tuple [a, b] k2 pt2) env = pure (some [x, y]) := by
  have gx : env.kindOf x = some .local := hx
  have gy : env.kindOf y = some .local := hy
  have st := noStarred hs
  have hyx : (y == x) = false := by simpa using fun z : y = x => hn z.symm
  have ed : ([x, y] : List Str).eraseDups.length = 2 := by
    simp [List.eraseDups, List.eraseDupsBy, List.eraseDupsBy.loop, hyx, hn, Ne.symm hn]
  unfold swappedStores
  simp only [pure_bind, List.length_cons, List.length_nil, blockF hk, st, hf, hc, List.head?_cons, Option.map_some, Option.getD_some, List.filterMap_cons, List.filterMap_nil, gx, gy, Expr.pos, hl, beq_self_eq_true, Bool.and_self, if_true, ed]
  simp [ed]
  intro q
  rcases q with q | q
  · have g := List.all_eq_true.mp hs a (by simp)
    cases a <;> first | (cases q; done) | (cases g; done)
  · have g := List.all_eq_true.mp hs b (by simp)
    cases b <;> first | (cases q; done) | (cases g; done)
theorem swapped3 {env : PySem.Env} (hk : env.scope.kind = .function) {x y z : Str} {px py pz pt pt2 : Pos} {kt k2 : Nat} {a b c : Expr} (hx : env.scope.names.lookup x = some .local) (hy : env.scope.names.lookup y = some .local) (hz : env.scope.names.lookup z = some .local) (hl : py.line = px.line) (hl2 : pz.line = px.line) (hn : x ≠ y) (hn2 : x ≠ z) (hn3 : y ≠ z)
    (hs : [a, b, c].all noStar = true) (hf : [a, b, c].all (foldedForSure 8) = false) (hc : [a, b, c].all (constantsAlone 8) = false) : swappedStores [.Tuple [.Name x px, .Name y py, .Name z pz] kt pt] (.Tuple [a, b, c] k2 pt2) env = pure (some [x, y, z]) := by
  have gx : env.kindOf x = some .local := hx
  have gy : env.kindOf y = some .local := hy
  have gz : env.kindOf z = some .local := hz
  have st := noStarred hs
  have g1 : (y == x) = false := by simpa using fun q : y = x => hn q.symm
  have g2 : (z == x) = false := by simpa using fun q : z = x => hn2 q.symm
  have g3 : (z == y) = false := by simpa using fun q : z = y => hn3 q.symm
  have ed : ([x, y, z] : List Str).eraseDups.length = 3 := by
    simp [List.eraseDups, List.eraseDupsBy, List.eraseDupsBy.loop, g1, g2, g3]
  unfold swappedStores
  simp only [pure_bind, List.length_cons, List.length_nil, blockF hk, st, hf, hc, List.head?_cons, Option.map_some, Option.getD_some, List.filterMap_cons, List.filterMap_nil, gx, gy, gz, Expr.pos, hl, hl2, beq_self_eq_true, Bool.and_self, if_true, ed]
  simp [ed]
  intro q
  rcases q with q | q | q
  · have g := List.all_eq_true.mp hs a (by simp)
    cases a <;> first | (cases q; done) | (cases g; done)
  · have g := List.all_eq_true.mp hs b (by simp)
    cases b <;> first | (cases q; done) | (cases g; done)
  · have g := List.all_eq_true.mp hs c (by simp)
    cases c <;> first | (cases q; done) | (cases g; done)

theorem kindF_ok {sc : Scope} (h : kindF sc = true) : sc.kind = .function := by
  unfold kindF at h
  split at h
  · assumption
  · cases h
theorem nb_ok {b : Bool} (h : (!b) = true) : b = false := by
  cases b with
  | true => cases h
  | false => rfl
theorem sw_attr {v o : Expr} {f : Str} {p : Pos} {l : Nat} {env : PySem.Env} : swapsWith v (some (.Attribute o f p)) l env = pure false := by
  cases v <;> rfl
section
variable {W : Wd} {P : Pg} {T : Tb} {M : Nmz} {Γ : Bd} {n : Nat} (S : ∀ m, m ≤ n → Snd W P T M Γ m) (O : PgOk W P T) (A : Sam W P T M) (G : Γ.ok W.θ) {X : Cx} {d k : Nat} (ok : XOk W d X)
include S O A G ok
theorem par_ok {is : List Nat} {es : List ME} {ts vs : List Expr} {kt k2 : Nat} {pt pt2 pos : Pos}
    (h : (kindF X.env.scope && (parB X.N X.env.scope ts vs is && (!(vs.all (foldedForSure 8)) && (!(vs.all (constantsAlone 8)) && mL ((mf M X.N k).e X.env.scope) vs es)))) = true) :
    PS X (.Assign [.Tuple ts kt pt] (.Tuple vs k2 pt2) pos) (tS W (stepS P (fns Γ P n) d (.par is es))) := by
  have I := S n (Nat.le_refl _)
  obtain ⟨h1, h⟩ := and2 h
  obtain ⟨h2, h⟩ := and2 h
  obtain ⟨h3, h⟩ := and2 h
  obtain ⟨h4, h5⟩ := and2 h
  have kf := kindF_ok h1
  have f3 := nb_ok h3
  have f4 := nb_ok h4
  have aL := argL_of (f := (fns Γ P n).e d) (fun e m q => I.e ok q) h5
  have hs := aL.stars
  unfold parB at h2
  split at h2
  · rename_i x p y q a b i j
    obtain ⟨g1, h2⟩ := and2 h2
    obtain ⟨g2, h2⟩ := and2 h2
    obtain ⟨g3, h2⟩ := and2 h2
    obtain ⟨g4, h2⟩ := and2 h2
    obtain ⟨g5, h2⟩ := and2 h2
    obtain ⟨g6, g7⟩ := and2 h2
    have lx := locB_ok g3
    have ly := locB_ok g4
    exact ss_par2 (sa_of aL) fun ta pa => ps_par ok.calm ok.nd (of_decide_eq_true g1) (of_decide_eq_true g2) (of_decide_eq_true g7) lx ly pa (swapped2 kf lx ly (of_decide_eq_true g5) (of_decide_eq_true g6) hs f3 f4)
  · rename_i x p y q z t a b c i j l
    obtain ⟨g1, h2⟩ := and2 h2
    obtain ⟨g2, h2⟩ := and2 h2
    obtain ⟨g0, h2⟩ := and2 h2
    obtain ⟨g3, h2⟩ := and2 h2
    obtain ⟨g4, h2⟩ := and2 h2
    obtain ⟨g8, h2⟩ := and2 h2
    obtain ⟨g5, h2⟩ := and2 h2
    obtain ⟨g9, h2⟩ := and2 h2
    obtain ⟨g6, g7⟩ := and2 h2
    have lx := locB_ok g3
    have ly := locB_ok g4
    have lz := locB_ok g8
    obtain ⟨n1, n2, n3⟩ := of_decide_eq_true g6
    obtain ⟨m1, m2, m3⟩ := of_decide_eq_true g7
    exact ss_par3 (sa_of aL) fun ta pa => ps_par3 ok.calm ok.nd (of_decide_eq_true g1) (of_decide_eq_true g2) (of_decide_eq_true g0) m1 m2 m3 lx ly lz pa (swapped3 kf lx ly lz (of_decide_eq_true g5) (of_decide_eq_true g9) n1 n2 n3 hs f3 f4)
  · cases h2
theorem snd_s {st : Stmt} {m : MS} (h : (mf M X.N k).s X.env.scope st m = true) : PS X st (tS W ((fns Γ P (n + 1)).s d m)) := by
  cases k with
  | zero => cases h
  | succ k =>
  have I := S n (Nat.le_refl _)
  have ie : ∀ e m, (mf M X.N k).e X.env.scope e m = true → PE X e (tE W ((fns Γ P n).e d m)) := fun e m q => I.e ok q
  have it : ∀ e m, (mf M X.N k).t X.env.scope e m = true → PT X e (tT W ((fns Γ P n).t d m)) := fun e m q => I.t ok q
  have ig : ∀ e m, (mf M X.N k).g X.env.scope e m = true → PG X e (tG W (gnames m) ((fns Γ P n).g d m)) := fun e m q => I.g ok q
  have is' : ∀ e m, (mf M X.N k).s X.env.scope e m = true → PS X e (tS W ((fns Γ P n).s d m)) := fun e m q => I.s ok q
  have attr : ∀ {g : MG} {a : ME} {v o : Expr} {f : Str} {ap p : Pos}, ((mf M X.N k).g X.env.scope (.Attribute o f ap) g && (mf M X.N k).e X.env.scope v a) = true → PS X (.Assign [.Attribute o f ap] v p) (tS W (stepS P (fns Γ P n) d (.asg g a))) := fun {g a v o f ap p} q => by
    obtain ⟨q1, q2⟩ := and2 q
    exact ss_asg (ie _ _ q2) (ig _ _ q1) sw_attr (ss_of2 rfl v X.env) rfl
  show PS X st (tS W (stepS P (fns Γ P n) d m))
  replace h : mfS M X.N (mf M X.N k) X.env.scope st m = true := h
  cases m with
  | no => exact ss_no fun _ _ => rfl
  | exp a =>
    cases st with
    | Expr x p =>
      obtain ⟨h1, h2⟩ := and2 (show (noComp x && (mf M X.N k).e X.env.scope x a) = true from h)
      exact ss_exp (ie _ _ h2) h1
    | _ => cases h
  | asg g a =>
    cases st with
    | Assign tgs v p =>
      rcases tgs with _ | ⟨tg, _ | ⟨_, _⟩⟩ <;> first | (cases h; done) | skip
      have plain : (noComp v && (noStar tg && ((noTup v || noTL tg) && ((mf M X.N k).g X.env.scope tg g && (mf M X.N k).e X.env.scope v a)))) = true → PS X (.Assign [tg] v p) (tS W (stepS P (fns Γ P n) d (.asg g a))) := fun q => by
        obtain ⟨q1, q⟩ := and2 q
        obtain ⟨q2, q⟩ := and2 q
        obtain ⟨q3, q⟩ := and2 q
        obtain ⟨q4, q5⟩ := and2 q
        have w : swappedStores [tg] v X.env = pure none := by
          cases z : noTup v with
          | true => exact ss_of z [tg] X.env
          | false =>
            rw [z] at q3
            exact ss_of2 q3 v X.env
        exact ss_asg (ie _ _ q5) (ig _ _ q4) (sw_of q1 _ _ _) w q2
      cases v with
      | ListComp x gs scope vp =>
        rcases gs with _ | ⟨⟨ct, itx, ifs, z⟩, _ | ⟨_, _⟩⟩ <;> first | (cases h; done) | skip
        cases tg with
        | Attribute o f ap => exact attr h
        | Name y py =>
          cases g with
          | name i => cases a with
            | lc own cg mi t me =>
              obtain ⟨h0, h⟩ := and2 (show (asgC X.N X.env.scope scope i y py vp && (compB X.N (mf M X.N k) X.env.scope scope ct itx z own cg mi && (ifsB (mf M X.N k) (relS scope X.env.scope) ifs t && (mf M X.N k).e (relS scope X.env.scope) x me))) = true from h)
              obtain ⟨h1, h⟩ := and2 h
              obtain ⟨h2, h3⟩ := and2 h
              cases n with
              | zero => exact ss_no fun _ _ => rfl
              | succ n =>
                have S' : ∀ m, m ≤ n → Snd W P T M Γ m := fun m hm => S m (Nat.le_succ_of_le hm)
                obtain ⟨rfl, C⟩ := comp_ok S' O A G ok h1
                have z := ss_setLc ok h0 C (ifs_ok S' O A G ok h2) (fun k1 hk1 s H C cl fp => (S' k1 (Nat.le_of_lt hk1)).e (ok.blk s H scope _ fp) h3) (spos := p)
                rw [own_map S' O A G ok own] at z
                exact PS.imp z fun D σ H q => q
            | _ => cases h
          | _ => cases a <;> cases h
        | _ => cases h
      | DictComp x w gs scope vp =>
        rcases gs with _ | ⟨⟨ct, itx, ifs, z⟩, _ | ⟨_, _⟩⟩ <;> first | (cases h; done) | (cases ifs <;> cases h; done) | skip
        cases ifs with
        | cons _ _ => cases h
        | nil =>
          cases tg with
          | Attribute o f ap => exact attr h
          | Name y py =>
            cases g with
            | name i => cases a with
              | dc own cg mi mk mv =>
                obtain ⟨h0, h⟩ := and2 (show (asgC X.N X.env.scope scope i y py vp && (compB X.N (mf M X.N k) X.env.scope scope ct itx z own cg mi && ((mf M X.N k).e (relS scope X.env.scope) x mk && (mf M X.N k).e (relS scope X.env.scope) w mv))) = true from h)
                obtain ⟨h1, h⟩ := and2 h
                obtain ⟨h2, h3⟩ := and2 h
                cases n with
                | zero => exact ss_no fun _ _ => rfl
                | succ n =>
                  have S' : ∀ m, m ≤ n → Snd W P T M Γ m := fun m hm => S m (Nat.le_succ_of_le hm)
                  obtain ⟨rfl, C⟩ := comp_ok S' O A G ok h1
                  have z := ss_setDc ok h0 C (fun k1 hk1 s H C cl fp => (S' k1 (Nat.le_of_lt hk1)).e (ok.blk s H scope _ fp) h2) (fun k1 hk1 s H C cl fp => (S' k1 (Nat.le_of_lt hk1)).e (ok.blk s H scope _ fp) h3) (spos := p)
                  rw [own_map S' O A G ok own] at z
                  exact PS.imp z fun D σ H q => q
              | _ => cases h
            | _ => cases a <;> cases h
          | _ => cases h
      | _ => exact plain h
    | _ => cases h
  | par is es =>
    cases st with
    | Assign tgs v p =>
      rcases tgs with _ | ⟨tg, _ | ⟨_, _⟩⟩ <;> first | (cases h; done) | (cases v <;> cases h; done) | skip
      · cases tg with
        | Tuple ts kt pt => cases v with
          | Tuple vs k2 pt2 => exact par_ok S O A G ok h
          | _ => cases h
        | _ => cases v <;> cases h
      all_goals (cases tg <;> cases v <;> cases h)
    | _ => cases h
  | augF o f op a =>
    cases st with
    | AugAssign tg q y p => cases tg with
      | Attribute x nm ap =>
        obtain ⟨h1, h⟩ := and2 (show (decide (nm = M.fld f) && (decide (f < M.nN) && (decide (q = boOp op) && ((mf M X.N k).e X.env.scope x o && (mf M X.N k).e X.env.scope y a)))) = true from h)
        obtain ⟨h2, h⟩ := and2 h
        obtain ⟨h3, h⟩ := and2 h
        obtain ⟨h4, h5⟩ := and2 h
        have e1 := of_decide_eq_true h1
        have e2 := of_decide_eq_true h3
        rw [← A.fld] at e1
        subst e1 e2
        exact ss_augF O.nm ok (by rw [A.nN]; exact of_decide_eq_true h2) (ie _ _ h4) (ie _ _ h5)
      | _ => cases h
    | _ => cases h
  | augN i op a => cases h
  | ite c a b =>
    cases st with
    | If x s t p =>
      obtain ⟨h1, h⟩ := and2 (show ((mf M X.N k).t X.env.scope x c && (mSs ((mf M X.N k).s X.env.scope) s a && mSs ((mf M X.N k).s X.env.scope) t b)) = true from h)
      obtain ⟨h2, h3⟩ := and2 h
      exact ss_ite (it _ _ h1) (sb_of (blkL_of is' h2)) (sb_of (blkL_of is' h3))
    | _ => cases h
  | whil c b =>
    cases st with
    | While x s t p => cases t with
      | cons _ _ => cases h
      | nil =>
        obtain ⟨h1, h2⟩ := and2 (show ((mf M X.N k).t X.env.scope x c && mSs ((mf M X.N k).s X.env.scope) s b) = true from h)
        exact ss_while ok (fun k1 hk1 => (S k1 (Nat.le_of_lt hk1)).t ok h1) (fun k1 hk1 => sb_of (blkL_of (fun e m q => (S k1 (Nat.le_of_lt hk1)).s ok q) h2))
    | _ => cases h
  | for_ g mi b =>
    cases st with
    | For tg itx s t p => cases t with
      | cons _ _ => cases h
      | nil =>
        obtain ⟨h1, h⟩ := and2 (show (noSet itx && ((mf M X.N k).i X.env.scope tg itx mi && ((mf M X.N k).g X.env.scope tg g && mSs ((mf M X.N k).s X.env.scope) s b))) = true from h)
        obtain ⟨h2, h⟩ := and2 h
        obtain ⟨h3, h4⟩ := and2 h
        exact ss_for ok (I.i ok h2) (fun k1 hk1 => (S k1 (Nat.le_of_lt hk1)).g ok h3) (fun k1 hk1 => sb_of (blkL_of (fun e m q => (S k1 (Nat.le_of_lt hk1)).s ok q) h4)) h1
    | _ => cases h
  | ret a =>
    cases st with
    | Return v p => cases v with
      | some x => exact ss_ret (ie _ _ h)
      | none => cases h
    | _ => cases h
  | retN =>
    cases st with
    | Return v p => cases v with
      | none => exact ss_retN
      | some x => cases h
    | _ => cases h
  | pass =>
    cases st with
    | Pass p => exact ss_pass
    | _ => cases h
end
end Se
set_option Elab.async false
set_option linter.all false
set_option maxRecDepth 100000
/-! Se over the hand layer: defs, all levels. -/
namespace Se
open PySem PySem.Spec
open PyProof.Rows L2

theorem blank_len : ∀ n, (blank n).length = n
  | 0 => rfl
  | n + 1 => congrArg Nat.succ (blank_len n)
theorem enter_len : ∀ (n : Nat) (xs : List U), (enter n xs).length = n
  | n, [] => by cases n <;> exact blank_len _
  | 0, _ :: _ => rfl
  | n + 1, _ :: xs => congrArg Nat.succ (enter_len n xs)
theorem getV_blank : ∀ (n i : Nat), getV (blank n) i = none
  | 0, _ => rfl
  | n + 1, 0 => rfl
  | n + 1, i + 1 => getV_blank n i
theorem getV_enter : ∀ {n : Nat} {xs : List U} {i : Nat} {u : U}, getV (enter n xs) i = some u → nth xs i = some u
  | n, [], i, u, e => by
    have z : getV (blank n) i = some u := by cases n <;> exact e
    rw [getV_blank] at z
    cases z
  | 0, _ :: _, _, _, e => nomatch e
  | n + 1, x :: xs, 0, u, e => e
  | n + 1, x :: xs, i + 1, u, e => getV_enter (n := n) (xs := xs) (i := i) e
theorem rs_start {W : Wd} {ι : Nat → Addr} {n : Nat} {H : Hp} {N : List Str} {xs : List U} {vs : List V} (r : RUs W ι n H xs vs) (hl : vs.length ≤ N.length) : RS W ι n H (L2.start N vs) (enter N.length xs) (L2.start N vs) where
  len := by
    rw [enter_len]
    unfold L2.start
    simp
    omega
  len0 := rfl
  some_ := fun i u e => by
    obtain ⟨v, h1, h2⟩ := r.nth (getV_enter e)
    refine ⟨v, ?_, h2⟩
    unfold L2.start
    have hi : i < (vs.map some).length := by
      rw [List.length_map]
      exact (List.getElem?_eq_some_iff.mp h1).1
    rw [List.getElem?_append_left hi, List.getElem?_map, h1]
    rfl
  none_ := fun _ _ => rfl
/-- a def's text and its small tree -/
structure DefT (W : Wd) (T : Tb) (M : Nmz) (j : Nat) (fd : FD) : Prop where
  ex : ∃ (x qual : Str) (params : Arguments) (body : List Stmt) (scope : Scope) (kws : List (Str × V)) (N : List Str) (kk : Nat), FunD W.K x qual params body scope [] kws (T.FA j) (T.FT j) ∧ FnScope N (T.PS j) scope ∧ N.length = fd.nl ∧ mSs ((mf M N kk).s scope) body fd.body = true
section
variable {W : Wd} {P : Pg} {T : Tb} {M : Nmz} {Γ : Bd} {n : Nat}
theorem snd_c (S : Snd W P T M Γ n) (O : PgOk W P T) (D : ∀ j fd, P.defs j = some fd → DefT W T M j fd) {j : Nat} {fd : FD} (hj : P.defs j = some fd) (d : Nat) : FnOk W.prog W.w W.K W.mg W.base CX0 (d + 1) (T.FA j) (T.FT j) (T.PS j) (spC W ((fns Γ P (n + 1)).c d j)) := by
  obtain ⟨x, qual, params, body, scope, kws, N, kk, F, SC, nl, hm⟩ := (D j fd hj).ex
  have hstep : ∀ xs h, (fns Γ P (n + 1)).c d j xs h = match Nat.beq xs.length fd.np with
      | false => none
      | true => match evSs ((fns Γ P n).s d) fd.body (enter fd.nl xs) h with
        | none => none
        | some (.nx, _, h1) => some (.non, h1)
        | some (.ret u, _, h1) => some (u, h1) := fun xs h => by
    show stepC P (fns Γ P n) d j xs h = _
    unfold stepC
    rw [hj]
    all_goals rfl
  have len : ∀ vs H Q E, spC W ((fns Γ P (n + 1)).c d j) vs H Q E → vs.length = (T.PS j).length := fun vs H Q E ⟨ι, xs, h, R, r, u, h', e, k⟩ => by
    rw [hstep] at e
    cases q : Nat.beq xs.length fd.np with
    | false => rw [q] at e; cases e
    | true => rw [← r.len, (O.df j fd hj).len, Nat.eq_of_beq_eq_true q]
  refine F.ok SC len fun cdv A outer s H vs Q E hr h => ?_
  have hlv := len vs H Q E h
  obtain ⟨ι, xs, hh, R, r, u, h', e, k⟩ := h
  have ok : XOk W d (cxOf CX0 W.prog W.w W.K W.mg W.base N qual scope (T.FA j) cdv A outer s H E).nox := ⟨rfl, rfl, rfl, rfl, rfl, rfl, rfl, SC.nd, hr⟩
  have pss := sb_of (X := (cxOf CX0 W.prog W.w W.K W.mg W.base N qual scope (T.FA j) cdv A outer s H E).nox) (blkL_of (f := (fns Γ P n).s d) (r := (mf M N kk).s scope) (fun e m q => S.s (k := kk) ok q) hm)
  refine ⟨_, pss.nox, ?_⟩
  rw [hstep] at e
  cases q : Nat.beq xs.length fd.np with
  | false => rw [q] at e; cases e
  | true =>
    simp only [q] at e
    have hN : vs.length ≤ N.length := by
      rw [hlv]
      have z := congrArg List.length SC.pre
      rw [List.length_take] at z
      omega
    have RS0 := rs_start r hN
    rw [nl] at RS0
    cases q2 : evSs ((fns Γ P n).s d) fd.body (enter fd.nl xs) hh with
    | none => simp only [q2] at e; cases e
    | some p2 =>
      obtain ⟨fl, us2, h2⟩ := p2
      refine ⟨ι, _, hh, _, R, RS0, fl, us2, h2, q2, fun ι' σ' H' R' X' S' => ?_⟩
      cases fl with
      | nx =>
        simp only [q2] at e
        cases e
        exact k ι' .non H' R' X' .non
      | ret u0 =>
        simp only [q2] at e
        cases e
        exact fun v rv => k ι' v H' R' X' rv
theorem snd_all (O : PgOk W P T) (A : Sam W P T M) (G : Γ.ok W.θ) (D : ∀ j fd, P.defs j = some fd → DefT W T M j fd) : ∀ n m, m ≤ n → Snd W P T M Γ m
  | 0, m, h => by
    have : m = 0 := Nat.le_zero.mp h
    subst this
    exact snd_zero O
  | n + 1, m, h => by
    have S := snd_all O A G D n
    rcases Nat.lt_or_ge m (n + 1) with q | q
    · exact S m (Nat.le_of_lt_succ q)
    · have : m = n + 1 := Nat.le_antisymm h q
      subst this
      exact ⟨fun j fd hj d => snd_c (S n (Nat.le_refl _)) O D hj d, fun ok h => snd_e S O A G ok h, fun ok h => snd_t S O A G ok h, fun ok h => snd_g S O A G ok h, fun ok h => snd_i S O A G ok (fun h => snd_e S O A G ok h) h, fun ok h => snd_s S O A G ok h⟩
end
end Se
set_option linter.all false
set_option maxRecDepth 20000
/-! k88: the small trees, the names. Printed by gen88m.py. -/
namespace Se.K88
open PySem
/-- attribute and method names -/
def names : List Str := ((["which", "cells", "born", "pile", "goes_on", "called_at", "numbers", "parts", "table", "begins", "kept", "under_way", "at", "left", "words", "ending", "calls", "go_on", "do", "fault", "where", "call", "give", "reckon", "outcome", "next", "said", "shape", "first", "runner", "done", "marks", "step", "all_born", "go_while", "frames", "frame", "seen", "lasting"] : List String).map Str.ofString)
/-- shown -/
def d1 : FD := ⟨2, 0, [], 2, [(.ret (.ite (.cmp .eq (.var 0) (.str [121,101,115])) (.cmp .eq (.var 1) (.int 1)) (.var 1)))]⟩
/-- Frame.__init__ -/
def d2 : FD := ⟨6, 3, [(.int (.lit (0))), .non, .non], 6, [(.asg (.fld (.var 0) 0) (.var 1)), (.asg (.fld (.var 0) 1) (.var 2)), (.asg (.fld (.var 0) 2) (.var 3)), (.asg (.fld (.var 0) 3) (.lst [])), (.asg (.fld (.var 0) 4) (.var 4)), (.asg (.fld (.var 0) 5) (.var 5))]⟩
/-- reckoned -/
def d3 : FD := ⟨3, 0, [], 4, [(.ite (.cmp .in_ (.var 0) (.tup [(.str [111,118,101,114]), (.str [114,101,115,116])])) [(.ite (.cmp .eq (.var 2) (.int 0)) [(.ret (.tup [(.int 0), (.str [110,111,117,103,104,116])]))] []), (.ret (.tup [(.ite (.cmp .eq (.var 0) (.str [111,118,101,114])) .no .no), (.str [])]))] []), (.ite (.cmp .in_ (.var 0) (.tup [(.str [108,101,115,115]), (.str [115,97,109,101])])) [(.ret (.tup [(.bi .int (.ite (.cmp .eq (.var 0) (.str [108,101,115,115])) (.cmp .lt (.var 1) (.var 2)) (.cmp .eq (.var 1) (.var 2)))), (.str [])]))] []), (.asg (.name 3) (.ite (.cmp .eq (.var 0) (.str [116,105,109,101,115])) (.bin .mul (.var 1) (.var 2)) (.ite (.cmp .eq (.var 0) (.str [97,100,100])) (.bin .add (.var 1) (.var 2)) (.bin .sub (.var 1) (.var 2))))), (.ret (.tup [(.var 3), (.ite (.chain .le .le (.bin .sub (.int 0) (.glo 6)) (.var 3) (.glo 6)) (.str []) (.str [103,114,101,97,116]))]))]⟩
/-- Runner.__init__ -/
def d4 : FD := ⟨5, 1, [(.int (.lit (2000)))], 11, [(.asg (.tup [(.fld (.var 0) 6), (.name 6), (.fld (.var 0) 7), (.name 7)]) (.sl (.var 1) none (some (.int 4)))), (.asg (.name 5) (.lc [10, 8] (.tup [(.name 10), (.name 8)]) (.enum (.fld (.var 0) 7)) (some (.and [(.cmp .eq (.sl (.var 8) none (some (.int 2))) (.tup [(.var 2), (.var 3)])), (.ix (.var 8) (.int 6)), (.cmp .eq (.ix (.var 8) (.int 4)) (.tup []))])) (.var 10))), (.ite (.cmp .eq (.var 5) (.lst [])) [.no] []), (.ite (.or [(.not (.isi (.var 4) .int)), (.isi (.var 4) .bool), (.not (.chain .le .le (.int 0) (.var 4) (.glo 4)))]) [.no] []), (.asg (.fld (.var 0) 8) (.dc [8] (.name 8) (.val (.var 6)) (.ix (.var 8) (.int 0)) (.sl (.var 8) (some (.int 1)) none))), (.asg (.fld (.var 0) 9) (.dc [10, 8] (.tup [(.name 10), (.name 8)]) (.enum (.fld (.var 0) 7)) (.ix (.var 8) (.int 2)) (.var 10))), (.asg (.fld (.var 0) 10) (.lc [9] (.name 9) (.val (.var 7)) none (.ix (.var 9) (.int 3)))), (.asg (.fld (.var 0) 11) (.lst [(.make 0 [(.ix (.var 5) (.int 0)), (.dnew false)] [])])), (.asg (.fld (.var 0) 12) (.ix (.ix (.fld (.var 0) 7) (.ix (.var 5) (.int 0))) (.int 2))), (.asg (.fld (.var 0) 13) (.var 4)), (.asg (.fld (.var 0) 14) (.lst [])), (.asg (.fld (.var 0) 15) .non), (.asg (.fld (.var 0) 16) (.int 0)), (.exp (.meth 1 17 (.var 0) []))]⟩
/-- Runner.go_on -/
def d5 : FD := ⟨1, 0, [], 1, [(.whil (.and [(.cmp .isN (.fld (.var 0) 15) .non), (.cmp .ne (.ix (.fld (.var 0) 6) (.fld (.var 0) 12)) (.glo 1))]) [(.exp (.meth 1 18 (.var 0) []))]), (.ite (.and [(.cmp .isN (.fld (.var 0) 15) .non), (.cmp .eq (.fld (.var 0) 13) (.int 0))]) [(.exp (.meth 1 19 (.var 0) [(.str [116,105,114,101,100])]))] [])]⟩
/-- Runner.next -/
def d6 : FD := ⟨1, 0, [], 1, [(.ite (.cmp .notN (.fld (.var 0) 15) .non) [.no] []), (.augF (.var 0) 13 .sub (.int 1)), (.augF (.var 0) 12 .add (.int 1)), (.exp (.meth 1 17 (.var 0) [])), (.ret (.meth 1 20 (.var 0) []))]⟩
/-- Runner.where -/
def d7 : FD := ⟨1, 0, [], 3, [(.ite (.cmp .notN (.fld (.var 0) 15) .non) [(.ret .non)] []), (.asg (.tup [(.name 1), (.name 2)]) (.ix (.fld (.var 0) 8) (.fld (.var 0) 12))), (.ret (.tup [(.var 1), (.ix (.var 2) (.int 0))]))]⟩
/-- Runner.fault -/
def d8 : FD := ⟨2, 0, [], 4, [(.asg (.tup [(.name 2), (.name 3)]) (.ix (.fld (.var 0) 8) (.fld (.var 0) 12))), (.asg (.fld (.var 0) 15) (.bin .add (.tup [(.str [102,97,117,108,116]), (.var 1), (.var 2)]) (.var 3)))]⟩
/-- Runner.do -/
def d9 : FD := ⟨1, 0, [], 6, [(.asg (.name 1) (.ix (.glo 0) (.ix (.fld (.var 0) 6) (.fld (.var 0) 12)))), (.asg (.name 2) (.gget 0 (.ix (.fld (.var 0) 6) (.fld (.var 0) 12)) (.int 1))), (.asg (.name 3) (.sl (.fld (.var 0) 6) (some (.bin .add (.fld (.var 0) 12) (.int 1))) (some (.bin .add (.fld (.var 0) 12) (.var 2))))), (.asg (.name 4) (.ix (.fld (.var 0) 11) (.neg (.int 1)))), (.ite (.cmp .in_ (.var 1) (.tup [(.str [108,111,97,100]), (.str [112,117,115,104]), (.str [102,101,116,99,104])])) [(.asg (.name 5) (.ix (.var 3) (.int 0))), (.exp (.bm .append (.fld (.var 4) 3) [(.ite (.cmp .eq (.var 1) (.str [112,117,115,104])) (.var 5) (.ite (.cmp .eq (.var 1) (.str [108,111,97,100])) (.ix (.fld (.var 4) 1) (.var 5)) (.ix (.fld (.var 0) 10) (.var 5))))]))] [(.ite (.cmp .eq (.var 1) (.str [115,116,111,114,101])) [(.asg (.sub (.fld (.var 4) 1) (.ix (.var 3) (.int 0))) (.bm .pop (.fld (.var 4) 3) []))] [(.ite (.cmp .eq (.var 1) (.str [108,97,121])) [(.asg (.sub (.fld (.var 0) 10) (.ix (.var 3) (.int 0))) (.bm .pop (.fld (.var 4) 3) []))] [(.ite (.cmp .eq (.var 1) (.str [115,97,121])) [(.exp (.bm .append (.fld (.var 0) 14) [(.call 1 [(.ix (.glo 2) (.ix (.var 3) (.int 0))), (.bm .pop (.fld (.var 4) 3) [])] [])]))] [(.ite (.cmp .in_ (.var 1) (.tup [(.str [106,117,109,112]), (.str [117,110,108,101,115,115])])) [(.asg (.fld (.var 0) 12) (.ite (.or [(.cmp .eq (.var 1) (.str [106,117,109,112])), (.cmp .eq (.bm .pop (.fld (.var 4) 3) []) (.int 0))]) (.ix (.var 3) (.int 0)) (.bin .add (.fld (.var 0) 12) (.var 2)))), .retN] [(.ite (.cmp .eq (.var 1) (.str [110,111,116,104,105,110,103])) [(.exp (.meth 1 19 (.var 0) [(.str [110,111,116,104,105,110,103])])), .retN] [(.ite (.cmp .in_ (.var 1) (.tup [(.str [99,97,108,108]), (.str [103,105,118,101])])) [(.exp (.ite (.cmp .eq (.var 1) (.str [99,97,108,108])) (.meth 1 21 (.var 0) [(.var 3)]) (.meth 1 22 (.var 0) [(.ix (.var 3) (.int 0))]))), .retN] [(.ite (.not (.meth 1 23 (.var 0) [(.var 1), (.var 4)])) [.retN] [])])])])])])])]), (.augF (.var 0) 12 .add (.var 2))]⟩
/-- Runner.reckon -/
def d10 : FD := ⟨3, 0, [], 6, [(.asg (.name 3) (.bm .pop (.fld (.var 2) 3) [])), (.asg (.tup [(.name 4), (.name 5)]) (.call 3 [(.var 1), (.bm .pop (.fld (.var 2) 3) []), (.var 3)] [])), (.ite (.cmp .ne (.var 5) (.str [])) [(.exp (.meth 1 19 (.var 0) [(.var 5)])), (.ret (.bl false))] []), (.exp (.bm .append (.fld (.var 2) 3) [(.var 4)])), (.ret (.bl true))]⟩
/-- Runner.call -/
def d11 : FD := ⟨2, 0, [], 8, [(.ite (.cmp .eq (.bi .len (.fld (.var 0) 11)) (.glo 5)) [(.exp (.meth 1 19 (.var 0) [(.str [100,101,101,112])])), .retN] []), (.asg (.name 2) (.fld (.ix (.fld (.var 0) 11) (.neg (.int 1))) 3)), (.asg (.name 3) (.bin .sub (.bi .len (.var 2)) (.ix (.var 1) (.int 1)))), (.asg (.name 4) (.dc [6, 7] (.tup [(.name 6), (.name 7)]) (.enum (.sl (.var 2) (some (.var 3)) none)) (.var 6) (.var 7))), (.asg (.fld (.ix (.fld (.var 0) 11) (.neg (.int 1))) 3) (.sl (.var 2) none (some (.var 3)))), (.augF (.var 0) 16 .add (.int 1)), (.asg (.name 5) (.make 0 [(.ix (.fld (.var 0) 9) (.ix (.var 1) (.int 0))), (.var 4)] [(.fld (.var 0) 16), (.bin .add (.fld (.var 0) 12) (.int 4)), (.fld (.var 0) 12)])), (.exp (.bm .append (.fld (.var 0) 11) [(.var 5)])), (.asg (.fld (.var 0) 12) (.ix (.var 1) (.int 0)))]⟩
/-- Runner.give -/
def d12 : FD := ⟨2, 0, [], 5, [(.asg (.name 2) (.ix (.fld (.var 0) 11) (.neg (.int 1)))), (.asg (.name 3) (.sl (.fld (.var 2) 3) (some (.bin .sub (.bi .len (.fld (.var 2) 3)) (.var 1))) none)), (.ite (.cmp .eq (.bi .len (.fld (.var 0) 11)) (.int 1)) [(.asg (.name 4) (.ix (.ix (.fld (.var 0) 7) (.fld (.var 2) 0)) (.int 5))), (.asg (.fld (.var 0) 15) (.tup [(.str [101,110,100]), (.ite (.cmp .eq (.var 1) (.int 1)) (.call 1 [(.var 4), (.ix (.var 3) (.int 0))] []) .non)])), .retN] []), (.exp (.bm .pop (.fld (.var 0) 11) [])), (.exp (.bm .extend (.fld (.ix (.fld (.var 0) 11) (.neg (.int 1))) 3) [(.var 3)])), (.asg (.fld (.var 0) 12) (.fld (.var 2) 4))]⟩
/-- Runner.said -/
def d13 : FD := ⟨1, 0, [], 1, [(.ret (.bi .list (.fld (.var 0) 14)))]⟩
/-- Runner.outcome -/
def d14 : FD := ⟨1, 0, [], 1, [(.ret (.fld (.var 0) 15))]⟩
/-- run -/
def d15 : FD := ⟨4, 1, [(.int (.lit (2000)))], 5, [(.asg (.name 4) (.make 1 [(.var 0), (.var 1), (.var 2)] [(.var 3)])), (.whil (.cmp .isN (.meth 1 24 (.var 4) []) .non) [(.exp (.meth 1 25 (.var 4) []))]), (.ret (.tup [(.meth 1 26 (.var 4) []), (.meth 1 24 (.var 4) [])]))]⟩
/-- Looker.__init__ -/
def d16 : FD := ⟨5, 1, [(.int (.lit (2000)))], 5, [(.asg (.fld (.var 0) 27) (.var 1)), (.asg (.fld (.var 0) 28) (.tup [(.var 2), (.var 3), (.var 4)])), (.asg (.fld (.var 0) 29) (.make 1 [(.var 1), (.var 2), (.var 3)] [(.var 4)])), (.asg (.fld (.var 0) 30) (.int 0)), (.asg (.fld (.var 0) 31) (.dnew false))]⟩
/-- Looker.step -/
def d21 : FD := ⟨1, 0, [], 2, [(.asg (.name 1) (.meth 1 25 (.fld (.var 0) 29) [])), (.augF (.var 0) 30 .add (.int 1)), (.ret (.var 1))]⟩
/-- Looker.where -/
def d31 : FD := ⟨1, 0, [], 1, [(.ret (.meth 1 20 (.fld (.var 0) 29) []))]⟩
/-- Looker.frames -/
def d34 : FD := ⟨1, 0, [], 6, [(.ite (.cmp .notN (.meth 1 24 (.fld (.var 0) 29) []) .non) [(.ret (.lst []))] []), (.asg (.name 1) (.lst [])), (.asg (.name 2) (.fld (.fld (.var 0) 29) 12)), (.for_ (.name 3) (.val (.rev (.fld (.fld (.var 0) 29) 11))) [(.asg (.tup [(.name 4), (.name 5)]) (.ix (.fld (.fld (.var 0) 29) 8) (.var 2))), (.exp (.bm .append (.var 1) [(.tup [(.var 4), (.ix (.ix (.ix (.fld (.var 0) 27) (.int 2)) (.fld (.var 3) 0)) (.int 1)), (.ix (.var 5) (.int 0))])])), (.asg (.name 2) (.fld (.var 3) 5))]), (.ret (.var 1))]⟩
/-- Looker.frame -/
def d35 : FD := ⟨2, 0, [], 3, [(.asg (.name 2) (.meth 2 35 (.var 0) [])), (.ite (.or [(.not (.isi (.var 1) .int)), (.isi (.var 1) .bool), (.not (.chain .le .lt (.int 0) (.var 1) (.bi .len (.var 2))))]) [.no] []), (.ret (.tup [(.ix (.fld (.fld (.var 0) 29) 11) (.bin .sub (.bin .sub (.bi .len (.var 2)) (.int 1)) (.var 1))), (.ix (.var 2) (.var 1))]))]⟩
/-- Looker.seen -/
def d36 : FD := ⟨2, 0, [], 14, [(.asg (.tup [(.name 3), (.tup [(.name 11), (.name 12), (.name 13)])]) (.meth 2 36 (.var 0) [(.var 1)])), (.asg (.name 2) (.lst [])), (.for_ (.tup [(.name 4), (.name 5), (.name 6), (.name 7), (.name 8), (.name 9), (.name 10)]) (.val (.ix (.fld (.var 0) 27) (.int 6))) [(.ite (.and [(.cmp .eq (.tup [(.var 4), (.var 5)]) (.tup [(.var 11), (.var 12)])), (.chain .le .le (.var 9) (.var 13) (.var 10))]) [(.exp (.bm .append (.var 2) [(.tup [(.var 6), (.var 7), (.call 1 [(.var 7), (.ix (.fld (.var 3) 1) (.var 8))] [])])]))] [])]), (.ret (.var 2))]⟩
/-- Looker.lasting -/
def d37 : FD := ⟨1, 0, [], 8, [(.asg (.name 1) (.lst [])), (.for_ (.tup [(.tup [(.name 3), (.name 4), (.name 5), (.name 6), (.name 7)]), (.name 2)]) (.zip (.ix (.fld (.var 0) 27) (.int 3)) (.fld (.fld (.var 0) 29) 10)) [(.exp (.bm .append (.var 1) [(.tup [(.var 3), (.var 4), (.var 5), (.call 1 [(.var 5), (.var 2)] [])])]))]), (.ret (.var 1))]⟩
/-- _law_like -/
def d44 : FD := ⟨2, 0, [], 3, [(.ite (.or [(.isi (.var 1) .tuple), (.isi (.var 1) .list)]) [(.ite (.cmp .ne (.isi (.var 0) .tuple) (.isi (.var 1) .tuple)) [(.ret (.bl false))] []), (.ite (.or [(.cmp .ne (.isi (.var 0) .list) (.isi (.var 1) .list)), (.cmp .ne (.bi .len (.var 0)) (.bi .len (.var 1)))]) [(.ret (.bl false))] []), (.ret (.cmp .eq (.lc [2] (.name 2) (.rng (.bi .len (.var 1))) (some (.not (.call 44 [(.ix (.var 0) (.var 2)), (.ix (.var 1) (.var 2))] []))) (.var 2)) (.lst [])))] []), (.ite (.cmp .ne (.isi (.var 0) .bool) (.isi (.var 1) .bool)) [(.ret (.bl false))] []), (.ite (.or [(.cmp .ne (.isi (.var 0) .int) (.isi (.var 1) .int)), (.cmp .ne (.isi (.var 0) .str) (.isi (.var 1) .str))]) [(.ret (.bl false))] []), (.ret (.cmp .eq (.var 0) (.var 1)))]⟩
/-- _law_by_hand -/
def d45 : FD := ⟨3, 0, [], 14, [(.asg (.name 3) (.lst [(.tup [(.int 1)]), (.tup [(.int 2), (.var 0)]), (.tup [(.int 2), (.var 1)]), (.tup [(.int 2), (.var 2)]), (.tup [(.int 2), (.var 0)]), (.tup [(.int 16), (.int 0), (.int 3), (.int 4)]), (.tup [(.int 7)]), (.tup [(.int 18), (.int 0)]), (.tup [(.int 1)]), (.tup [(.int 5), (.int 0)]), (.tup [(.int 2), (.int 1)])])), (.asg (.name 3) (.bin .add (.var 3) (.lst [(.tup [(.int 7)]), (.tup [(.int 6), (.int 0)]), (.tup [(.int 5), (.int 0)]), (.tup [(.int 18), (.int 0)]), (.tup [(.int 2), (.int 1)]), (.tup [(.int 17), (.int 1)])]))), (.asg (.name 4) (.lst [(.tup [(.int 1)]), (.tup [(.int 3), (.int 0)]), (.tup [(.int 3), (.int 1)]), (.tup [(.int 8)]), (.tup [(.int 4), (.int 3)]), (.tup [(.int 1)]), (.tup [(.int 3), (.int 3)]), (.tup [(.int 3), (.int 2)]), (.tup [(.int 9)]), (.tup [(.int 17), (.int 1)])])), (.par [11, 12, 13] [(.lst []), (.lst []), (.int 0)]), (.for_ (.name 5) (.rng (.bi .len (.var 4))) [(.exp (.bm .append (.var 12) [(.tup [(.bi .len (.var 11)), (.str [101]), (.tup [(.bin .add (.int 2) (.bi .int (.cmp .gt (.var 5) (.int 4)))), (.bin .add (.int 3) (.var 5))])])])), (.asg (.name 11) (.bin .add (.var 11) (.bi .list (.ix (.var 4) (.var 5)))))]), (.asg (.name 6) (.bi .len (.var 11))), (.for_ (.name 5) (.rng (.bi .len (.var 3))) [(.exp (.bm .append (.var 12) [(.tup [(.bi .len (.var 11)), (.str [102]), (.tup [(.bin .add (.int 5) (.bi .int (.cmp .gt (.var 5) (.int 7)))), (.bin .add (.int 3) (.var 5))])])])), (.asg (.name 11) (.bin .add (.var 11) (.bi .list (.ix (.var 3) (.var 5)))))]), (.asg (.name 7) (.tup [(.str [110,117,109]), (.str [110,117,109]), (.str [110,117,109])])), (.asg (.name 8) (.tup [(.tup [(.str [101]), (.str [113]), (.int 0), (.var 6), (.var 7), (.str [110,117,109]), (.bl true), (.int 4)]), (.tup [(.str [102]), (.str [109]), (.var 6), (.bi .len (.var 11)), (.tup []), (.str [121,101,115]), (.bl true), (.int 0)])])), (.asg (.name 9) (.tup [(.tup [(.str [101]), (.str [113]), (.str [120]), (.str [110,117,109]), (.int 0), (.int 1), (.int 4)]), (.tup [(.str [101]), (.str [113]), (.str [121]), (.str [110,117,109]), (.int 3), (.int 3), (.int 4)])])), (.asg (.name 10) (.tup [(.tup [(.tup [(.str [102]), (.str [107]), (.str [110,117,109]), (.int 40), (.bl false)])]), (.tup []), (.tup [(.tup [(.str [101]), (.tup [])]), (.tup [(.str [102]), (.tup [(.str [101])])])]), (.var 9)])), (.ret (.bin .add (.tup [(.bi .tuple (.var 11)), (.bi .tuple (.var 12)), (.var 8)]) (.var 10)))]⟩
def defs : Nat → Option FD
  | 1 => some d1
  | 2 => some d2
  | 3 => some d3
  | 4 => some d4
  | 5 => some d5
  | 6 => some d6
  | 7 => some d7
  | 8 => some d8
  | 9 => some d9
  | 10 => some d10
  | 11 => some d11
  | 12 => some d12
  | 13 => some d13
  | 14 => some d14
  | 15 => some d15
  | 16 => some d16
  | 21 => some d21
  | 31 => some d31
  | 34 => some d34
  | 35 => some d35
  | 36 => some d36
  | 37 => some d37
  | 44 => some d44
  | 45 => some d45
  | _ => none
def meth : Nat → Nat → Option Nat
  | 1, 17 => some 5
  | 1, 25 => some 6
  | 1, 20 => some 7
  | 1, 19 => some 8
  | 1, 18 => some 9
  | 1, 23 => some 10
  | 1, 21 => some 11
  | 1, 22 => some 12
  | 1, 26 => some 13
  | 1, 24 => some 14
  | 2, 32 => some 21
  | 2, 20 => some 31
  | 2, 35 => some 34
  | 2, 36 => some 35
  | 2, 37 => some 36
  | 2, 38 => some 37
  | _, _ => none
def init : Nat → Option Nat
  | 0 => some 2
  | 1 => some 4
  | 2 => some 16
  | _ => none
def glo : Nat → Option U
  | 0 => some (.tup [(.str []), (.str [114,111,119]), (.str [112,117,115,104]), (.str [108,111,97,100]), (.str [115,116,111,114,101]), (.str [102,101,116,99,104]), (.str [108,97,121]), (.str [97,100,100]), (.str [116,97,107,101]), (.str [116,105,109,101,115]), (.str [111,118,101,114]), (.str [114,101,115,116]), (.str [108,101,115,115]), (.str [115,97,109,101]), (.str [106,117,109,112]), (.str [117,110,108,101,115,115]), (.str [99,97,108,108]), (.str [103,105,118,101]), (.str [115,97,121]), (.str [110,111,116,104,105,110,103])])
  | 1 => some (.int (.lit (1)))
  | 2 => some (.tup [(.str [110,117,109]), (.str [121,101,115])])
  | 3 => some (.int (.lit (2000)))
  | 4 => some (.int (.lit (100000)))
  | 5 => some (.int (.lit (32)))
  | 6 => some (.int (.lit (1000000000000)))
  | 7 => some (.str [])
  | _ => none
def sizes : List (Int × Int) := [(2, 2), (3, 2), (4, 2), (5, 2), (6, 2), (14, 2), (15, 2), (16, 4), (17, 2), (18, 2)]
def gdic : Nat → Option (List (Int × U))
  | 0 => some (sizes.map fun p => (p.1, .int (.lit p.2)))
  | _ => none
def fas : List (Nat × Nat) := [(0, 0), (0, 1), (0, 2), (0, 3), (0, 4), (0, 5), (1, 6), (1, 7), (1, 8), (1, 9), (1, 10), (1, 11), (1, 12), (1, 13), (1, 14), (1, 15), (1, 16), (2, 27), (2, 28), (2, 29), (2, 30), (2, 31)]
def fa (c f : Nat) : Bool := match c, f with
  | 0, 0 => true
  | 0, 1 => true
  | 0, 2 => true
  | 0, 3 => true
  | 0, 4 => true
  | 0, 5 => true
  | 1, 6 => true
  | 1, 7 => true
  | 1, 8 => true
  | 1, 9 => true
  | 1, 10 => true
  | 1, 11 => true
  | 1, 12 => true
  | 1, 13 => true
  | 1, 14 => true
  | 1, 15 => true
  | 1, 16 => true
  | 2, 27 => true
  | 2, 28 => true
  | 2, 29 => true
  | 2, 30 => true
  | 2, 31 => true
  | _, _ => false
def pg : Pg := ⟨defs, meth, init, glo, gdic, fa⟩
def lawN : List Str := ((["_law_script", "_law_d", "_law_turn", "_law_image", "_law_said", "_law_tired", "_law_limit", "_law_spots", "_law_k", "_law_a", "_law_b", "_law_c", "_law_looker", "_law_runner"] : List String).map Str.ofString)
def turn : List MS := [(.asg (.name 3) (.call 45 [(.var 9), (.var 10), (.var 11)] [])), (.asg (.name 4) (.lst [(.bin .add (.var 9) (.bin .mul (.bin .sub (.var 10) (.var 11)) (.var 9))), (.int 41)])), (.ite (.not (.call 44 [(.call 15 [(.var 3), (.str [102]), (.str [109])] []), (.tup [(.var 4), (.tup [(.str [101,110,100]), (.bl true)])])] [])) [(.ret (.bl false))] []), (.ite (.not (.call 44 [(.call 15 [(.var 3), (.str [102]), (.str [109])] [(.int 3)]), (.tup [(.sl (.var 4) none (some (.int 1))), (.tup [(.str [102,97,117,108,116]), (.str [116,105,114,101,100]), (.str [102]), (.int 6), (.int 11)])])] [])) [(.ret (.bl false))] []), (.asg (.name 5) (.lst [(.tup [(.str [102]), (.int 5), (.int 3)]), (.tup [(.str [101]), (.int 2), (.int 3)]), (.tup [(.str [101]), (.int 3), (.int 8)])])), (.for_ (.name 6) (.rng (.int 3)) [(.ite (.not (.call 44 [(.call 15 [(.var 3), (.str [102]), (.str [109])] [(.var 6)]), (.tup [(.lst []), (.bin .add (.tup [(.str [102,97,117,108,116]), (.str [116,105,114,101,100])]) (.ix (.var 5) (.var 6)))])] [])) [(.ret (.bl false))] [])]), (.par [12, 13] [(.make 2 [(.var 3), (.str [102]), (.str [109])] [(.int 9)]), (.make 1 [(.var 3), (.str [102]), (.str [109])] [(.int 9)])]), (.asg (.name 7) (.lst [(.tup [(.str [102]), (.int 5)]), (.tup [(.str [101]), (.int 2)]), (.tup [(.str [101]), (.int 3)]), (.tup [(.str [102]), (.int 6)]), .non])), (.for_ (.name 8) (.rng (.int 4)) [(.ite (.not (.call 44 [(.lst [(.meth 2 20 (.var 12) []), (.meth 1 20 (.var 13) [])]), (.bin .mul (.lst [(.ix (.var 7) (.var 8))]) (.int 2))] [])) [(.ret (.bl false))] []), (.ite (.and [(.cmp .in_ (.var 8) (.tup [(.int 1), (.int 2)])), (.not (.call 44 [(.meth 2 35 (.var 12) []), (.lst [(.tup [(.str [101]), (.str [113]), (.bin .add (.var 8) (.int 1))]), (.tup [(.str [102]), (.str [109]), (.int 5)])])] []))]) [(.ret (.bl false))] []), (.ite (.and [(.cmp .eq (.var 8) (.int 2)), (.not (.call 44 [(.meth 2 37 (.var 12) [(.int 0)]), (.lst [(.tup [(.str [120]), (.str [110,117,109]), (.var 10)]), (.tup [(.str [121]), (.str [110,117,109]), (.bin .sub (.var 10) (.var 11))])])] []))]) [(.ret (.bl false))] []), (.ite (.not (.call 44 [(.lst [(.meth 2 32 (.var 12) []), (.meth 1 25 (.var 13) [])]), (.bin .mul (.lst [(.ix (.var 7) (.bin .add (.var 8) (.int 1)))]) (.int 2))] [])) [(.ret (.bl false))] [])]), (.ite (.or [(.not (.call 44 [(.meth 2 38 (.var 12) []), (.lst [(.tup [(.str [102]), (.str [107]), (.str [110,117,109]), (.int 41)])])] [])), (.not (.call 44 [(.meth 1 26 (.var 13) []), (.var 4)] []))]) [(.ret (.bl false))] [])]
def nth' (l : List Str) (i : Nat) : Str := l.getD i Str.empty
def dfN : Nat → Str
  | 1 => "shown"
  | 3 => "reckoned"
  | 15 => "run"
  | 44 => "_law_like"
  | 45 => "_law_by_hand"
  | _ => Str.empty
def isFN : Nat → Bool
  | 1 => true
  | 3 => true
  | 15 => true
  | 44 => true
  | 45 => true
  | _ => false
def clN (i : Nat) : Str := nth' ((["Frame", "Runner", "Looker"] : List String).map Str.ofString) i
def glN (i : Nat) : Str := nth' ((["WORDS", "ROW", "KINDS", "ROWS", "MOST_ROWS", "MOST_CALLS", "FAR", "ALWAYS"] : List String).map Str.ofString) i
def gdN (i : Nat) : Str := nth' ((["SIZES"] : List String).map Str.ofString) i
def kwN : Nat → List Str
  | 2 => ((["born", "goes_on", "called_at"] : List String).map Str.ofString)
  | 4 => ((["most"] : List String).map Str.ofString)
  | 15 => ((["most"] : List String).map Str.ofString)
  | 16 => ((["most"] : List String).map Str.ofString)
  | _ => []
def psN : Nat → List Str
  | 1 => ((["kind", "worth"] : List String).map Str.ofString)
  | 2 => ((["self", "which", "cells", "born", "goes_on", "called_at"] : List String).map Str.ofString)
  | 3 => ((["word", "one", "other"] : List String).map Str.ofString)
  | 4 => ((["self", "image", "file", "name", "most"] : List String).map Str.ofString)
  | 5 => ((["self"] : List String).map Str.ofString)
  | 6 => ((["self"] : List String).map Str.ofString)
  | 7 => ((["self"] : List String).map Str.ofString)
  | 8 => ((["self", "why"] : List String).map Str.ofString)
  | 9 => ((["self"] : List String).map Str.ofString)
  | 10 => ((["self", "word", "frame"] : List String).map Str.ofString)
  | 11 => ((["self", "some"] : List String).map Str.ofString)
  | 12 => ((["self", "many"] : List String).map Str.ofString)
  | 13 => ((["self"] : List String).map Str.ofString)
  | 14 => ((["self"] : List String).map Str.ofString)
  | 15 => ((["image", "file", "name", "most"] : List String).map Str.ofString)
  | 16 => ((["self", "image", "file", "name", "most"] : List String).map Str.ofString)
  | 21 => ((["self"] : List String).map Str.ofString)
  | 31 => ((["self"] : List String).map Str.ofString)
  | 34 => ((["self"] : List String).map Str.ofString)
  | 35 => ((["self", "depth"] : List String).map Str.ofString)
  | 36 => ((["self", "depth"] : List String).map Str.ofString)
  | 37 => ((["self"] : List String).map Str.ofString)
  | 44 => ((["_law_found", "_law_due"] : List String).map Str.ofString)
  | 45 => ((["_law_a", "_law_b", "_law_c"] : List String).map Str.ofString)
  | _ => []
def loN : Nat → List Str
  | 1 => ((["kind", "worth"] : List String).map Str.ofString)
  | 2 => ((["self", "which", "cells", "born", "goes_on", "called_at"] : List String).map Str.ofString)
  | 3 => ((["word", "one", "other", "found"] : List String).map Str.ofString)
  | 4 => ((["self", "image", "file", "name", "most", "parts", "places", "keeps", "one", "keep", "part"] : List String).map Str.ofString)
  | 5 => ((["self"] : List String).map Str.ofString)
  | 6 => ((["self"] : List String).map Str.ofString)
  | 7 => ((["self", "file", "place"] : List String).map Str.ofString)
  | 8 => ((["self", "why", "file", "place"] : List String).map Str.ofString)
  | 9 => ((["self", "word", "size", "some", "frame", "here"] : List String).map Str.ofString)
  | 10 => ((["self", "word", "frame", "other", "worth", "why"] : List String).map Str.ofString)
  | 11 => ((["self", "some", "pile", "begin", "cells", "frame", "cell", "worth"] : List String).map Str.ofString)
  | 12 => ((["self", "many", "frame", "worths", "kind"] : List String).map Str.ofString)
  | 13 => ((["self"] : List String).map Str.ofString)
  | 14 => ((["self"] : List String).map Str.ofString)
  | 15 => ((["image", "file", "name", "most", "runner"] : List String).map Str.ofString)
  | 16 => ((["self", "image", "file", "name", "most"] : List String).map Str.ofString)
  | 21 => ((["self", "found"] : List String).map Str.ofString)
  | 31 => ((["self"] : List String).map Str.ofString)
  | 34 => ((["self", "found", "at", "frame", "file", "place"] : List String).map Str.ofString)
  | 35 => ((["self", "depth", "frames"] : List String).map Str.ofString)
  | 36 => ((["self", "depth", "found", "frame", "here", "one", "name", "kind", "cell", "first", "last", "file", "part", "row"] : List String).map Str.ofString)
  | 37 => ((["self", "found", "worth", "file", "name", "kind", "first", "is_out"] : List String).map Str.ofString)
  | 44 => ((["_law_found", "_law_due", "_law_k"] : List String).map Str.ofString)
  | 45 => ((["_law_a", "_law_b", "_law_c", "_law_rows", "_law_first", "_law_k", "_law_end", "_law_kinds", "_law_defs", "_law_names", "_law_tables", "_law_code", "_law_places", "_law_at"] : List String).map Str.ofString)
  | _ => []
def nmz : Nmz := ⟨dfN, isFN, clN, glN, gdN, kwN, nth' names, names.length, init⟩
end Se.K88
set_option linter.all false
set_option maxRecDepth 100000
/-! k88: the text and its small trees agree. Printed by gen88m.py. -/
namespace Se.K88
open PySem
def top (i : Nat) : Stmt := PySem.Challenge.pw_wholetongue_k88_images_made_by_hand.main.body.getD i (.Pass ⟨0, 0, 0, 0⟩)
def sArgs : Stmt → Arguments
  | .FunctionDef (args := as) .. => as
  | _ => .mk [] [] none [] [] none []
def sBody : Stmt → List Stmt
  | .FunctionDef (body := ss) .. => ss
  | .ClassDef (body := ss) .. => ss
  | .For (body := ss) .. => ss
  | _ => []
def sScope : Stmt → Scope
  | .FunctionDef (scope := sc) .. => sc
  | _ => ⟨.module, [], false, false, []⟩
def inn (i j : Nat) : Stmt := (sBody (top i)).getD j (.Pass ⟨0, 0, 0, 0⟩)
abbrev s1 : Stmt := (top 8)
abbrev s2 : Stmt := (inn 18 0)
abbrev s3 : Stmt := (top 19)
abbrev s4 : Stmt := (inn 20 0)
abbrev s5 : Stmt := (inn 20 1)
abbrev s6 : Stmt := (inn 20 2)
abbrev s7 : Stmt := (inn 20 3)
abbrev s8 : Stmt := (inn 20 4)
abbrev s9 : Stmt := (inn 20 5)
abbrev s10 : Stmt := (inn 20 6)
abbrev s11 : Stmt := (inn 20 7)
abbrev s12 : Stmt := (inn 20 8)
abbrev s13 : Stmt := (inn 20 9)
abbrev s14 : Stmt := (inn 20 10)
abbrev s15 : Stmt := (top 21)
abbrev s16 : Stmt := (inn 24 0)
abbrev s21 : Stmt := (inn 24 5)
abbrev s31 : Stmt := (inn 24 15)
abbrev s34 : Stmt := (inn 24 18)
abbrev s35 : Stmt := (inn 24 19)
abbrev s36 : Stmt := (inn 24 20)
abbrev s37 : Stmt := (inn 24 21)
abbrev s44 : Stmt := (top 28)
abbrev s45 : Stmt := (top 29)
abbrev sLaw : Stmt := top 30
abbrev sDice : Stmt := top 26
abbrev sNext : Stmt := top 27
def turnT : List Stmt := (sBody ((sBody sLaw).getD 1 (.Pass ⟨0, 0, 0, 0⟩))).drop 1
theorem m1 : mSs ((mf nmz (loN 1) 30).s (sScope s1)) (sBody s1) d1.body = true := by decide +kernel
theorem m2 : mSs ((mf nmz (loN 2) 30).s (sScope s2)) (sBody s2) d2.body = true := by decide +kernel
theorem m3 : mSs ((mf nmz (loN 3) 30).s (sScope s3)) (sBody s3) d3.body = true := by decide +kernel
theorem m4 : mSs ((mf nmz (loN 4) 30).s (sScope s4)) (sBody s4) d4.body = true := by decide +kernel
theorem m5 : mSs ((mf nmz (loN 5) 30).s (sScope s5)) (sBody s5) d5.body = true := by decide +kernel
theorem m6 : mSs ((mf nmz (loN 6) 30).s (sScope s6)) (sBody s6) d6.body = true := by decide +kernel
theorem m7 : mSs ((mf nmz (loN 7) 30).s (sScope s7)) (sBody s7) d7.body = true := by decide +kernel
theorem m8 : mSs ((mf nmz (loN 8) 30).s (sScope s8)) (sBody s8) d8.body = true := by decide +kernel
theorem m9 : mSs ((mf nmz (loN 9) 30).s (sScope s9)) (sBody s9) d9.body = true := by decide +kernel
theorem m10 : mSs ((mf nmz (loN 10) 30).s (sScope s10)) (sBody s10) d10.body = true := by decide +kernel
theorem m11 : mSs ((mf nmz (loN 11) 30).s (sScope s11)) (sBody s11) d11.body = true := by decide +kernel
theorem m12 : mSs ((mf nmz (loN 12) 30).s (sScope s12)) (sBody s12) d12.body = true := by decide +kernel
theorem m13 : mSs ((mf nmz (loN 13) 30).s (sScope s13)) (sBody s13) d13.body = true := by decide +kernel
theorem m14 : mSs ((mf nmz (loN 14) 30).s (sScope s14)) (sBody s14) d14.body = true := by decide +kernel
theorem m15 : mSs ((mf nmz (loN 15) 30).s (sScope s15)) (sBody s15) d15.body = true := by decide +kernel
theorem m16 : mSs ((mf nmz (loN 16) 30).s (sScope s16)) (sBody s16) d16.body = true := by decide +kernel
theorem m21 : mSs ((mf nmz (loN 21) 30).s (sScope s21)) (sBody s21) d21.body = true := by decide +kernel
theorem m31 : mSs ((mf nmz (loN 31) 30).s (sScope s31)) (sBody s31) d31.body = true := by decide +kernel
theorem m34 : mSs ((mf nmz (loN 34) 30).s (sScope s34)) (sBody s34) d34.body = true := by decide +kernel
theorem m35 : mSs ((mf nmz (loN 35) 30).s (sScope s35)) (sBody s35) d35.body = true := by decide +kernel
theorem m36 : mSs ((mf nmz (loN 36) 30).s (sScope s36)) (sBody s36) d36.body = true := by decide +kernel
theorem m37 : mSs ((mf nmz (loN 37) 30).s (sScope s37)) (sBody s37) d37.body = true := by decide +kernel
theorem m44 : mSs ((mf nmz (loN 44) 30).s (sScope s44)) (sBody s44) d44.body = true := by decide +kernel
theorem m45 : mSs ((mf nmz (loN 45) 30).s (sScope s45)) (sBody s45) d45.body = true := by decide +kernel
theorem mTurn : mSs ((mf nmz lawN 30).s (sScope sLaw)) turnT turn = true := by decide +kernel
end Se.K88
set_option linter.all false
set_option maxRecDepth 100000
/-! k88: the turn, evaluated. -/
namespace Se.K88
def env0 : Env := [none, none, none, none, none, none, none, none, none, some (.int (.pol 0 [([0], 1)])), some (.int (.pol 0 [([1], 1)])), some (.int (.pol 0 [([2], 1)])), none, none]
def isNx : Option (Fl × Env × MH) → Bool
  | some (.nx, us, _) => match getV us 0, getV us 1 with
    | none, none => true
    | _, _ => false
  | _ => false
theorem turnEv : isNx (evSs ((fns [50, 50, 50] pg 200).s 20) turn env0 ⟨0, .lf⟩) = true := by decide +kernel
end Se.K88
set_option Elab.async false
set_option linter.all false
set_option maxRecDepth 100000
/-! k88: what the head tells of the program. Printed by gen88h.py. -/
namespace Se.K88
open PySem PySem.Spec
open PyProof.Rows L2
section
variable {K : PySem.W.Frag} {x q : Str} {body : List Stmt} {scope : Scope} {kws : List (Str × V)} {f : Addr} {fd : FuncData}
theorem kbn_of {params : Arguments} {ps : List Str} (F : FunD K x q params body scope [] kws f fd) (n : Nat) (ks : List Str)
    (h : ∀ (kV doc pm : Value) (an : Option Addr) (cdv ct : Value) (us ws : List Value), us.length = n → ws.length = ks.length → bindArgs (PySem.W.fnOf x q params body scope .none kV doc pm an cdv ct) ⟨us, ks.zip ws⟩ = pure (ps.zip (us ++ ws))) :
    KBn K fd ps n ks (fun us ws => us ++ ws) (fun vs zs => vs ++ zs) := by
  obtain ⟨_, _, dV, kV, doc, pm, an, cdv, ct, _, rfl, _, _, hD, _⟩ := F.ex
  rcases hD with ⟨_, rfl⟩ | ⟨no, _⟩
  · exact ⟨fun s us ws X l1 l2 => .of_eq (h kV doc pm an cdv ct us ws l1 l2), fun r1 r2 => r1.append r2⟩
  · exact absurd rfl no
theorem b1 (F : FunD K x q (sArgs s1) body scope [] kws f fd) : L2.Binds K fd (psN 1) [] := F.bindsN fun kV doc pm an cdv ct us hl => match us, hl with
  | [a, b], _ => by kernel_rfl
theorem b2 (F : FunD K x q (sArgs s2) body scope [] kws f fd) : KBn K fd (psN 2) 3 (kwN 2) (fun us ws => us ++ ws) (fun vs zs => vs ++ zs) := kbn_of F 3 _ fun kV doc pm an cdv ct us ws l1 l2 => match us, ws, l1, l2 with
  | [a, b, c], [e0, e1, e2], _, _ => by kernel_rfl
theorem c2 (F : FunD K x q (sArgs s2) body scope [] [("born", .int 0), ("goes_on", .non), ("called_at", .non)] f fd) : ∃ ds, Vals [.int 0, .non, .non] ds ∧ L2.Binds K fd (psN 2) ds := F.binds0 3 (by simp) (by kernel_rfl) fun D doc pm an cdv ct us ks l1 l2 => match us, ks, l1, l2 with
  | [a, b, c], [e0, e1, e2], _, _ => ⟨_, _, _, _, _, _, rfl, rfl, _, _, _, _, _, _, rfl, rfl, _, _, _, _, _, _, rfl, rfl,  rfl⟩
theorem b3 (F : FunD K x q (sArgs s3) body scope [] kws f fd) : L2.Binds K fd (psN 3) [] := F.bindsN fun kV doc pm an cdv ct us hl => match us, hl with
  | [a, b, c], _ => by kernel_rfl
theorem b4 (F : FunD K x q (sArgs s4) body scope [] kws f fd) : KBn K fd (psN 4) 4 (kwN 4) (fun us ws => us ++ ws) (fun vs zs => vs ++ zs) := kbn_of F 4 _ fun kV doc pm an cdv ct us ws l1 l2 => match us, ws, l1, l2 with
  | [a, b, c, d], [e0], _, _ => by kernel_rfl
theorem c4 (F : FunD K x q (sArgs s4) body scope [] [("most", .int 2000)] f fd) : ∃ ds, Vals [.int 2000] ds ∧ L2.Binds K fd (psN 4) ds := F.binds0 4 (by simp) (by kernel_rfl) fun D doc pm an cdv ct us ks l1 l2 => match us, ks, l1, l2 with
  | [a, b, c, d], [e0], _, _ => ⟨_, _, _, _, _, _, rfl, rfl,  rfl⟩
theorem b5 (F : FunD K x q (sArgs s5) body scope [] kws f fd) : L2.Binds K fd (psN 5) [] := F.bindsN fun kV doc pm an cdv ct us hl => match us, hl with
  | [a], _ => by kernel_rfl
theorem b6 (F : FunD K x q (sArgs s6) body scope [] kws f fd) : L2.Binds K fd (psN 6) [] := F.bindsN fun kV doc pm an cdv ct us hl => match us, hl with
  | [a], _ => by kernel_rfl
theorem b7 (F : FunD K x q (sArgs s7) body scope [] kws f fd) : L2.Binds K fd (psN 7) [] := F.bindsN fun kV doc pm an cdv ct us hl => match us, hl with
  | [a], _ => by kernel_rfl
theorem b8 (F : FunD K x q (sArgs s8) body scope [] kws f fd) : L2.Binds K fd (psN 8) [] := F.bindsN fun kV doc pm an cdv ct us hl => match us, hl with
  | [a, b], _ => by kernel_rfl
theorem b9 (F : FunD K x q (sArgs s9) body scope [] kws f fd) : L2.Binds K fd (psN 9) [] := F.bindsN fun kV doc pm an cdv ct us hl => match us, hl with
  | [a], _ => by kernel_rfl
theorem b10 (F : FunD K x q (sArgs s10) body scope [] kws f fd) : L2.Binds K fd (psN 10) [] := F.bindsN fun kV doc pm an cdv ct us hl => match us, hl with
  | [a, b, c], _ => by kernel_rfl
theorem b11 (F : FunD K x q (sArgs s11) body scope [] kws f fd) : L2.Binds K fd (psN 11) [] := F.bindsN fun kV doc pm an cdv ct us hl => match us, hl with
  | [a, b], _ => by kernel_rfl
theorem b12 (F : FunD K x q (sArgs s12) body scope [] kws f fd) : L2.Binds K fd (psN 12) [] := F.bindsN fun kV doc pm an cdv ct us hl => match us, hl with
  | [a, b], _ => by kernel_rfl
theorem b13 (F : FunD K x q (sArgs s13) body scope [] kws f fd) : L2.Binds K fd (psN 13) [] := F.bindsN fun kV doc pm an cdv ct us hl => match us, hl with
  | [a], _ => by kernel_rfl
theorem b14 (F : FunD K x q (sArgs s14) body scope [] kws f fd) : L2.Binds K fd (psN 14) [] := F.bindsN fun kV doc pm an cdv ct us hl => match us, hl with
  | [a], _ => by kernel_rfl
theorem b15 (F : FunD K x q (sArgs s15) body scope [] kws f fd) : KBn K fd (psN 15) 3 (kwN 15) (fun us ws => us ++ ws) (fun vs zs => vs ++ zs) := kbn_of F 3 _ fun kV doc pm an cdv ct us ws l1 l2 => match us, ws, l1, l2 with
  | [a, b, c], [e0], _, _ => by kernel_rfl
theorem c15 (F : FunD K x q (sArgs s15) body scope [] [("most", .int 2000)] f fd) : ∃ ds, Vals [.int 2000] ds ∧ L2.Binds K fd (psN 15) ds := F.binds0 3 (by simp) (by kernel_rfl) fun D doc pm an cdv ct us ks l1 l2 => match us, ks, l1, l2 with
  | [a, b, c], [e0], _, _ => ⟨_, _, _, _, _, _, rfl, rfl,  rfl⟩
theorem b16 (F : FunD K x q (sArgs s16) body scope [] kws f fd) : KBn K fd (psN 16) 4 (kwN 16) (fun us ws => us ++ ws) (fun vs zs => vs ++ zs) := kbn_of F 4 _ fun kV doc pm an cdv ct us ws l1 l2 => match us, ws, l1, l2 with
  | [a, b, c, d], [e0], _, _ => by kernel_rfl
theorem c16 (F : FunD K x q (sArgs s16) body scope [] [("most", .int 2000)] f fd) : ∃ ds, Vals [.int 2000] ds ∧ L2.Binds K fd (psN 16) ds := F.binds0 4 (by simp) (by kernel_rfl) fun D doc pm an cdv ct us ks l1 l2 => match us, ks, l1, l2 with
  | [a, b, c, d], [e0], _, _ => ⟨_, _, _, _, _, _, rfl, rfl,  rfl⟩
theorem b21 (F : FunD K x q (sArgs s21) body scope [] kws f fd) : L2.Binds K fd (psN 21) [] := F.bindsN fun kV doc pm an cdv ct us hl => match us, hl with
  | [a], _ => by kernel_rfl
theorem b31 (F : FunD K x q (sArgs s31) body scope [] kws f fd) : L2.Binds K fd (psN 31) [] := F.bindsN fun kV doc pm an cdv ct us hl => match us, hl with
  | [a], _ => by kernel_rfl
theorem b34 (F : FunD K x q (sArgs s34) body scope [] kws f fd) : L2.Binds K fd (psN 34) [] := F.bindsN fun kV doc pm an cdv ct us hl => match us, hl with
  | [a], _ => by kernel_rfl
theorem b35 (F : FunD K x q (sArgs s35) body scope [] kws f fd) : L2.Binds K fd (psN 35) [] := F.bindsN fun kV doc pm an cdv ct us hl => match us, hl with
  | [a, b], _ => by kernel_rfl
theorem b36 (F : FunD K x q (sArgs s36) body scope [] kws f fd) : L2.Binds K fd (psN 36) [] := F.bindsN fun kV doc pm an cdv ct us hl => match us, hl with
  | [a, b], _ => by kernel_rfl
theorem b37 (F : FunD K x q (sArgs s37) body scope [] kws f fd) : L2.Binds K fd (psN 37) [] := F.bindsN fun kV doc pm an cdv ct us hl => match us, hl with
  | [a], _ => by kernel_rfl
theorem b44 (F : FunD K x q (sArgs s44) body scope [] kws f fd) : L2.Binds K fd (psN 44) [] := F.bindsN fun kV doc pm an cdv ct us hl => match us, hl with
  | [a, b], _ => by kernel_rfl
theorem b45 (F : FunD K x q (sArgs s45) body scope [] kws f fd) : L2.Binds K fd (psN 45) [] := F.bindsN fun kV doc pm an cdv ct us hl => match us, hl with
  | [a, b, c], _ => by kernel_rfl
end
theorem sc1 : FnScope (loN 1) (psN 1) (sScope s1) := ⟨rfl, rfl, rfl, by decide +kernel, rfl, by decide +kernel, by decide +kernel⟩
theorem sc2 : FnScope (loN 2) (psN 2) (sScope s2) := ⟨rfl, rfl, rfl, by decide +kernel, rfl, by decide +kernel, by decide +kernel⟩
theorem sc3 : FnScope (loN 3) (psN 3) (sScope s3) := ⟨rfl, rfl, rfl, by decide +kernel, rfl, by decide +kernel, by decide +kernel⟩
theorem sc4 : FnScope (loN 4) (psN 4) (sScope s4) := ⟨rfl, rfl, rfl, by decide +kernel, rfl, by decide +kernel, by decide +kernel⟩
theorem sc5 : FnScope (loN 5) (psN 5) (sScope s5) := ⟨rfl, rfl, rfl, by decide +kernel, rfl, by decide +kernel, by decide +kernel⟩
theorem sc6 : FnScope (loN 6) (psN 6) (sScope s6) := ⟨rfl, rfl, rfl, by decide +kernel, rfl, by decide +kernel, by decide +kernel⟩
theorem sc7 : FnScope (loN 7) (psN 7) (sScope s7) := ⟨rfl, rfl, rfl, by decide +kernel, rfl, by decide +kernel, by decide +kernel⟩
theorem sc8 : FnScope (loN 8) (psN 8) (sScope s8) := ⟨rfl, rfl, rfl, by decide +kernel, rfl, by decide +kernel, by decide +kernel⟩
theorem sc9 : FnScope (loN 9) (psN 9) (sScope s9) := ⟨rfl, rfl, rfl, by decide +kernel, rfl, by decide +kernel, by decide +kernel⟩
theorem sc10 : FnScope (loN 10) (psN 10) (sScope s10) := ⟨rfl, rfl, rfl, by decide +kernel, rfl, by decide +kernel, by decide +kernel⟩
theorem sc11 : FnScope (loN 11) (psN 11) (sScope s11) := ⟨rfl, rfl, rfl, by decide +kernel, rfl, by decide +kernel, by decide +kernel⟩
theorem sc12 : FnScope (loN 12) (psN 12) (sScope s12) := ⟨rfl, rfl, rfl, by decide +kernel, rfl, by decide +kernel, by decide +kernel⟩
theorem sc13 : FnScope (loN 13) (psN 13) (sScope s13) := ⟨rfl, rfl, rfl, by decide +kernel, rfl, by decide +kernel, by decide +kernel⟩
theorem sc14 : FnScope (loN 14) (psN 14) (sScope s14) := ⟨rfl, rfl, rfl, by decide +kernel, rfl, by decide +kernel, by decide +kernel⟩
theorem sc15 : FnScope (loN 15) (psN 15) (sScope s15) := ⟨rfl, rfl, rfl, by decide +kernel, rfl, by decide +kernel, by decide +kernel⟩
theorem sc16 : FnScope (loN 16) (psN 16) (sScope s16) := ⟨rfl, rfl, rfl, by decide +kernel, rfl, by decide +kernel, by decide +kernel⟩
theorem sc21 : FnScope (loN 21) (psN 21) (sScope s21) := ⟨rfl, rfl, rfl, by decide +kernel, rfl, by decide +kernel, by decide +kernel⟩
theorem sc31 : FnScope (loN 31) (psN 31) (sScope s31) := ⟨rfl, rfl, rfl, by decide +kernel, rfl, by decide +kernel, by decide +kernel⟩
theorem sc34 : FnScope (loN 34) (psN 34) (sScope s34) := ⟨rfl, rfl, rfl, by decide +kernel, rfl, by decide +kernel, by decide +kernel⟩
theorem sc35 : FnScope (loN 35) (psN 35) (sScope s35) := ⟨rfl, rfl, rfl, by decide +kernel, rfl, by decide +kernel, by decide +kernel⟩
theorem sc36 : FnScope (loN 36) (psN 36) (sScope s36) := ⟨rfl, rfl, rfl, by decide +kernel, rfl, by decide +kernel, by decide +kernel⟩
theorem sc37 : FnScope (loN 37) (psN 37) (sScope s37) := ⟨rfl, rfl, rfl, by decide +kernel, rfl, by decide +kernel, by decide +kernel⟩
theorem sc44 : FnScope (loN 44) (psN 44) (sScope s44) := ⟨rfl, rfl, rfl, by decide +kernel, rfl, by decide +kernel, by decide +kernel⟩
theorem sc45 : FnScope (loN 45) (psN 45) (sScope s45) := ⟨rfl, rfl, rfl, by decide +kernel, rfl, by decide +kernel, by decide +kernel⟩
def dd : Nat → Option He.DefD
  | 1 => some ⟨("shown", none), "shown", "shown", sArgs s1, sBody s1, sScope s1, [], []⟩
  | 2 => some ⟨("Frame", some "__init__"), "__init__", "Frame.__init__", sArgs s2, sBody s2, sScope s2, [], [("born", .int 0), ("goes_on", .non), ("called_at", .non)]⟩
  | 3 => some ⟨("reckoned", none), "reckoned", "reckoned", sArgs s3, sBody s3, sScope s3, [], []⟩
  | 4 => some ⟨("Runner", some "__init__"), "__init__", "Runner.__init__", sArgs s4, sBody s4, sScope s4, [], [("most", .int 2000)]⟩
  | 5 => some ⟨("Runner", some "go_on"), "go_on", "Runner.go_on", sArgs s5, sBody s5, sScope s5, [], []⟩
  | 6 => some ⟨("Runner", some "next"), "next", "Runner.next", sArgs s6, sBody s6, sScope s6, [], []⟩
  | 7 => some ⟨("Runner", some "where"), "where", "Runner.where", sArgs s7, sBody s7, sScope s7, [], []⟩
  | 8 => some ⟨("Runner", some "fault"), "fault", "Runner.fault", sArgs s8, sBody s8, sScope s8, [], []⟩
  | 9 => some ⟨("Runner", some "do"), "do", "Runner.do", sArgs s9, sBody s9, sScope s9, [], []⟩
  | 10 => some ⟨("Runner", some "reckon"), "reckon", "Runner.reckon", sArgs s10, sBody s10, sScope s10, [], []⟩
  | 11 => some ⟨("Runner", some "call"), "call", "Runner.call", sArgs s11, sBody s11, sScope s11, [], []⟩
  | 12 => some ⟨("Runner", some "give"), "give", "Runner.give", sArgs s12, sBody s12, sScope s12, [], []⟩
  | 13 => some ⟨("Runner", some "said"), "said", "Runner.said", sArgs s13, sBody s13, sScope s13, [], []⟩
  | 14 => some ⟨("Runner", some "outcome"), "outcome", "Runner.outcome", sArgs s14, sBody s14, sScope s14, [], []⟩
  | 15 => some ⟨("run", none), "run", "run", sArgs s15, sBody s15, sScope s15, [], [("most", .int 2000)]⟩
  | 16 => some ⟨("Looker", some "__init__"), "__init__", "Looker.__init__", sArgs s16, sBody s16, sScope s16, [], [("most", .int 2000)]⟩
  | 21 => some ⟨("Looker", some "step"), "step", "Looker.step", sArgs s21, sBody s21, sScope s21, [], []⟩
  | 31 => some ⟨("Looker", some "where"), "where", "Looker.where", sArgs s31, sBody s31, sScope s31, [], []⟩
  | 34 => some ⟨("Looker", some "frames"), "frames", "Looker.frames", sArgs s34, sBody s34, sScope s34, [], []⟩
  | 35 => some ⟨("Looker", some "frame"), "frame", "Looker.frame", sArgs s35, sBody s35, sScope s35, [], []⟩
  | 36 => some ⟨("Looker", some "seen"), "seen", "Looker.seen", sArgs s36, sBody s36, sScope s36, [], []⟩
  | 37 => some ⟨("Looker", some "lasting"), "lasting", "Looker.lasting", sArgs s37, sBody s37, sScope s37, [], []⟩
  | 44 => some ⟨("_law_like", none), "_law_like", "_law_like", sArgs s44, sBody s44, sScope s44, [], []⟩
  | 45 => some ⟨("_law_by_hand", none), "_law_by_hand", "_law_by_hand", sArgs s45, sBody s45, sScope s45, [], []⟩
  | _ => none
def dLaw : He.DefD := ⟨("law", none), "law", "law", sArgs sLaw, sBody sLaw, sScope sLaw, [], []⟩
def dDice : He.DefD := ⟨("_law_dice", none), "_law_dice", "_law_dice", sArgs sDice, sBody sDice, sScope sDice, [], []⟩
def dNext : He.DefD := ⟨("_law_next", none), "_law_next", "_law_next", sArgs sNext, sBody sNext, sScope sNext, [], []⟩
def idxL : List Nat := [1, 2, 3, 4, 5, 6, 7, 8, 9, 10, 11, 12, 13, 14, 15, 16, 21, 31, 34, 35, 36, 37, 44, 45]
def fnL : List He.DefD := [dLaw, dDice, dNext] ++ idxL.filterMap dd
theorem dd_mem {j : Nat} {d : He.DefD} (h : dd j = some d) : d ∈ fnL := by
  refine List.mem_append_right _ (List.mem_filterMap.mpr ⟨j, ?_, h⟩)
  unfold dd at h
  split at h
  all_goals first | (cases h; done) | decide
def gloL : List Str := (["law", "_law_dice", "_law_next", "WORDS", "KINDS", "SIZES", "Frame", "Runner", "Looker", "shown", "reckoned", "run", "_law_like", "_law_by_hand"] : List String).map Str.ofString
def freeL : List Str := (["len", "int", "list", "tuple", "isinstance", "bool", "str", "range", "enumerate", "zip"] : List String).map Str.ofString
def intL : List (Str × Int) := [("ROW", 1), ("ROWS", 2000), ("MOST_ROWS", 100000), ("MOST_CALLS", 32), ("FAR", 1000000000000)]
def clsL : List Str := (["Frame", "Runner", "Looker"] : List String).map Str.ofString
def methL : List (Nat × Nat) := [(1, 17), (1, 25), (1, 20), (1, 19), (1, 18), (1, 23), (1, 21), (1, 22), (1, 26), (1, 24), (2, 32), (2, 20), (2, 35), (2, 36), (2, 37), (2, 38)]
def faL : List He.Fa := gloL.map .glo ++ (freeL.map .free ++ (intL.map (fun p => .int p.1 p.2) ++ ([.str "ALWAYS" ""] ++ (clsL.map .cls ++ (clsL.map .mkr ++ (fas.map (fun p => .noat (clN p.1) (nth' names p.2)) ++ methL.map fun p => .meth (clN p.1) (nth' names p.2)))))))
def wordsZ : List (List Nat) := [[], [114,111,119], [112,117,115,104], [108,111,97,100], [115,116,111,114,101], [102,101,116,99,104], [108,97,121], [97,100,100], [116,97,107,101], [116,105,109,101,115], [111,118,101,114], [114,101,115,116], [108,101,115,115], [115,97,109,101], [106,117,109,112], [117,110,108,101,115,115], [99,97,108,108], [103,105,118,101], [115,97,121], [110,111,116,104,105,110,103]]
def kindsZ : List (List Nat) := [[110,117,109], [121,101,115]]
def zDv (zs : List (List Nat)) : List He.Dv := zs.map fun z => .str (strV z)
def ex (K : PySem.W.Frag) : Bool := He.tupB K "WORDS" (zDv wordsZ) && (He.tupB K "KINDS" (zDv kindsZ) && gdB K (He.ga K "SIZES") sizes)
theorem rus_z {W : Wd} {ι : Nat → Addr} {n : Nat} {H : Hp} {K : PySem.W.Frag} : ∀ {zs : List (List Nat)}, zs.all (fun z => PyData.strOk (strV z)) = true → RUs W ι n H (zs.map U.str) ((zDv zs).map (He.Dv.v K))
  | [], _ => .nil
  | z :: r, h => by
    obtain ⟨h1, h2⟩ := and2 (show (PyData.strOk (strV z) && r.all (fun z => PyData.strOk (strV z))) = true from h)
    exact .cons (.str z h1) (rus_z h2)
theorem fa_mem {c f : Nat} (h : fa c f = true) : (c, f) ∈ fas := by
  unfold fa at h
  split at h
  all_goals first | (cases h; done) | decide
theorem names_nd : names.Nodup := by decide +kernel
theorem names_inj (i j : Nat) (hi : i < names.length) (hj : j < names.length) (h : nth' names i = nth' names j) : i = j := by
  unfold nth' at h
  rw [List.getD_eq_getElem?_getD, List.getD_eq_getElem?_getD, List.getElem?_eq_getElem hi, List.getElem?_eq_getElem hj] at h
  exact (List.getElem_inj names_nd).mp h
/-- the program's table, FT the function objects -/
def tb (K : PySem.W.Frag) (FT : Nat → FuncData) : Tb where
  FA := fun j => match dd j with
    | some d => He.fAd K d.at_
    | none => 0
  FT := FT
  PS := psN
  KW := kwN
  df := dfN
  isF := isFN
  cl := clN
  gl := glN
  gd := gdN
def wd (P : Program) (w : World) (K : PySem.W.Frag) (mg : Str → Option Value) (base : Heap) (θ : Nat → Int) : Wd := ⟨P, w, K, mg, base, θ, fun c => He.ga K (clN c), nth' names, names.length⟩
section
variable {P : Program} {w : World} {K : PySem.W.Frag} {mg : Str → Option Value} {base h : Heap} {θ : Nat → Int} {FT : Nat → FuncData} (X : K.In h) (G : h.Ns mainGlobals mg) (c : He.SaysD faL fnL K) (hex : ex K = true)
  (hF : ∀ j d, dd j = some d → FunD K d.name d.qual d.params d.body d.scope (d.dvs K) (d.kws K) (He.fAd K d.at_) (FT j))
include X G c in
theorem gl_ok {x : Str} (hx : x ∈ gloL) : mg x = some (.ref (He.ga K x)) := He.glo_ok X G (c.facts (f := .glo x) (List.mem_append_left _ (List.mem_map.mpr ⟨x, hx, rfl⟩)))
include X G c in
theorem fr_ok {x : Str} (hx : x ∈ freeL) : mg x = none := He.free_ok X G (c.facts (f := .free x) (List.mem_append_right _ (List.mem_append_left _ (List.mem_map.mpr ⟨x, hx, rfl⟩))))
include X G c in
theorem in_ok {p : Str × Int} (hx : p ∈ intL) : ∃ t, mg p.1 = some (.int p.2 t) := He.int_ok X G (c.facts (f := .int p.1 p.2) (List.mem_append_right _ (List.mem_append_right _ (List.mem_append_left _ (List.mem_map.mpr ⟨p, hx, rfl⟩)))))
include X G c in
theorem al_ok : ∃ t, mg "ALWAYS" = some (.str "" t) := He.str_ok X G (c.facts (f := .str "ALWAYS" "") (List.mem_append_right _ (List.mem_append_right _ (List.mem_append_right _ (List.mem_append_left _ (List.mem_singleton.mpr rfl))))))
include c in
theorem cl_ok {x : Str} (hx : x ∈ clsL) : Cls K (He.ga K x) := He.cls_ok (c.facts (f := .cls x) (List.mem_append_right _ (List.mem_append_right _ (List.mem_append_right _ (List.mem_append_right _ (List.mem_append_left _ (List.mem_map.mpr ⟨x, hx, rfl⟩)))))))
include c in
theorem mk_ok {x : Str} (hx : x ∈ clsL) : Mk K (He.ga K x) (He.ma K (He.ga K x) "__init__") := He.mkr_ok (c.facts (f := .mkr x) (List.mem_append_right _ (List.mem_append_right _ (List.mem_append_right _ (List.mem_append_right _ (List.mem_append_right _ (List.mem_append_left _ (List.mem_map.mpr ⟨x, hx, rfl⟩))))))))
include c in
theorem na_ok {p : Nat × Nat} (hx : p ∈ fas) : NoAttr K (He.ga K (clN p.1)) (nth' names p.2) := He.noat_ok (c.facts (f := .noat (clN p.1) (nth' names p.2)) (List.mem_append_right _ (List.mem_append_right _ (List.mem_append_right _ (List.mem_append_right _ (List.mem_append_right _ (List.mem_append_right _ (List.mem_append_left _ (List.mem_map.mpr ⟨p, hx, rfl⟩)))))))))
include c in
theorem me_ok {p : Nat × Nat} (hx : p ∈ methL) : Meth K (He.ga K (clN p.1)) (nth' names p.2) (He.ma K (He.ga K (clN p.1)) (nth' names p.2)) := He.meth_ok (c.facts (f := .meth (clN p.1) (nth' names p.2)) (List.mem_append_right _ (List.mem_append_right _ (List.mem_append_right _ (List.mem_append_right _ (List.mem_append_right _ (List.mem_append_right _ (List.mem_append_right _ (List.mem_map.mpr ⟨p, hx, rfl⟩)))))))))
include hF in
theorem db1 : DefB (wd P w K mg base θ) (tb K FT) 1 d1 := by
  have F := hF 1 _ rfl
  exact ⟨rfl, rfl, ⟨[], [], fun _ _ _ => .nil, .nil, b1 F⟩, .inl rfl⟩
include hF in
theorem dt1 : DefT (wd P w K mg base θ) (tb K FT) nmz 1 d1 := ⟨_, _, _, _, _, _, loN 1, 30, hF 1 _ rfl, sc1, rfl, m1⟩
include hF in
theorem db2 : DefB (wd P w K mg base θ) (tb K FT) 2 d2 := by
  have F := hF 2 _ rfl
  obtain ⟨ds, h1, h2⟩ := c2 F
  exact ⟨rfl, rfl, ⟨_, ds, fun _ _ _ => .cons (.int (.lit (0))) (.cons .non (.cons .non (.nil))), h1, h2⟩, .inr (b2 F)⟩
include hF in
theorem dt2 : DefT (wd P w K mg base θ) (tb K FT) nmz 2 d2 := ⟨_, _, _, _, _, _, loN 2, 30, hF 2 _ rfl, sc2, rfl, m2⟩
include hF in
theorem db3 : DefB (wd P w K mg base θ) (tb K FT) 3 d3 := by
  have F := hF 3 _ rfl
  exact ⟨rfl, rfl, ⟨[], [], fun _ _ _ => .nil, .nil, b3 F⟩, .inl rfl⟩
include hF in
theorem dt3 : DefT (wd P w K mg base θ) (tb K FT) nmz 3 d3 := ⟨_, _, _, _, _, _, loN 3, 30, hF 3 _ rfl, sc3, rfl, m3⟩
include hF in
theorem db4 : DefB (wd P w K mg base θ) (tb K FT) 4 d4 := by
  have F := hF 4 _ rfl
  obtain ⟨ds, h1, h2⟩ := c4 F
  exact ⟨rfl, rfl, ⟨_, ds, fun _ _ _ => .cons (.int (.lit (2000))) (.nil), h1, h2⟩, .inr (b4 F)⟩
include hF in
theorem dt4 : DefT (wd P w K mg base θ) (tb K FT) nmz 4 d4 := ⟨_, _, _, _, _, _, loN 4, 30, hF 4 _ rfl, sc4, rfl, m4⟩
include hF in
theorem db5 : DefB (wd P w K mg base θ) (tb K FT) 5 d5 := by
  have F := hF 5 _ rfl
  exact ⟨rfl, rfl, ⟨[], [], fun _ _ _ => .nil, .nil, b5 F⟩, .inl rfl⟩
include hF in
theorem dt5 : DefT (wd P w K mg base θ) (tb K FT) nmz 5 d5 := ⟨_, _, _, _, _, _, loN 5, 30, hF 5 _ rfl, sc5, rfl, m5⟩
include hF in
theorem db6 : DefB (wd P w K mg base θ) (tb K FT) 6 d6 := by
  have F := hF 6 _ rfl
  exact ⟨rfl, rfl, ⟨[], [], fun _ _ _ => .nil, .nil, b6 F⟩, .inl rfl⟩
include hF in
theorem dt6 : DefT (wd P w K mg base θ) (tb K FT) nmz 6 d6 := ⟨_, _, _, _, _, _, loN 6, 30, hF 6 _ rfl, sc6, rfl, m6⟩
include hF in
theorem db7 : DefB (wd P w K mg base θ) (tb K FT) 7 d7 := by
  have F := hF 7 _ rfl
  exact ⟨rfl, rfl, ⟨[], [], fun _ _ _ => .nil, .nil, b7 F⟩, .inl rfl⟩
include hF in
theorem dt7 : DefT (wd P w K mg base θ) (tb K FT) nmz 7 d7 := ⟨_, _, _, _, _, _, loN 7, 30, hF 7 _ rfl, sc7, rfl, m7⟩
include hF in
theorem db8 : DefB (wd P w K mg base θ) (tb K FT) 8 d8 := by
  have F := hF 8 _ rfl
  exact ⟨rfl, rfl, ⟨[], [], fun _ _ _ => .nil, .nil, b8 F⟩, .inl rfl⟩
include hF in
theorem dt8 : DefT (wd P w K mg base θ) (tb K FT) nmz 8 d8 := ⟨_, _, _, _, _, _, loN 8, 30, hF 8 _ rfl, sc8, rfl, m8⟩
include hF in
theorem db9 : DefB (wd P w K mg base θ) (tb K FT) 9 d9 := by
  have F := hF 9 _ rfl
  exact ⟨rfl, rfl, ⟨[], [], fun _ _ _ => .nil, .nil, b9 F⟩, .inl rfl⟩
include hF in
theorem dt9 : DefT (wd P w K mg base θ) (tb K FT) nmz 9 d9 := ⟨_, _, _, _, _, _, loN 9, 30, hF 9 _ rfl, sc9, rfl, m9⟩
include hF in
theorem db10 : DefB (wd P w K mg base θ) (tb K FT) 10 d10 := by
  have F := hF 10 _ rfl
  exact ⟨rfl, rfl, ⟨[], [], fun _ _ _ => .nil, .nil, b10 F⟩, .inl rfl⟩
include hF in
theorem dt10 : DefT (wd P w K mg base θ) (tb K FT) nmz 10 d10 := ⟨_, _, _, _, _, _, loN 10, 30, hF 10 _ rfl, sc10, rfl, m10⟩
include hF in
theorem db11 : DefB (wd P w K mg base θ) (tb K FT) 11 d11 := by
  have F := hF 11 _ rfl
  exact ⟨rfl, rfl, ⟨[], [], fun _ _ _ => .nil, .nil, b11 F⟩, .inl rfl⟩
include hF in
theorem dt11 : DefT (wd P w K mg base θ) (tb K FT) nmz 11 d11 := ⟨_, _, _, _, _, _, loN 11, 30, hF 11 _ rfl, sc11, rfl, m11⟩
include hF in
theorem db12 : DefB (wd P w K mg base θ) (tb K FT) 12 d12 := by
  have F := hF 12 _ rfl
  exact ⟨rfl, rfl, ⟨[], [], fun _ _ _ => .nil, .nil, b12 F⟩, .inl rfl⟩
include hF in
theorem dt12 : DefT (wd P w K mg base θ) (tb K FT) nmz 12 d12 := ⟨_, _, _, _, _, _, loN 12, 30, hF 12 _ rfl, sc12, rfl, m12⟩
include hF in
theorem db13 : DefB (wd P w K mg base θ) (tb K FT) 13 d13 := by
  have F := hF 13 _ rfl
  exact ⟨rfl, rfl, ⟨[], [], fun _ _ _ => .nil, .nil, b13 F⟩, .inl rfl⟩
include hF in
theorem dt13 : DefT (wd P w K mg base θ) (tb K FT) nmz 13 d13 := ⟨_, _, _, _, _, _, loN 13, 30, hF 13 _ rfl, sc13, rfl, m13⟩
include hF in
theorem db14 : DefB (wd P w K mg base θ) (tb K FT) 14 d14 := by
  have F := hF 14 _ rfl
  exact ⟨rfl, rfl, ⟨[], [], fun _ _ _ => .nil, .nil, b14 F⟩, .inl rfl⟩
include hF in
theorem dt14 : DefT (wd P w K mg base θ) (tb K FT) nmz 14 d14 := ⟨_, _, _, _, _, _, loN 14, 30, hF 14 _ rfl, sc14, rfl, m14⟩
include hF in
theorem db15 : DefB (wd P w K mg base θ) (tb K FT) 15 d15 := by
  have F := hF 15 _ rfl
  obtain ⟨ds, h1, h2⟩ := c15 F
  exact ⟨rfl, rfl, ⟨_, ds, fun _ _ _ => .cons (.int (.lit (2000))) (.nil), h1, h2⟩, .inr (b15 F)⟩
include hF in
theorem dt15 : DefT (wd P w K mg base θ) (tb K FT) nmz 15 d15 := ⟨_, _, _, _, _, _, loN 15, 30, hF 15 _ rfl, sc15, rfl, m15⟩
include hF in
theorem db16 : DefB (wd P w K mg base θ) (tb K FT) 16 d16 := by
  have F := hF 16 _ rfl
  obtain ⟨ds, h1, h2⟩ := c16 F
  exact ⟨rfl, rfl, ⟨_, ds, fun _ _ _ => .cons (.int (.lit (2000))) (.nil), h1, h2⟩, .inr (b16 F)⟩
include hF in
theorem dt16 : DefT (wd P w K mg base θ) (tb K FT) nmz 16 d16 := ⟨_, _, _, _, _, _, loN 16, 30, hF 16 _ rfl, sc16, rfl, m16⟩
include hF in
theorem db21 : DefB (wd P w K mg base θ) (tb K FT) 21 d21 := by
  have F := hF 21 _ rfl
  exact ⟨rfl, rfl, ⟨[], [], fun _ _ _ => .nil, .nil, b21 F⟩, .inl rfl⟩
include hF in
theorem dt21 : DefT (wd P w K mg base θ) (tb K FT) nmz 21 d21 := ⟨_, _, _, _, _, _, loN 21, 30, hF 21 _ rfl, sc21, rfl, m21⟩
include hF in
theorem db31 : DefB (wd P w K mg base θ) (tb K FT) 31 d31 := by
  have F := hF 31 _ rfl
  exact ⟨rfl, rfl, ⟨[], [], fun _ _ _ => .nil, .nil, b31 F⟩, .inl rfl⟩
include hF in
theorem dt31 : DefT (wd P w K mg base θ) (tb K FT) nmz 31 d31 := ⟨_, _, _, _, _, _, loN 31, 30, hF 31 _ rfl, sc31, rfl, m31⟩
include hF in
theorem db34 : DefB (wd P w K mg base θ) (tb K FT) 34 d34 := by
  have F := hF 34 _ rfl
  exact ⟨rfl, rfl, ⟨[], [], fun _ _ _ => .nil, .nil, b34 F⟩, .inl rfl⟩
include hF in
theorem dt34 : DefT (wd P w K mg base θ) (tb K FT) nmz 34 d34 := ⟨_, _, _, _, _, _, loN 34, 30, hF 34 _ rfl, sc34, rfl, m34⟩
include hF in
theorem db35 : DefB (wd P w K mg base θ) (tb K FT) 35 d35 := by
  have F := hF 35 _ rfl
  exact ⟨rfl, rfl, ⟨[], [], fun _ _ _ => .nil, .nil, b35 F⟩, .inl rfl⟩
include hF in
theorem dt35 : DefT (wd P w K mg base θ) (tb K FT) nmz 35 d35 := ⟨_, _, _, _, _, _, loN 35, 30, hF 35 _ rfl, sc35, rfl, m35⟩
include hF in
theorem db36 : DefB (wd P w K mg base θ) (tb K FT) 36 d36 := by
  have F := hF 36 _ rfl
  exact ⟨rfl, rfl, ⟨[], [], fun _ _ _ => .nil, .nil, b36 F⟩, .inl rfl⟩
include hF in
theorem dt36 : DefT (wd P w K mg base θ) (tb K FT) nmz 36 d36 := ⟨_, _, _, _, _, _, loN 36, 30, hF 36 _ rfl, sc36, rfl, m36⟩
include hF in
theorem db37 : DefB (wd P w K mg base θ) (tb K FT) 37 d37 := by
  have F := hF 37 _ rfl
  exact ⟨rfl, rfl, ⟨[], [], fun _ _ _ => .nil, .nil, b37 F⟩, .inl rfl⟩
include hF in
theorem dt37 : DefT (wd P w K mg base θ) (tb K FT) nmz 37 d37 := ⟨_, _, _, _, _, _, loN 37, 30, hF 37 _ rfl, sc37, rfl, m37⟩
include hF in
theorem db44 : DefB (wd P w K mg base θ) (tb K FT) 44 d44 := by
  have F := hF 44 _ rfl
  exact ⟨rfl, rfl, ⟨[], [], fun _ _ _ => .nil, .nil, b44 F⟩, .inl rfl⟩
include hF in
theorem dt44 : DefT (wd P w K mg base θ) (tb K FT) nmz 44 d44 := ⟨_, _, _, _, _, _, loN 44, 30, hF 44 _ rfl, sc44, rfl, m44⟩
include hF in
theorem db45 : DefB (wd P w K mg base θ) (tb K FT) 45 d45 := by
  have F := hF 45 _ rfl
  exact ⟨rfl, rfl, ⟨[], [], fun _ _ _ => .nil, .nil, b45 F⟩, .inl rfl⟩
include hF in
theorem dt45 : DefT (wd P w K mg base θ) (tb K FT) nmz 45 d45 := ⟨_, _, _, _, _, _, loN 45, 30, hF 45 _ rfl, sc45, rfl, m45⟩
include hF in
theorem db_all : ∀ j fd, pg.defs j = some fd → DefB (wd P w K mg base θ) (tb K FT) j fd := by
  intro j fd h
  replace h : defs j = some fd := h
  unfold defs at h
  split at h
  · cases h
    exact db1 hF
  · cases h
    exact db2 hF
  · cases h
    exact db3 hF
  · cases h
    exact db4 hF
  · cases h
    exact db5 hF
  · cases h
    exact db6 hF
  · cases h
    exact db7 hF
  · cases h
    exact db8 hF
  · cases h
    exact db9 hF
  · cases h
    exact db10 hF
  · cases h
    exact db11 hF
  · cases h
    exact db12 hF
  · cases h
    exact db13 hF
  · cases h
    exact db14 hF
  · cases h
    exact db15 hF
  · cases h
    exact db16 hF
  · cases h
    exact db21 hF
  · cases h
    exact db31 hF
  · cases h
    exact db34 hF
  · cases h
    exact db35 hF
  · cases h
    exact db36 hF
  · cases h
    exact db37 hF
  · cases h
    exact db44 hF
  · cases h
    exact db45 hF
  · cases h
include hF in
theorem dt_all : ∀ j fd, pg.defs j = some fd → DefT (wd P w K mg base θ) (tb K FT) nmz j fd := by
  intro j fd h
  replace h : defs j = some fd := h
  unfold defs at h
  split at h
  · cases h
    exact dt1 hF
  · cases h
    exact dt2 hF
  · cases h
    exact dt3 hF
  · cases h
    exact dt4 hF
  · cases h
    exact dt5 hF
  · cases h
    exact dt6 hF
  · cases h
    exact dt7 hF
  · cases h
    exact dt8 hF
  · cases h
    exact dt9 hF
  · cases h
    exact dt10 hF
  · cases h
    exact dt11 hF
  · cases h
    exact dt12 hF
  · cases h
    exact dt13 hF
  · cases h
    exact dt14 hF
  · cases h
    exact dt15 hF
  · cases h
    exact dt16 hF
  · cases h
    exact dt21 hF
  · cases h
    exact dt31 hF
  · cases h
    exact dt34 hF
  · cases h
    exact dt35 hF
  · cases h
    exact dt36 hF
  · cases h
    exact dt37 hF
  · cases h
    exact dt44 hF
  · cases h
    exact dt45 hF
  · cases h
include X G c hex hF in
theorem pg_ok : PgOk (wd P w K mg base θ) pg (tb K FT) where
  nm := ⟨names_inj, fun cx f h => ⟨(by
    have z := fa_mem h
    have q : ∀ p ∈ fas, p.2 < names.length := by decide
    exact q _ z), na_ok c (fa_mem h)⟩⟩
  glo := by
    intro g u h
    replace h : glo g = some u := h
    obtain ⟨e1, e⟩ := and2 (show (He.tupB K "WORDS" (zDv wordsZ) && (He.tupB K "KINDS" (zDv kindsZ) && gdB K (He.ga K "SIZES") sizes)) = true from hex)
    obtain ⟨e2, e3⟩ := and2 e
    unfold glo at h
    split at h
    · cases h
      exact ⟨.ref (He.ga K "WORDS"), _, gl_ok X G c (x := "WORDS") (by decide +kernel), rfl, fun ι n H => .tup (He.tupB_ok e1 H) (rus_z (zs := wordsZ) (by decide +kernel))⟩
    · cases h
      obtain ⟨t, z⟩ := in_ok X G c (p := ("ROW", 1)) (by decide)
      exact ⟨.int 1, _, z, ⟨t, rfl⟩, fun ι n H => .int (.lit 1)⟩
    · cases h
      exact ⟨.ref (He.ga K "KINDS"), _, gl_ok X G c (x := "KINDS") (by decide +kernel), rfl, fun ι n H => .tup (He.tupB_ok e2 H) (rus_z (zs := kindsZ) (by decide +kernel))⟩
    · cases h
      obtain ⟨t, z⟩ := in_ok X G c (p := ("ROWS", 2000)) (by decide)
      exact ⟨.int 2000, _, z, ⟨t, rfl⟩, fun ι n H => .int (.lit 2000)⟩
    · cases h
      obtain ⟨t, z⟩ := in_ok X G c (p := ("MOST_ROWS", 100000)) (by decide)
      exact ⟨.int 100000, _, z, ⟨t, rfl⟩, fun ι n H => .int (.lit 100000)⟩
    · cases h
      obtain ⟨t, z⟩ := in_ok X G c (p := ("MOST_CALLS", 32)) (by decide)
      exact ⟨.int 32, _, z, ⟨t, rfl⟩, fun ι n H => .int (.lit 32)⟩
    · cases h
      obtain ⟨t, z⟩ := in_ok X G c (p := ("FAR", 1000000000000)) (by decide)
      exact ⟨.int 1000000000000, _, z, ⟨t, rfl⟩, fun ι n H => .int (.lit 1000000000000)⟩
    · cases h
      obtain ⟨t, z⟩ := al_ok X G c
      exact ⟨.str "", _, z, ⟨t, rfl⟩, fun ι n H => .str [] (by decide +kernel)⟩
    · cases h
  gdic := by
    intro g kvs h
    replace h : gdic g = some kvs := h
    obtain ⟨e1, e⟩ := and2 (show (He.tupB K "WORDS" (zDv wordsZ) && (He.tupB K "KINDS" (zDv kindsZ) && gdB K (He.ga K "SIZES") sizes)) = true from hex)
    obtain ⟨e2, e3⟩ := and2 e
    unfold gdic at h
    split at h
    · cases h
      exact ⟨_, sizes, gl_ok X G c (x := "SIZES") (by decide +kernel), e3, rfl⟩
    · cases h
  df := db_all hF
  fn := by
    intro j fd h hj
    replace h : defs j = some fd := h
    replace hj : isFN j = true := hj
    unfold isFN at hj
    split at hj
    · exact ⟨gl_ok X G c (x := "shown") (by decide +kernel), (hF 1 _ rfl).kp⟩
    · exact ⟨gl_ok X G c (x := "reckoned") (by decide +kernel), (hF 3 _ rfl).kp⟩
    · exact ⟨gl_ok X G c (x := "run") (by decide +kernel), (hF 15 _ rfl).kp⟩
    · exact ⟨gl_ok X G c (x := "_law_like") (by decide +kernel), (hF 44 _ rfl).kp⟩
    · exact ⟨gl_ok X G c (x := "_law_by_hand") (by decide +kernel), (hF 45 _ rfl).kp⟩
    · cases hj
  cls := by
    intro cx j h
    replace h : init cx = some j := h
    unfold init at h
    split at h
    · cases h
      exact ⟨gl_ok X G c (x := "Frame") (by decide +kernel), cl_ok c (x := "Frame") (by decide +kernel), mk_ok c (x := "Frame") (by decide +kernel)⟩
    · cases h
      exact ⟨gl_ok X G c (x := "Runner") (by decide +kernel), cl_ok c (x := "Runner") (by decide +kernel), mk_ok c (x := "Runner") (by decide +kernel)⟩
    · cases h
      exact ⟨gl_ok X G c (x := "Looker") (by decide +kernel), cl_ok c (x := "Looker") (by decide +kernel), mk_ok c (x := "Looker") (by decide +kernel)⟩
    · cases h
  meth := by
    intro cx m j h
    replace h : meth cx m = some j := h
    unfold meth at h
    split at h
    · cases h
      exact ⟨cl_ok c (x := "Runner") (by decide +kernel), me_ok c (p := (1, 17)) (by decide)⟩
    · cases h
      exact ⟨cl_ok c (x := "Runner") (by decide +kernel), me_ok c (p := (1, 25)) (by decide)⟩
    · cases h
      exact ⟨cl_ok c (x := "Runner") (by decide +kernel), me_ok c (p := (1, 20)) (by decide)⟩
    · cases h
      exact ⟨cl_ok c (x := "Runner") (by decide +kernel), me_ok c (p := (1, 19)) (by decide)⟩
    · cases h
      exact ⟨cl_ok c (x := "Runner") (by decide +kernel), me_ok c (p := (1, 18)) (by decide)⟩
    · cases h
      exact ⟨cl_ok c (x := "Runner") (by decide +kernel), me_ok c (p := (1, 23)) (by decide)⟩
    · cases h
      exact ⟨cl_ok c (x := "Runner") (by decide +kernel), me_ok c (p := (1, 21)) (by decide)⟩
    · cases h
      exact ⟨cl_ok c (x := "Runner") (by decide +kernel), me_ok c (p := (1, 22)) (by decide)⟩
    · cases h
      exact ⟨cl_ok c (x := "Runner") (by decide +kernel), me_ok c (p := (1, 26)) (by decide)⟩
    · cases h
      exact ⟨cl_ok c (x := "Runner") (by decide +kernel), me_ok c (p := (1, 24)) (by decide)⟩
    · cases h
      exact ⟨cl_ok c (x := "Looker") (by decide +kernel), me_ok c (p := (2, 32)) (by decide)⟩
    · cases h
      exact ⟨cl_ok c (x := "Looker") (by decide +kernel), me_ok c (p := (2, 20)) (by decide)⟩
    · cases h
      exact ⟨cl_ok c (x := "Looker") (by decide +kernel), me_ok c (p := (2, 35)) (by decide)⟩
    · cases h
      exact ⟨cl_ok c (x := "Looker") (by decide +kernel), me_ok c (p := (2, 36)) (by decide)⟩
    · cases h
      exact ⟨cl_ok c (x := "Looker") (by decide +kernel), me_ok c (p := (2, 37)) (by decide)⟩
    · cases h
      exact ⟨cl_ok c (x := "Looker") (by decide +kernel), me_ok c (p := (2, 38)) (by decide)⟩
    · cases h
include X G c in
theorem sam : Sam (wd P w K mg base θ) pg (tb K FT) nmz where
  df := rfl
  isF := rfl
  cl := rfl
  gl := rfl
  gd := rfl
  KW := rfl
  fld := rfl
  nN := rfl
  ini := rfl
  len := fr_ok X G c (x := "len") (by decide +kernel)
  int := fr_ok X G c (x := "int") (by decide +kernel)
  list := fr_ok X G c (x := "list") (by decide +kernel)
  tuple := fr_ok X G c (x := "tuple") (by decide +kernel)
  isi := fr_ok X G c (x := "isinstance") (by decide +kernel)
  bool := fr_ok X G c (x := "bool") (by decide +kernel)
  str := fr_ok X G c (x := "str") (by decide +kernel)
  range := fr_ok X G c (x := "range") (by decide +kernel)
  enum := fr_ok X G c (x := "enumerate") (by decide +kernel)
  zip := fr_ok X G c (x := "zip") (by decide +kernel)
include X G c hex hF in
/-- all that agrees with its small tree does what that says -/
theorem sound {Γ : Bd} (hG : Γ.ok θ) (n : Nat) : Snd (wd P w K mg base θ) pg (tb K FT) nmz Γ n := snd_all (pg_ok X G c hex hF) (sam X G c) hG (dt_all hF) n n (Nat.le_refl _)
end
end Se.K88
set_option Elab.async false
set_option linter.all false
set_option maxRecDepth 100000
set_option maxHeartbeats 0
/-! k88: the head's run. -/
namespace Se.K88
open PySem PySem.Spec
open PyProof.Rows L2
abbrev R88 : PySem.W.OpenRow := PySem.W.OpenLaw.row PySem.Challenge.rw_wholetongue_k88_images_made_by_hand
abbrev hook88 : PySem.W.Hook := He.hookX 6 faL fnL [] [] ex
def ob88 (s : PySem.W.SharedT) : He.AlX := He.obsX 6 faL fnL [] [] ex (HandSHeadRun.getT s)
theorem ob88_eq (s : PySem.W.SharedT) : ob88 s = hook88.obs s.abs := He.obsX_eq (HandSHeadRun.getT_eq s)
def loose88 : List Str := (["_wall", "WholeError", "NoDef", "BadCount", "Ended", "BadDepth", "shown", "WORDS", "ROW", "SIZES", "KINDS", "ROWS", "MOST_ROWS", "MOST_CALLS", "FAR", "Frame", "reckoned", "Runner", "run", "ALWAYS", "Looker", "_law_dice", "_law_next", "_law_like", "_law_by_hand"] : List String).map Str.ofString
theorem run88 (w : World) : HandSHeadRun.RunEq R88 (PySem.W.view R88.prog [30]) hook88 ob88 4000 loose88 w :=
  PySem.W.byRow2 "special-get-raises" (P := HandSHeadRun.RunEq R88 (PySem.W.view R88.prog [30]) hook88 ob88 4000 loose88) (fun w os => by kernel_rfl) (fun w os => by kernel_rfl) w
end Se.K88
set_option Elab.async false
set_option linter.all false
set_option maxRecDepth 100000
/-! k88: the law's dice. -/
namespace Se.K88
open PySem PySem.Spec
open PyProof.Rows L2
def loDice : List Str := (["_law_script", "_law_mixed", "_law_cell"] : List String).map Str.ofString
def loNext : List Str := (["_law_dice_here", "_law_many", "_law_found", "_law_cell"] : List String).map Str.ofString
theorem scDice : FnScope loDice ["_law_script"] (sScope sDice) := ⟨rfl, rfl, rfl, by decide +kernel, rfl, by decide +kernel, by decide +kernel⟩
theorem scNext : FnScope loNext ["_law_dice_here", "_law_many"] (sScope sNext) := ⟨rfl, rfl, rfl, by decide +kernel, rfl, by decide +kernel, by decide +kernel⟩
/-- the dice: the script, how far, a number, what is left -/
def dice (a : Addr) (i m r : Int) : HO := .lst [.ref a, .int i, .int m, .int r]
def spDice (K : PySem.W.Frag) : Sp := fun vs H Q _ => ∃ (a : Addr) (ns : List Int), vs = [.ref a] ∧ SqL K H a (ns.map V.int) ∧ ∀ (m : Int) (p : Addr), H p = none → Q (.ref p) (L2.upd H p (dice a 0 m 0))
def spNext (K : PySem.W.Frag) : Sp := fun vs H Q _ => ∃ (p a : Addr) (ns : List Int) (i m r : Int), vs = [.ref p, .int 100] ∧ H p = some (dice a i m r) ∧ 0 ≤ i ∧ SqL K H a (ns.map V.int) ∧
  ∀ (v j n s : Int), 0 ≤ v → v < 100 → 0 ≤ j → Q (.int v) (L2.upd H p (dice a j n s))
section
variable {P : Program} {w : World} {K : PySem.W.Frag} {mg : Str → Option Value} {base : Heap} {f : Addr} {fd : FuncData}
theorem ok_dice (F : FunD K "_law_dice" "_law_dice" (sArgs sDice) (sBody sDice) (sScope sDice) [] [] f fd) (gL : mg "len" = none) (gI : mg "int" = none) : FnOk P w K mg base CX0 1 f fd ["_law_script"] (spDice K) := by
  refine F.ok scDice (fun vs H Q E h => ?_) fun cdv A outer s H vs Q E hr h => ?_
  · obtain ⟨a, ns, rfl, _⟩ := h
    rfl
  apply Exists.intro
  apply And.intro
  · apply PSs.nox
    apply pss_cons
    · exact ps_set (i := 1) scDice.nd rfl (Or.inl rfl) pe_int
    apply pss_cons
    · apply ps_for PassesOwn.never rfl
      · apply pi_list
        exact pe_var (i := 0) rfl (Or.inl rfl)
      · exact pg_name (i := 2) scDice.nd rfl (Or.inl rfl)
      · apply pss_one
        apply ps_set (i := 1) scDice.nd rfl (Or.inl rfl)
        exact pe_op op_mod (pe_op op_add (pe_op op_add (pe_op op_mul (pe_var (i := 1) rfl (Or.inl rfl)) pe_int) (pe_op op_mul (pe_op op_mod (pe_var (i := 2) rfl (Or.inl rfl)) pe_int) pe_int)) pe_int) pe_int
    apply pss_one
    apply ps_ret
    apply pe_lst
    apply pa_cons
    · exact pe_var (i := 0) rfl (Or.inl rfl)
    apply pa_cons pe_int
    apply pa_cons
    · apply pe_op op_mul
      · exact pe_var (i := 1) rfl (Or.inl rfl)
      · apply pe_callTy call_int1 ?_ gI boot_int
        · apply pa_cons
          · apply pe_cmpR op_gt
            · apply pe_callB call_len ?_ gL PySem.boot_len
              · apply pa_cons
                · exact pe_var (i := 0) rfl (Or.inl rfl)
                · exact pa_nil
                · rfl
              · unfold Gl
                rfl
            · exact pe_int
            · rfl
          · exact pa_nil
          · rfl
        · unfold Gl
          rfl
    · exact pa_cons pe_int pa_nil
    all_goals rfl
  obtain ⟨a, ns, rfl, hS, endQ⟩ := h
  have nn : ∀ i c, (ns.map V.int)[i]? = some c → ∃ z : Int, c = V.int z := fun i c e => by
    rw [List.getElem?_map] at e
    cases q : ns[i]? with
    | none =>
      rw [q] at e
      cases e
    | some z => rw [q] at e; cases e; exact ⟨z, rfl⟩
  refine ⟨.ref a, rfl, a, rfl, ⟨_, hS⟩, for_list (K := K) (xs := ns.map V.int) (fun i σ H' => H' = H ∧ σ.length = 3 ∧ σ[0]? = some (some (.ref a)) ∧ ∃ m : Int, σ[1]? = some (some (.int m))) ⟨rfl, rfl, rfl, 0, rfl⟩ (fun i σ H' _ q => q.1 ▸ hS) (fun i x σ H' hx q => ?_) fun σ H' q => ?_⟩
  · obtain ⟨rfl, hl, h0, m, h1⟩ := q
    obtain ⟨z, rfl⟩ := nn i x hx
    have g1 : (σ.set 2 (some (.int z)))[1]? = some (some (.int m)) := by rw [List.getElem?_set_ne (by decide)]; exact h1
    have g2 : (σ.set 2 (some (.int z)))[2]? = some (some (.int z)) := by rw [List.getElem?_set_self (by omega)]
    refine ⟨.int m, g1, m, 48271, rfl, rfl, .inr ⟨by omega, by omega⟩, .int z, g2, z, 2147483647, rfl, rfl, (by show (0 : Int) < 2147483647; decide), _, 69621, rfl, rfl, .inr ⟨by omega, by omega⟩, _, _, rfl, rfl, _, 11, rfl, rfl, _, 2147483647, rfl, rfl, (by show (0 : Int) < 2147483647; decide), rfl, ?_, ?_, (m * 48271 + z % 2147483647 * 69621 + 11) % 2147483647, ?_⟩
    · rw [List.length_set, List.length_set]
      exact hl
    · rw [List.getElem?_set_ne (by decide), List.getElem?_set_ne (by decide)]
      exact h0
    · rw [List.getElem?_set_self (by rw [List.length_set]; omega)]
  · obtain ⟨rfl, hl, h0, m, h1⟩ := q
    refine ⟨.ref a, h0, .int m, h1, .ref a, h0, _, _, rfl, .inl ⟨_, hS, rfl⟩, _, 2, rfl, rfl, .inr ⟨_, rfl, m, _, rfl, rfl,   .inr ?_, (by show 4 ≤ sizeLine; decide), fun p np => endQ _ p np⟩⟩
    split <;> exact ⟨by omega, by omega⟩
/-- i of the dice, in the layer's words -/
theorem dice_at {p a : Addr} {H : Hp} {i m r : Int} (h : H p = some (dice a i m r)) : SqL K H p [.ref a, .int i, .int m, .int r] := SqL.of h
theorem upd_two {H : Hp} {p : Addr} {x y : HO} : L2.upd (L2.upd H p x) p y = L2.upd H p y := by
  funext b
  by_cases q : b = p
  · rw [q, upd_same, upd_same]
  · rw [upd_ne q, upd_ne q, upd_ne q]
/-- the script stands where the dice, or a new thing, is written -/
theorem sql_dice {K : PySem.W.Frag} {a p : Addr} {H : Hp} {ns : List Int} {x : HO} (h : SqL K H a (ns.map V.int)) (hp : ∀ o, H p = some o → ∃ b i m r, o = dice b i m r) : SqL K (L2.upd H p x) a (ns.map V.int) := by
  have no : ∀ {b i m r}, ns.map V.int = [V.ref b, .int i, .int m, .int r] → False := fun {b i m r} e => by
    cases ns with
    | nil => cases e
    | cons n ns => cases e
  rcases h with (h | ⟨fo, h⟩) | h
  · by_cases q : a = p
    · obtain ⟨b, i, m, r, e⟩ := hp _ (q ▸ h)
      unfold dice at e
      injection e with e
      exact (no e).elim
    · exact .inl (.inl (by rw [upd_ne q]; exact h))
  · by_cases q : a = p
    · obtain ⟨b, i, m, r, e⟩ := hp _ (q ▸ h)
      cases e
    · exact .inl (.inr ⟨fo, by rw [upd_ne q]; exact h⟩)
  · exact .inr h
theorem ixd {σ : L2.St} {H : Hp} {Q : VK} {p a : Addr} {i m r k : Int} {v : V} (h0 : σ[0]? = some (some (.ref p))) (hp : H p = some (dice a i m r)) (hv : atI [V.ref a, .int i, .int m, .int r] k = some v) (q : Q v H) : tOp (rIxL K) (tVar 0) (tC (.int k)) σ H Q :=
  ⟨.ref p, h0, p, _, k, v, rfl, rfl, dice_at hp, hv, q⟩
theorem std {σ : L2.St} {H : Hp} {Q : L2.St → Hp → Prop} {p a : Addr} {i m r k : Int} {j : Nat} {v : V} {i' m' r' : Int} (h0 : σ[0]? = some (some (.ref p))) (hp : H p = some (dice a i m r)) (hk : ixN 4 k = some j) (hv : [V.ref a, .int i, .int m, .int r].set j v = [V.ref a, .int i', .int m', .int r'])
    (q : Q σ (L2.upd H p (dice a i' m' r'))) : gSub (tVar 0) (tC (.int k)) rSetL v σ H Q := ⟨.ref p, h0, p, _, k, j, rfl, rfl, hp, hk, by rw [hv]; exact q⟩
theorem ok_next (F : FunD K "_law_next" "_law_next" (sArgs sNext) (sBody sNext) (sScope sNext) [] [] f fd) (gL : mg "len" = none) : FnOk P w K mg base CX0 1 f fd ["_law_dice_here", "_law_many"] (spNext K) := by
  refine F.ok scNext (fun vs H Q E h => ?_) fun cdv A outer s H vs Q E hr h => ?_
  · obtain ⟨p, a, ns, i, m, r, rfl, _⟩ := h
    rfl
  have v0 : ∀ {q : Pos}, PE (cxOf CX0 P w K mg base loNext "_law_next" (sScope sNext) f cdv A outer s H E).nox (.Name "_law_dice_here" q) (tVar 0) := pe_var rfl (Or.inl rfl)
  have v1 : ∀ {q : Pos}, PE (cxOf CX0 P w K mg base loNext "_law_next" (sScope sNext) f cdv A outer s H E).nox (.Name "_law_many" q) (tVar 1) := pe_var rfl (Or.inl rfl)
  have v2 : ∀ {q : Pos}, PE (cxOf CX0 P w K mg base loNext "_law_next" (sScope sNext) f cdv A outer s H E).nox (.Name "_law_found" q) (tVar 2) := pe_var rfl (Or.inl rfl)
  have v3 : ∀ {q : Pos}, PE (cxOf CX0 P w K mg base loNext "_law_next" (sScope sNext) f cdv A outer s H E).nox (.Name "_law_cell" q) (tVar 3) := pe_var rfl (Or.inl rfl)
  have ix : ∀ {q q2 q3 : Pos} {k : Int} {j : Nat}, PE (cxOf CX0 P w K mg base loNext "_law_next" (sScope sNext) f cdv A outer s H E).nox (.Subscript (.Name "_law_dice_here" q) (.Constant (.int k) j q2) q3) (tOp (rIxL K) (tVar 0) (tC (.int k))) := pe_ix ix_list v0 pe_int (px_of rfl)
  have st : ∀ {q q2 q3 : Pos} {k : Int} {j : Nat}, PG (cxOf CX0 P w K mg base loNext "_law_next" (sScope sNext) f cdv A outer s H E).nox (.Subscript (.Name "_law_dice_here" q) (.Constant (.int k) j q2) q3) _ := pg_sub v0 pe_int set_list (fun v => rfl)
  apply Exists.intro
  apply And.intro
  · apply PSs.nox
    apply pss_cons
    · apply ps_if
      · apply pt_cmpR op_gt
        · exact ix
        · exact pe_int
        · rfl
      · apply pss_cons
        · apply ps_set (i := 2) scNext.nd rfl (Or.inl rfl)
          exact pe_op op_mod ix v1
        apply pss_cons
        · apply ps_asg
          · exact pe_op op_fdiv ix v1
          · exact st
          all_goals rfl
        apply pss_one
        apply ps_ret
        exact v2
      · exact pss_nil
    apply pss_cons
    · apply ps_asg
      · exact pe_op op_add ix pe_int
      · exact st
      all_goals rfl
    apply pss_cons
    · apply ps_if
      · apply pt_cmpR op_le
        · exact ix
        · apply pe_callB call_len ?_ gL PySem.boot_len
          · apply pa_cons
            · exact ix
            · exact pa_nil
            · rfl
          · unfold Gl
            rfl
        · rfl
      · apply pss_cons
        · apply ps_set (i := 3) scNext.nd rfl (Or.inl rfl)
          apply pe_ix ix_list
          · exact ix
          · exact pe_op op_sub ix pe_int
          · exact px_of rfl
        apply pss_cons
        · apply ps_asg
          · apply pe_ifExp
            · apply pt_cmpR op_ge
              · exact v3
              · exact pe_op op_pow pe_int pe_int
              · rfl
            · exact pe_op op_fdiv v3 v1
            · exact pe_int
          · exact st
          all_goals rfl
        apply pss_one
        apply ps_ret
        exact pe_op op_mod v3 v1
      · exact pss_nil
    apply pss_cons
    · apply ps_asg
      · exact pe_op op_mod (pe_op op_mul ix pe_int) pe_int
      · exact st
      all_goals rfl
    apply pss_one
    apply ps_ret
    exact pe_op op_mod (pe_op op_fdiv ix pe_int) v1
  obtain ⟨p, a, ns, i, m, r, rfl, hp, hi, hS, endQ⟩ := h
  have h0 : (L2.start loNext [V.ref p, V.int 100])[0]? = some (some (.ref p)) := rfl
  have h1 : (L2.start loNext [V.ref p, V.int 100])[1]? = some (some (.int 100)) := rfl
  have hl : (L2.start loNext [V.ref p, V.int 100]).length = 4 := rfl
  have m1 : ∀ x : Int, 0 ≤ x % 100 := fun x => Int.emod_nonneg x (by decide)
  have m2 : ∀ x : Int, x % 100 < 100 := fun x => Int.emod_lt_of_pos x (by decide)
  generalize hσ : L2.start loNext [V.ref p, V.int 100] = σ at h0 h1 hl ⊢
  refine ixd h0 hp rfl ⟨_, _, rfl, rfl, decide (0 < r), rfl, ?_⟩
  dsimp only
  by_cases c : 0 < r
  · rw [if_pos (show decide (0 < r) = true from decide_eq_true c)]
    have k0 : (σ.set 2 (some (V.int (r % 100))))[0]? = some (some (.ref p)) := by rw [List.getElem?_set_ne (by decide)]; exact h0
    have k1 : (σ.set 2 (some (V.int (r % 100))))[1]? = some (some (.int 100)) := by rw [List.getElem?_set_ne (by decide)]; exact h1
    have k2 : (σ.set 2 (some (V.int (r % 100))))[2]? = some (some (.int (r % 100))) := by rw [List.getElem?_set_self (by omega)]
    refine ixd h0 hp rfl ⟨.int 100, h1, r, 100, rfl, rfl, (by show (0 : Int) < 100; decide), ?_⟩
    refine ixd k0 hp rfl ⟨.int 100, k1, r, 100, rfl, rfl, ⟨by decide, by decide⟩, ?_⟩
    exact std k0 hp rfl rfl ⟨_, k2, endQ (r % 100) i m (r / 100) (m1 r) (m2 r) hi⟩
  · rw [if_neg (by rw [decide_eq_false c]; exact Bool.false_ne_true)]
    refine ixd h0 hp rfl ⟨i, 1, rfl, rfl, ?_⟩
    refine std (i' := i + 1) (m' := m) (r' := r) h0 hp rfl rfl ?_
    have hp1 : (L2.upd H p (dice a (i + 1) m r)) p = some (dice a (i + 1) m r) := upd_same
    have hS1 : SqL K (L2.upd H p (dice a (i + 1) m r)) a (ns.map V.int) := sql_dice hS fun o e => by
      rw [hp] at e
      cases e
      exact ⟨_, _, _, _, rfl⟩
    refine ixd h0 hp1 rfl (ixd h0 hp1 rfl ⟨.ref a, (ns.map V.int).length, rfl, .inl ⟨_, hS1, rfl⟩, _, _, rfl, rfl, decide (i + 1 ≤ ((ns.map V.int).length : Int)), rfl, ?_⟩)
    dsimp only
    by_cases c2 : i + 1 ≤ ((ns.map V.int).length : Int)
    · rw [if_pos (decide_eq_true c2)]
      have lt : i.toNat < ns.length := by
        rw [List.length_map] at c2
        omega
      obtain ⟨z, hz⟩ : ∃ z, ns[i.toNat]? = some z := ⟨_, List.getElem?_eq_getElem lt⟩
      have hat : atI (ns.map V.int) (i + 1 - 1) = some (V.int z) := by
        unfold atI ixN
        rw [if_pos (show 0 ≤ i + 1 - 1 by omega), if_pos (by omega)]
        show (ns.map V.int)[(i + 1 - 1).toNat]? = _
        rw [show (i + 1 - 1).toNat = i.toNat by omega, List.getElem?_map, hz]
        rfl
      refine ixd h0 hp1 rfl (ixd h0 hp1 rfl ⟨i + 1, 1, rfl, rfl, a, _, _, _, rfl, rfl, hS1, hat, ?_⟩)
      have k0 : (σ.set 3 (some (V.int z)))[0]? = some (some (.ref p)) := by rw [List.getElem?_set_ne (by decide)]; exact h0
      have k1 : (σ.set 3 (some (V.int z)))[1]? = some (some (.int 100)) := by rw [List.getElem?_set_ne (by decide)]; exact h1
      have k3 : (σ.set 3 (some (V.int z)))[3]? = some (some (.int z)) := by rw [List.getElem?_set_self (by omega)]
      refine ⟨.int z, k3, 10, 18, rfl, rfl, ⟨by decide, by decide, by decide⟩, _, _, rfl, rfl, _, rfl, ?_⟩
      dsimp only
      by_cases c3 : decide ((10 : Int) ^ (18 : Int).toNat ≤ z) = true
      · rw [if_pos c3]
        refine ⟨.int z, k3, .int 100, k1, z, 100, rfl, rfl, ⟨by decide, by decide⟩, ?_⟩
        refine std (i' := i + 1) (m' := m) (r' := z / 100) k0 hp1 rfl rfl ?_
        rw [upd_two]
        exact ⟨.int z, k3, .int 100, k1, z, 100, rfl, rfl, (by show (0 : Int) < 100; decide), endQ (z % 100) (i + 1) m (z / 100) (m1 z) (m2 z) (by omega)⟩
      · rw [if_neg c3]
        refine std (i' := i + 1) (m' := m) (r' := 0) k0 hp1 rfl rfl ?_
        rw [upd_two]
        exact ⟨.int z, k3, .int 100, k1, z, 100, rfl, rfl, (by show (0 : Int) < 100; decide), endQ (z % 100) (i + 1) m 0 (m1 z) (m2 z) (by omega)⟩
    · rw [if_neg (by rw [decide_eq_false c2]; exact Bool.false_ne_true)]
      refine ixd h0 hp1 rfl ⟨m, 48271, rfl, rfl, .inr ⟨by omega, by omega⟩, _, 2147483647, rfl, rfl, (by show (0 : Int) < 2147483647; decide), ?_⟩
      refine std (i' := i + 1) (m' := m * 48271 % 2147483647) (r' := r) h0 hp1 rfl rfl ?_
      rw [upd_two]
      have hp2 : (L2.upd H p (dice a (i + 1) (m * 48271 % 2147483647) r)) p = some (dice a (i + 1) (m * 48271 % 2147483647) r) := upd_same
      exact ixd h0 hp2 rfl ⟨_, 7, rfl, rfl, ⟨by decide, by decide⟩, .int 100, h1, _, 100, rfl, rfl, (by show (0 : Int) < 100; decide), endQ _ (i + 1) _ r (m1 _) (m2 _) (by omega)⟩
end
end Se.K88
set_option Elab.async false
set_option linter.all false
set_option maxRecDepth 100000
/-! k88: the law's def. -/
namespace Se.K88
open PySem PySem.Spec
open PyProof.Rows L2
abbrev Γ3 : Bd := [50, 50, 50]
def spLaw (K : PySem.W.Frag) : Sp := fun vs H Q _ => ∃ (scr : Addr) (zs : List Int), vs = [.ref scr] ∧ SqL K H scr (zs.map V.int) ∧ ∀ H', Q (.bl true) H'
theorem scLaw : FnScope lawN ["_law_script"] (sScope sLaw) := ⟨rfl, rfl, rfl, by decide +kernel, rfl, by decide +kernel, by decide +kernel⟩
/-- a list's int, less fifty, as a letter -/
def th (a b c : Int) (v : Nat) : Int := match v with
  | 0 => a
  | 1 => b
  | 2 => c
  | _ => 0
theorem th_ok {a b c : Int} (ha : -50 ≤ a ∧ a ≤ 50) (hb : -50 ≤ b ∧ b ≤ 50) (hc : -50 ≤ c ∧ c ≤ 50) : Bd.ok Γ3 (th a b c) := by
  intro v B h
  match v, h with
  | 0, h => cases h; exact ha
  | 1, h => cases h; exact hb
  | 2, h => cases h; exact hc
  | v + 3, h => cases h
theorem ev_let (θ : Nat → Int) (v : Nat) : SI.ev θ (.pol 0 [([v], 1)]) = θ v := by
  show 0 + (1 * (θ v * 1) + 0) = θ v
  omega
/-- the turn as it is evaluated, at any three numbers -/
def tTurn (P : Program) (w : World) (K : PySem.W.Frag) (mg : Str → Option Value) (base : Heap) : TS := fun D σ H => ∃ θ, Bd.ok Γ3 θ ∧ tS (wd P w K mg base θ) (evSs ((fns Γ3 pg 200).s 20) turn) D σ H
section
variable {P : Program} {w : World} {K : PySem.W.Frag} {mg : Str → Option Value} {base : Heap} {FT : Nat → FuncData}
theorem turn_ok (S : ∀ θ, Bd.ok Γ3 θ → Snd (wd P w K mg base θ) pg (tb K FT) nmz Γ3 200) {X : Cx} (hX : ∀ θ, XOk (wd P w K mg base θ) 20 X) (hN : X.N = lawN) (hs : X.env.scope = sScope sLaw) : PSs X turnT (tTurn P w K mg base) := ⟨fun pins s σ H D I ⟨θ, hG, q⟩ => by
  have m := mTurn
  rw [← hN, ← hs] at m
  exact (sb_of (blkL_of (fun e m q => (S θ hG).s (hX θ) q) m)).run pins s σ H D I q⟩
/-- what the turn does: the dice and the script stand -/
theorem turn_does {D : Ends} {σ : L2.St} {H : Hp} {a b c : Int} (ha : -50 ≤ a ∧ a ≤ 50) (hb : -50 ≤ b ∧ b ≤ 50) (hc : -50 ≤ c ∧ c ≤ 50) (hl : σ.length = 14) (h9 : σ[9]? = some (some (.int a))) (h10 : σ[10]? = some (some (.int b))) (h11 : σ[11]? = some (some (.int c)))
    (k : ∀ σ' H', σ'.length = 14 → σ'[0]? = σ[0]? → σ'[1]? = σ[1]? → (∀ p o, H p = some o → H' p = some o) → D.nx σ' H') : tTurn P w K mg base D σ H := by
  have z := turnEv
  cases q : evSs ((fns Γ3 pg 200).s 20) turn env0 ⟨0, .lf⟩ with
  | none => rw [q] at z; cases z
  | some r =>
    obtain ⟨fl, us, h'⟩ := r
    rw [q] at z
    cases fl with
    | ret u => cases z
    | nx =>
      cases q0 : getV us 0 with
      | some _ => simp only [isNx, q0] at z; cases z
      | none =>
        cases q1 : getV us 1 with
        | some _ => simp only [isNx, q0, q1] at z; cases z
        | none =>
          have R : Rep (wd P w K mg base (th a b c)) (fun _ => 0) ⟨0, .lf⟩ H := ⟨fun i o e => by
            have := (MH.get_lt e).1
            exact absurd this (Nat.not_lt_zero _), fun i j hi => absurd hi (Nat.not_lt_zero _), fun i hi => absurd hi (Nat.not_lt_zero _)⟩
          have S : RS (wd P w K mg base (th a b c)) (fun _ => 0) 0 H σ env0 σ := by
            refine ⟨by rw [hl]; rfl, rfl, fun i u e => ?_, fun _ _ => rfl⟩
            have lt := getV_lt e
            have lt : i < 14 := lt
            have go : ∀ (v : Nat) (x : Int), th a b c v = x → RU (wd P w K mg base (th a b c)) (fun _ => 0) 0 H (.int (.pol 0 [([v], 1)])) (.int x) := fun v x e => by
              have z := RU.int (W := wd P w K mg base (th a b c)) (ι := fun _ => 0) (n := 0) (H := H) (.pol 0 [([v], 1)])
              have e2 : SI.ev (wd P w K mg base (th a b c)).θ (.pol 0 [([v], 1)]) = x := (ev_let _ v).trans e
              rw [e2] at z
              exact z
            rcases (by omega : i = 0 ∨ i = 1 ∨ i = 2 ∨ i = 3 ∨ i = 4 ∨ i = 5 ∨ i = 6 ∨ i = 7 ∨ i = 8 ∨ i = 9 ∨ i = 10 ∨ i = 11 ∨ i = 12 ∨ i = 13) with rfl | rfl | rfl | rfl | rfl | rfl | rfl | rfl | rfl | rfl | rfl | rfl | rfl | rfl
            all_goals first
              | (cases e; done)
              | (cases e; exact ⟨_, h9, go 0 a rfl⟩)
              | (cases e; exact ⟨_, h10, go 1 b rfl⟩)
              | (cases e; exact ⟨_, h11, go 2 c rfl⟩)
          refine ⟨th a b c, th_ok ha hb hc, fun _ => 0, env0, ⟨0, .lf⟩, σ, R, S, .nx, us, h', q, fun ι' σ' H' R' X' S' => ?_⟩
          exact k σ' H' (S'.len0.symm.trans hl) (S'.none_ 0 q0) (S'.none_ 1 q1) fun p o e => X'.keep p o e fun i hi => absurd hi (Nat.not_lt_zero _)
theorem sql_split {H : Hp} {a : Addr} {ns : List Int} (h : SqL K H a (ns.map V.int)) : (∀ H', SqL K H' a (ns.map V.int)) ∨ ∃ o, H a = some o ∧ (∀ b i m r, o ≠ dice b i m r) ∧ ∀ H', H' a = some o → SqL K H' a (ns.map V.int) := by
  rcases h with (h | ⟨fo, h⟩) | h
  · refine .inr ⟨_, h, fun b i m r e => ?_, fun H' e => .inl (.inl e)⟩
    unfold dice at e
    injection e with e
    cases ns with
    | nil => cases e
    | cons n ns => cases e
  · exact .inr ⟨_, h, (fun b i m r e => nomatch e), fun H' e => .inl (.inr ⟨fo, e⟩)⟩
  · exact .inl fun H' => .inr h
theorem ok_law {f fD fN : Addr} {fd fdD fdN : FuncData} (F : FunD K "law" "law" (sArgs sLaw) (sBody sLaw) (sScope sLaw) [] [] f fd) (FD : FnOk P w K mg base CX0 1 fD fdD ["_law_script"] (spDice K)) (FN : FnOk P w K mg base CX0 1 fN fdN ["_law_dice_here", "_law_many"] (spNext K))
    (gD : mg "_law_dice" = some (.ref fD)) (gN : mg "_law_next" = some (.ref fN)) (kD : PySem.W.keepIn K (.ref fD) = true) (kN : PySem.W.keepIn K (.ref fN) = true) (bD : L2.Binds K fdD ["_law_script"] []) (bN : L2.Binds K fdN ["_law_dice_here", "_law_many"] []) (gR : mg "range" = none)
    (S : ∀ θ, Bd.ok Γ3 θ → Snd (wd P w K mg base θ) pg (tb K FT) nmz Γ3 200) : FnOk P w K mg base CX0 21 f fd ["_law_script"] (spLaw K) := by
  refine F.ok scLaw (fun vs H Q E h => ?_) fun cdv A outer s H vs Q E hr h => ?_
  · obtain ⟨a, ns, rfl, _⟩ := h
    rfl
  have r1 : Room 1 (A.deeper (envOfC "law" (sScope sLaw) s.heap.objs.size f cdv)) := hr.mono (by decide)
  apply Exists.intro
  apply And.intro
  · apply PSs.nox
    apply pss_cons
    · apply ps_set (i := 1) scLaw.nd rfl (Or.inr rfl)
      apply pe_call FD r1 ?_ gD kD bD .nil pass0
      · apply pa_cons
        · exact pe_var (i := 0) rfl (Or.inl rfl)
        · exact pa_nil
        · rfl
      · unfold Gl
        rfl
    apply pss_cons
    · apply ps_for PassesOwn.never rfl
      · apply pi_range1 ?_ gR
        · exact pa_cons pe_int pa_nil
        · unfold Gl
          rfl
      · exact pg_name (i := 2) scLaw.nd rfl (Or.inl rfl)
      · apply pss_cons
        · apply ps_asg
          · apply pe_lc (own := [("_law_k", 8)]) rfl scLaw.nd
            · apply pi_range1 ?_ gR
              · exact pa_cons pe_int pa_nil
              · unfold Gl
                rfl
            · apply blkOk_by
              show blkC lawN (sScope sLaw) _ [("_law_k", 8)] = true
              decide +kernel
            · intro s H C cl fp
              exact pg_name (i := 8) scLaw.nd rfl (Or.inl rfl)
            · intro s H C cl fp
              exact pts_nil
            · intro s H C cl fp
              apply pe_op op_sub
              · apply pe_call FN r1 ?_ gN kN bN .nil pass0
                · apply pa_cons
                  · exact pe_var (i := 1) rfl (Or.inr (Or.inl rfl))
                  · exact pa_cons pe_int pa_nil
                  · rfl
                · unfold Gl
                  rfl
              · exact pe_int
          · apply pg_unl rfl
            apply pgs_cons
            · exact pg_name (i := 9) scLaw.nd rfl (Or.inl rfl)
            · apply pgs_cons
              · exact pg_name (i := 10) scLaw.nd rfl (Or.inl rfl)
              · apply pgs_cons
                · exact pg_name (i := 11) scLaw.nd rfl (Or.inl rfl)
                · exact pgs_nil
                all_goals rfl
              all_goals rfl
            all_goals rfl
          all_goals rfl
        · exact turn_ok S (fun θ => ⟨rfl, rfl, rfl, rfl, rfl, rfl, rfl, scLaw.nd, hr⟩) rfl rfl
    apply pss_one
    apply ps_ret
    exact pe_bl
  obtain ⟨a, ns, rfl, hS, endQ⟩ := h
  have hl0 : (L2.start lawN [V.ref a]).length = 14 := rfl
  have hz0 : (L2.start lawN [V.ref a])[0]? = some (some (.ref a)) := rfl
  generalize hσ : L2.start lawN [V.ref a] = σ at hl0 hz0 ⊢
  refine ⟨.ref a, hz0, a, ns, rfl, hS, fun m0 p0 np0 => ?_⟩
  refine ⟨3, rfl, by decide, by decide, for_range (lo := 0) (n := 3) (fun _ σ H' => σ.length = 14 ∧ σ[0]? = some (some (.ref a)) ∧ SqL K H' a (ns.map V.int) ∧ ∃ (p : Addr) (i m r : Int), σ[1]? = some (some (.ref p)) ∧ H' p = some (dice a i m r) ∧ 0 ≤ i) ⟨?_, ?_, ?_, p0, 0, m0, 0, ?_, upd_same, by decide⟩ (fun t σ H' ht q => ?_) fun σ H' _ => endQ H'⟩
  · rw [List.length_set]
    exact hl0
  · rw [List.getElem?_set_ne (by decide)]
    exact hz0
  · exact sql_dice hS fun o e => by
      rw [np0] at e
      cases e
  · rw [List.getElem?_set_self (by omega)]
  obtain ⟨hl, h0, hS', p, i, m, r, h1, hp, hi⟩ := q
  have hl2 : (σ.set 2 (some (V.int (0 + t)))).length = 14 := by rw [List.length_set]; exact hl
  have g0 : (σ.set 2 (some (V.int (0 + t))))[0]? = some (some (.ref a)) := by rw [List.getElem?_set_ne (by decide)]; exact h0
  have g1 : (σ.set 2 (some (V.int (0 + t))))[1]? = some (some (.ref p)) := by rw [List.getElem?_set_ne (by decide)]; exact h1
  show tSeq _ _ _ (σ.set 2 (some (V.int (0 + t)))) H'
  generalize σ.set 2 (some (V.int (0 + t))) = τ at hl2 g0 g1 ⊢
  have toS : ∀ H2 : Hp, (∀ o, H' a = some o → (∀ b i m r, o ≠ dice b i m r) → H2 a = some o) → SqL K H2 a (ns.map V.int) := fun H2 k => by
    rcases sql_split hS' with q | ⟨o, q1, q2, q3⟩
    · exact q _
    · exact q3 _ (k o q1 q2)
  refine ⟨3, rfl, by decide, by decide, fun D nD => lc_range (lo := 0) (n := 3) (fun j H2 => (∀ o, H' a = some o → (∀ b i m r, o ≠ dice b i m r) → H2 a = some o) ∧ (∃ (i m r : Int), H2 p = some (dice a i m r) ∧ 0 ≤ i) ∧ ∃ xs : List Int, H2 D = some (.lst (xs.map V.int)) ∧ xs.length = j ∧ ∀ x ∈ xs, -50 ≤ x ∧ x ≤ 50) ?_ (fun j H2 hj q => ?_) fun H2 q => ?_⟩
  · have neD : p ≠ D := fun e => by
      rw [e, nD] at hp
      cases hp
    refine ⟨fun o e _ => ?_, ⟨i, m, r, by rw [upd_ne neD]; exact hp, hi⟩, [], upd_same, rfl, fun x hx => by cases hx⟩
    rw [upd_ne (ne_of_none e nD)]
    exact e
  · obtain ⟨kA, ⟨i2, m2, r2, hp2, hi2⟩, xs, hD, hx, hb⟩ := q
    have hS2 := toS _ kA
    have neD : D ≠ p := fun e => by
      rw [e] at hD
      rw [hD] at hp2
      unfold dice at hp2
      injection hp2 with hp2
      injection hp2 with hp2
      cases xs with
      | nil => cases hp2
      | cons x xs => cases hp2
    refine ⟨?_, ?_⟩
    · show L2.wipe ((L2.wipe τ [8]).set 8 (some (V.int (0 + j)))) [8] = L2.wipe τ [8]
      simp [L2.wipe]
    · refine tYes_ite ?_
      have k1 : ((L2.wipe τ [8]).set 8 (some (V.int (0 + j))))[1]? = some (some (.ref p)) := by
        rw [List.getElem?_set_ne (by decide)]
        show (τ.set 8 none)[1]? = _
        rw [List.getElem?_set_ne (by decide)]
        exact g1
      refine ⟨.ref p, k1, p, a, ns, i2, m2, r2, rfl, hp2, hi2, hS2, fun v j3 n3 s3 v0 v1 hj3 => ⟨v, 50, rfl, rfl, xs.map V.int, by rw [upd_ne neD]; exact hD, ?_, ?_, ⟨j3, n3, s3, ?_, hj3⟩, xs ++ [v - 50], ?_, ?_, ?_⟩⟩
      · rw [List.length_map, hx]
        exact small_line (by omega)
      · intro o e ne
        have e2 := kA o e ne
        have nap : a ≠ p := fun q => by
          rw [q, hp2] at e2
          cases e2
          exact ne _ _ _ _ rfl
        rw [upd_ne (ne_of_none e nD), upd_ne nap]
        exact e2
      · rw [upd_ne (Ne.symm neD)]
        exact upd_same
      · rw [upd_same, List.map_append]
        rfl
      · rw [List.length_append, hx]
        rfl
      · intro x hx'
        rcases List.mem_append.mp hx' with q | q
        · exact hb x q
        · rw [List.mem_singleton.mp q]
          omega
  · obtain ⟨kA, ⟨i2, m2, r2, hp2, hi2⟩, xs, hD, hx, hb⟩ := q
    have hS2 := toS _ kA
    match xs, hx, hD, hb with
    | [x0, x1, x2], _, hD, hb =>
      have b0 := hb x0 (by simp)
      have b1 := hb x1 (by simp)
      have b2 := hb x2 (by simp)
      refine ⟨D, [.int x0, .int x1, .int x2], rfl, SqL.of hD, rfl, _, _, rfl, _, _, rfl, _, _, rfl, rfl, ?_⟩
      refine turn_does b0 b1 b2 (by rw [List.length_set, List.length_set, List.length_set]; exact hl2) ?_ ?_ ?_ fun σ' H3 l3 z0 z1 keep => ?_
      · rw [List.getElem?_set_ne (by decide), List.getElem?_set_ne (by decide), List.getElem?_set_self (by omega)]
      · rw [List.getElem?_set_ne (by decide), List.getElem?_set_self (by rw [List.length_set]; omega)]
      · rw [List.getElem?_set_self (by rw [List.length_set, List.length_set]; omega)]
      · rw [List.getElem?_set_ne (by decide), List.getElem?_set_ne (by decide), List.getElem?_set_ne (by decide)] at z0 z1
        refine ⟨l3, z0.trans g0, ?_, p, i2, m2, r2, z1.trans g1, keep _ _ hp2, hi2⟩
        rcases sql_split hS2 with q | ⟨o, q1, q2, q3⟩
        · exact q _
        · exact q3 _ (keep _ _ q1)
end
end Se.K88
set_option Elab.async false
set_option linter.all false
set_option maxRecDepth 100000
set_option maxHeartbeats 0
/-! k88: the law holds. -/
namespace Se.K88
open PySem PySem.Spec
open PyProof.Rows L2
theorem facts {P : Program} {w : World} {K : PySem.W.Frag} {h : Heap} {mg : Str → Option Value} {f : Addr} (X : K.In h) (G : h.Ns mainGlobals mg) (hfa : mg ("law" : Str) = some (.ref f)) (c : He.SaysX faL fnL [] [] ex w h K) :
    ∃ fd : FuncData, (∀ (s : Shared) (v : Value), BindsTo s fd ⟨[v], []⟩ [("_law_script", v)]) ∧ ∀ base : Heap, K.In base → base.Ns mainGlobals mg → FnOk P w K mg base CX0 21 f fd ["_law_script"] (spLaw K) := by
  have cd := c.t.d
  obtain ⟨fdL, FL⟩ := cd.defs (d := dLaw) (List.mem_append_left _ (by simp))
  obtain ⟨fdD, FD⟩ := cd.defs (d := dDice) (List.mem_append_left _ (by simp))
  obtain ⟨fdN, FN⟩ := cd.defs (d := dNext) (List.mem_append_left _ (by simp))
  have hch : ∀ j : Nat, ∃ fd : FuncData, ∀ d, dd j = some d → FunD K d.name d.qual d.params d.body d.scope (d.dvs K) (d.kws K) (He.fAd K d.at_) fd := fun j => by
    cases q : dd j with
    | none => exact ⟨fdL, fun d e => nomatch e⟩
    | some d =>
      obtain ⟨fd, F⟩ := cd.defs (dd_mem q)
      exact ⟨fd, fun d' e => by
        cases e
        exact F⟩
  obtain ⟨FT, hF⟩ := Classical.axiomOfChoice hch
  have gLaw := gl_ok X G cd (x := "law") (by decide +kernel)
  have gD := gl_ok X G cd (x := "_law_dice") (by decide +kernel)
  have gN := gl_ok X G cd (x := "_law_next") (by decide +kernel)
  have gR := fr_ok X G cd (x := "range") (by decide +kernel)
  have gLn := fr_ok X G cd (x := "len") (by decide +kernel)
  have gI := fr_ok X G cd (x := "int") (by decide +kernel)
  have e : f = He.ga K "law" := by
    rw [hfa] at gLaw
    injection gLaw with z
    injection z
  subst e
  have bL := FunD.bindsA (ps := ["_law_script"]) FL fun kV doc pm an cdv ct us hl => match us, hl with
    | [_], _ => by kernel_rfl
  have bD : L2.Binds K fdD ["_law_script"] [] := FD.bindsN fun kV doc pm an cdv ct us hl => match us, hl with
    | [_], _ => by kernel_rfl
  have bN : L2.Binds K fdN ["_law_dice_here", "_law_many"] [] := FN.bindsN fun kV doc pm an cdv ct us hl => match us, hl with
    | [_, _], _ => by kernel_rfl
  exact ⟨fdL, fun s v => bL s [v] rfl, fun base _ _ => ok_law FL (ok_dice FD gLn gI) (ok_next FN gLn) gD gN FD.kp FN.kp bD bN gR fun θ hG => sound (FT := FT) X G cd c.more hF hG 200⟩
end Se.K88
open PySem PySem.W
open PySem.Calls PyProof.Rows
theorem PySem.Challenge.cw_wholetongue_k88_images_made_by_hand_holds : PySem.Challenge.rw_wholetongue_k88_images_made_by_hand.Holds := by
  w_on; o_law
  refine HandSHeadRun.head_any (r := Se.K88.R88) (q := view Se.K88.R88.prog [30]) (H := Se.K88.hook88) (ob := Se.K88.ob88) (M := 4000) (loose := Se.K88.loose88) (d := HandSHeadRun.topDef Se.K88.R88.prog 30) (kwd := []) Se.K88.ob88_eq
    (by kernel_rfl) (fun s => by kernel_rfl) Se.K88.run88 (by kernel_rfl) (by kernel_rfl) (by kernel_rfl) (by rfl) (by first | assumption | decide +kernel) (by decide +kernel) ⟨rfl, rfl, rfl, rfl, rfl, by decide +kernel⟩ ?hw ?hc
  case hw => w_witness2
  case hc =>
    refine L2.walk_ofE (l := PySem.Challenge.rw_wholetongue_k88_images_made_by_hand) (n := 63) (k := 21) (x := "_law_script") (CX := L2.CX0) rfl (by decide) (by kernel_rfl) ⟨rfl, by decide, by decide⟩ ?F (fun _ _ _ _ z => z)
    intro w mg fa h Y G hmg0
    obtain ⟨K, KX, c⟩ := Y
    have atLaw : mg ("law" : PySem.Str) = some (.ref fa) := by
      have e : (HandSHeadRun.topDef Se.K88.R88.prog 30).name = ("law" : PySem.Str) := by kernel_rfl
      rw [← e]
      exact hmg0
    obtain ⟨fd, hb, hF⟩ := Se.K88.facts (P := PySem.Challenge.rw_wholetongue_k88_images_made_by_hand.prog) (w := w) KX G atLaw c
    exact ⟨K, fd, Se.K88.spLaw K, KX, hb, fun H a ns hl _ hS => ⟨a, ns, rfl, hS, fun _ => rfl⟩, hF⟩
