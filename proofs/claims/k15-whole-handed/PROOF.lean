import PyProof.Rows.All
import Wide.All
import OpenK.AllK
import Wide.FinOn
import HandS.ForMost
import HandS.Lambda
import HandS.CallRecv
import KE.KStateDown
import HandS.Ends
import HandS.Head0
import HandS.Head1
import HandS.Head2
import HandS.HeadEnd
import HandS.HeadHook1
import HandS.EndTab
import HandS.ForExc
import HandS.IsInst
import HandS.Deep
import HandS.Style
import HandS.TupMul
import HandS.Conv
import HandS.Set
import HandS.ExcIs
import HandS.SetFor
import HandS.TupSets
import HandS.SortInts
import PyProof.StrOps2
import HandS.SortRule
import KE.DataMinKey
import HandS.More
import PySem.Challenge.RW_coinchute_k15_whole_handed
set_option Elab.async false
set_option linter.all false
set_option maxRecDepth 100000
namespace Mi

inductive D where
  | non | dz | bl (b : Bool) | int (i : Int) | str (t : Nat) | tup (ds : List D) | fz (ds : List D) | scr (ds : List D) | ref (a : Nat) | fn (f : Nat) | cls (c : Nat) | lam (f : Nat)
  deriving Repr, Inhabited

mutual
def D.same : D → D → Bool
  | .non, .non => true
  | .dz, .dz => true
  | .bl a, .bl b => a == b
  | .int a, .int b => a == b
  | .str a, .str b => a == b
  | .tup a, .tup b => D.sames a b
  | .fz a, .fz b => D.sames a b
  | .scr a, .scr b => D.sames a b
  | .ref a, .ref b => a == b
  | .fn a, .fn b => a == b
  | .cls a, .cls b => a == b
  | .lam a, .lam b => a == b
  | _, _ => false
def D.sames : List D → List D → Bool
  | [], [] => true
  | x :: xs, y :: ys => D.same x y && D.sames xs ys
  | _, _ => false
end
mutual
theorem D.same_iff : ∀ x y : D, D.same x y = true ↔ x = y
  | .non, y => by cases y <;> simp [D.same]
  | .dz, y => by cases y <;> simp [D.same]
  | .bl a, y => by cases y <;> simp [D.same]
  | .int a, y => by cases y <;> simp [D.same]
  | .str a, y => by cases y <;> simp [D.same]
  | .tup a, y => by
    cases y with
    | tup b => simp [D.same, D.sames_iff a b]
    | _ => simp [D.same]
  | .fz a, y => by
    cases y with
    | fz b => simp [D.same, D.sames_iff a b]
    | _ => simp [D.same]
  | .scr a, y => by
    cases y with
    | scr b => simp [D.same, D.sames_iff a b]
    | _ => simp [D.same]
  | .ref a, y => by cases y <;> simp [D.same]
  | .fn a, y => by cases y <;> simp [D.same]
  | .cls a, y => by cases y <;> simp [D.same]
  | .lam a, y => by cases y <;> simp [D.same]
theorem D.sames_iff : ∀ x y : List D, D.sames x y = true ↔ x = y
  | [], y => by cases y <;> simp [D.sames]
  | x :: xs, y => by
    cases y with
    | nil => simp [D.sames]
    | cons z zs => simp [D.sames, D.same_iff x z, D.sames_iff xs zs]
end
instance : DecidableEq D := fun x y => if h : D.same x y = true then isTrue ((D.same_iff x y).mp h) else isFalse fun e => h ((D.same_iff x y).mpr e)
def D.isRef (a : Nat) : D → Bool
  | .ref b => a == b
  | _ => false

inductive O where
  | lst (ds : List D) | ins (c : Nat) (fs : List (Nat × D)) | dic (kvs : List (List Int × D))
  deriving Repr, Inhabited, DecidableEq

abbrev Store := List O

inductive R (α : Type) where
  | stuck | ok (a : α) (S : Store) | exc (c : Nat) (S : Store)
  deriving Repr

abbrev M (α : Type) := Store → R α
abbrev Env := List (Option D)

def ret {α : Type} (a : α) : M α := fun S => .ok a S
def stk {α : Type} : M α := fun _ => .stuck
def bnd {α β : Type} (m : M α) (f : α → M β) : M β := fun S => match m S with
  | .ok a S' => f a S'
  | .exc c S' => .exc c S'
  | .stuck => .stuck
def opt {α : Type} : Option α → M α
  | some a => ret a
  | none => stk

def asL (S : Store) : D → Option (List D)
  | .fz ds => some ds
  | .ref a => match S[a]? with
    | some (.lst ds) => some ds
    | _ => none
  | _ => none
def asR (S : Store) (d : D) : Option (List D) := match d with
  | .scr ds => some ds
  | _ => asL S d
def asT : D → Option (List D)
  | .tup ds => some ds
  | _ => none
def asQ (S : Store) (d : D) : Option (List D) := match d with
  | .tup ds => some ds
  | _ => asL S d
def asI : D → Option Int
  | .int i => some i
  | _ => none
def asB : D → Option Bool
  | .bl b => some b
  | _ => none
def mapO {α β : Type} (f : α → Option β) : List α → Option (List β)
  | [] => some []
  | x :: xs => match f x, mapO f xs with
    | some y, some ys => some (y :: ys)
    | _, _ => none
def newL (m : Bool) (ds : List D) : M D := fun S => if m then .ok (.ref S.length) (S ++ [.lst ds]) else .ok (.fz ds) S

def res (S : Store) : Nat → D → Option D
  | 0, _ => none
  | n + 1, d => match d with
    | .tup ds => (mapO (res S n) ds).map .tup
    | .fz ds => (mapO (res S n) ds).map .fz
    | .ref a => match S[a]? with
      | some (.lst ds) => (mapO (res S n) ds).map .fz
      | _ => none
    | .fn _ => none
    | .cls _ => none
    | .lam _ => none
    | .scr _ => none
    | .dz => none
    | d => some d
mutual
def eqP : D → D → Bool
  | .non, .non => true
  | .bl a, .bl b => a == b
  | .bl a, .int j => (if a then 1 else 0) == j
  | .int i, .bl b => i == (if b then 1 else 0)
  | .int i, .int j => i == j
  | .str x, .str y => x == y
  | .fz xs, .fz ys => eqPs xs ys
  | .tup xs, .tup ys => eqPs xs ys
  | _, _ => false
def eqPs : List D → List D → Bool
  | [], [] => true
  | x :: xs, y :: ys => eqP x y && eqPs xs ys
  | _, _ => false
end
def deep : Nat := 60
def eqD (S : Store) (x y : D) : Option Bool := match res S deep x, res S deep y with
  | some p, some q => some (eqP p q)
  | _, _ => none

def cut (xs : List D) (lo hi : Option Int) : List D := (xs.drop (HT.sIx xs.length 0 lo)).take (HT.sIx xs.length xs.length hi - HT.sIx xs.length 0 lo)
def intsO (ds : List D) : Option (List Int) := mapO asI ds
def boolsO (ds : List D) : Option (List Bool) := mapO asB ds
def maxL : List Int → Int
  | [] => 0
  | [x] => x
  | x :: xs => max x (maxL xs)
def minL : List Int → Int
  | [] => 0
  | [x] => x
  | x :: xs => min x (minL xs)
def insI (x : Int) : List Int → List Int
  | [] => [x]
  | y :: ys => if x ≤ y then x :: y :: ys else y :: insI x ys
def sortI : List Int → List Int
  | [] => []
  | x :: xs => insI x (sortI xs)
def firstN {α : Type} (p : α → Bool) : List α → Option Nat
  | [] => none
  | x :: l => if p x then some 0 else (firstN p l).map (· + 1)
def pairO : D → Option (Int × Int)
  | .tup [.int a, .int b] => some (a, b)
  | _ => none
def pairD (c : Int × Int) : D := .tup [.int c.1, .int c.2]
def lexP (a b : Int × Int) : Bool := decide (a.1 < b.1 ∨ (a.1 = b.1 ∧ a.2 < b.2))
def insP (x : Int × Int) : List (Int × Int) → List (Int × Int)
  | [] => [x]
  | y :: ys => if lexP y x then y :: insP x ys else x :: y :: ys
def sortP : List (Int × Int) → List (Int × Int)
  | [] => []
  | x :: xs => insP x (sortP xs)
def stO : D → Option (Nat × Int)
  | .tup [.str t, .int i] => some (t, i)
  | _ => none
def chO : D → Option (List (Nat × Int))
  | .fz ds => mapO stO ds
  | _ => none
def ltS (a b : Nat × Int) : Bool := if a.1 = b.1 then decide (a.2 < b.2) else decide (a.1 < b.1)
def ltC : List (Nat × Int) → List (Nat × Int) → Bool
  | [], [] => false
  | [], _ :: _ => true
  | _ :: _, [] => false
  | a :: as, b :: bs => if a = b then ltC as bs else ltS a b
def ordC : List (List (Nat × Int)) → Bool
  | [] => true
  | a :: l => (l.all fun b => !ltC b a) && ordC l
def nubI : List Int → List Int
  | [] => []
  | x :: xs => if x ∈ xs then nubI xs else x :: nubI xs
def nubT : List (List Int) → List (List Int)
  | [] => []
  | x :: xs => if x ∈ xs then nubT xs else x :: nubT xs
def tupI (d : D) : Option (List Int) := match d with
  | .tup ds => intsO ds
  | _ => none
def lookT {β : Type} (k : List Int) : List (List Int × β) → Option β
  | [] => none
  | (j, v) :: r => if j = k then some v else lookT k r
def putT {β : Type} (k : List Int) (v : β) (kvs : List (List Int × β)) : List (List Int × β) :=
  if (kvs.any fun kv => decide (kv.1 = k)) = true then kvs.map (fun kv => if kv.1 = k then (kv.1, v) else kv) else kvs ++ [(k, v)]
def lookN {β : Type} (k : Nat) : List (Nat × β) → Option β
  | [] => none
  | (j, v) :: r => if j = k then some v else lookN k r
def putN {β : Type} (k : Nat) (v : β) : List (Nat × β) → List (Nat × β)
  | [] => [(k, v)]
  | (j, u) :: r => if j = k then (j, v) :: r else (j, u) :: putN k v r
def line : Nat := 1000000
def big : Int := 18446744073709551616

inductive Ty where | int | bool | list | tuple | str
  deriving Repr, DecidableEq
inductive Op where
  | add (m : Bool) | sub | mul (m : Bool) | fdiv | mod | pow | shl | shr | band | neg
  | eq | ne | lt | le | gt | ge | is | isnot | isin | notin
  | idx | slc (m lo hi : Bool) | rev (m : Bool)
  | mkL (m : Bool) | mkT | mkD | mkZ | txm (k t : Nat)
  | len | isT (t : Ty) | isC (c : Nat)
  | list (m : Bool) | tuple | all | any | sum | max1 | min1 | max2 | min2 | abs
  | sorted (m : Bool) | lenset | sortset (m : Bool) | listR (m : Bool) | tupleR
  | append | extend | pop | clear | reverse | insert | index | count
  | attr (n : Nat)
  deriving Repr, DecidableEq
mutual
inductive E where
  | c (d : D) | v (i : Nat) | g (d : D)
  | op (o : Op) (es : Es)
  | and (es : Es) | or (es : Es) | not (a : E) | ite (a b c : E)
  | ch (o p : Op) (a b c : E) | ch3 (o p q : Op) (a b c d : E) | mxk (b : Bool) (a i : Nat) (m : Int) (e : E)
  | comp (m : Bool) (own : List Nat) (tg : T) (src : Src) (ifs : Es) (elt : E)
  | ask (g : Nat) (e : E) | askT (g : Nat) (e : E) (t : Nat) | lamV (f : Nat) (e : E)
  | call (f : Nat) (es : Es) | callv (i : Nat) (es : Es) | mk (c : Nat) (es : Es) | meth (o : E) (m : Nat) (es : Es) | lm (p : Op) (o : E) (es : Es) | lq (p : Op) (o : E) (es : Es)
  deriving DecidableEq
inductive Es where | nil | cons (e : E) (es : Es)
  deriving DecidableEq
inductive Src where | seq (e : E) | rng (a : E) | rng2 (a b : E) | enum (e : E) | zip (a b : E)
  deriving DecidableEq
inductive T where | nm (i : Nat) | tp (ts : Ts)
  deriving DecidableEq
inductive Ts where | nil | cons (t : T) (ts : Ts)
  deriving DecidableEq
end
mutual
inductive St where
  | asg (tg : T) (e : E) | par (is : List Nat) (es : Es) | fld (o : E) (n : Nat) (e : E) | put (o i e : E) | put2 (o i o2 i2 e : E)
  | aug (i : Nat) (o : Op) (e : E) | augI (o i : E) (p : Op) (e : E)
  | expr (e : E) | ret (e : E) | retN | ite (c : E) (a b : Sts)
  | for_ (tg : T) (src : Src) (body : Sts) | whl (c : E) (body : Sts)
  | raise (c : Nat) | brk | pass
inductive Sts where | nil | cons (s : St) (ss : Sts)
end

structure FDef where
  np : Nat
  nl : Nat
  pure : Nat
  body : Sts
structure CDef where
  init : Option Nat
  meths : List (Nat × Nat)
  sups : List Nat
  flds : List Nat
  inst : Bool
  asked : Bool
  exc : Bool
inductive AskT where
  | full (cl a b : Nat) | kinds (cl : Nat) (cs : List Nat) | text (cl a b t0 ta tb : Nat)
structure Prog where
  fns : List FDef
  cls : List CDef
  asks_ : List (Nat × AskT)
def Prog.asks (pr : Prog) (c : Nat) : Bool := match pr.cls[c]? with
  | some k => k.asked
  | none => false
def Prog.raises (pr : Prog) (c : Nat) : Bool := match pr.cls[c]? with
  | some k => k.exc
  | none => false
def Prog.hasF (pr : Prog) (c n : Nat) : Bool := match pr.cls[c]? with
  | some k => k.inst && k.flds.contains n
  | none => false
def Prog.meth (pr : Prog) (c m : Nat) : Option Nat := match pr.cls[c]? with
  | some k => lookN m k.meths
  | none => none
def Prog.makes (pr : Prog) (c : Nat) : Bool := match pr.cls[c]? with
  | some k => k.inst
  | none => false
def Prog.sub (pr : Prog) (c d : Nat) : Bool := match pr.cls[c]? with
  | some k => k.sups.contains d
  | none => false

def Prog.askV (pr : Prog) (g : Nat) (oc : Option Nat) : Option D := match lookN g pr.asks_ with
  | some (.full cl a b) => match oc with
    | none => some (.bl false)
    | some c => if pr.raises c && pr.sub c cl then some (.bl (pr.sub c a && !pr.sub c b)) else none
  | some (.kinds cl cs) => match oc with
    | none => some (.fz [])
    | some c => if pr.raises c && pr.sub c cl then some (.fz (cs.map (fun d => .bl (pr.sub c d)) ++ [.bl true])) else none
  | some (.text _ _ _ _ _ _) => none
  | none => none
def Prog.askW (pr : Prog) (g t : Nat) (oc : Option Nat) : Option D := match lookN g pr.asks_ with
  | some (.text cl a b t0 ta tb) => match oc with
    | none => some (.bl (decide (t0 = t)))
    | some c => if pr.raises c && pr.sub c cl then (if pr.sub c a then (if pr.sub c b then none else some (.bl (decide (ta = t)))) else if pr.sub c b then some (.bl (decide (tb = t))) else some (.bl (decide (t0 = t)))) else none
  | _ => none

inductive Out where
  | nx (ρ : Env) | rt (d : D) | bk (ρ : Env)

def isTy (pr : Prog) (S : Store) (t : Ty) : D → Option Bool
  | .non => some false
  | .dz => some false
  | .bl _ => some (decide (t = .bool ∨ t = .int))
  | .int _ => some (decide (t = .int))
  | .str _ => some (decide (t = .str))
  | .tup _ => some (decide (t = .tuple))
  | .fz _ => some (decide (t = .list))
  | .ref a => match S[a]? with
    | some (.lst _) => some (decide (t = .list))
    | some (.ins c _) => if pr.makes c then some false else none
    | some (.dic _) => some false
    | none => none
  | _ => none
def isCl (pr : Prog) (S : Store) (c : Nat) : D → Option Bool
  | .non => some false
  | .dz => some false
  | .bl _ => some false
  | .int _ => some false
  | .str _ => some false
  | .tup _ => some false
  | .fz _ => some false
  | .ref a => match S[a]? with
    | some (.lst _) => some false
    | some (.ins k _) => if pr.makes k then some (pr.sub k c) else none
    | some (.dic _) => some false
    | none => none
  | _ => none
def zipD : List D → List D → List D
  | x :: xs, y :: ys => .tup [x, y] :: zipD xs ys
  | _, _ => []
def onI2 (x y : D) (f : Int → Int → Option D) : M D := match x, y with
  | .int i, .int j => opt (f i j)
  | _, _ => stk
def onL (a : Nat) (f : List D → Option (D × List D)) : M D := fun S => match S[a]? with
  | some (.lst ds) => match f ds with
    | some (d, ds') => .ok d (S.set a (.lst ds'))
    | none => .stuck
  | _ => .stuck
def smalls (n : Nat) : Bool := decide (n ≤ line)
def ltD (x y : D) : M D := match x, y with
  | .tup [.str t, .int i], .tup [.str u, .int j] => ret (.bl (if t = u then decide (i < j) else decide (t < u)))
  | _, _ => onI2 x y fun i j => some (.bl (decide (i < j)))
def opD (pr : Prog) : Op → List D → M D
  | .add m, [x, y] => fun S => match x, y with
    | .int i, .int j => .ok (.int (i + j)) S
    | x, y => match asL S x, asL S y with
      | some xs, some ys => if smalls (xs.length + ys.length) then newL m (xs ++ ys) S else .stuck
      | _, _ => .stuck
  | .sub, [x, y] => onI2 x y fun i j => some (.int (i - j))
  | .mul m, [x, y] => fun S => match x, y with
    | .int i, .int j => if (-big < i ∧ i < big) ∨ (-big < j ∧ j < big) then .ok (.int (i * j)) S else .stuck
    | .tup xs, .int k => if xs.isEmpty = false ∧ 2 ≤ k ∧ k ≤ 1000 ∧ xs.length ≤ 1000 then .ok (.tup (List.replicate k.toNat xs).flatten) S else .stuck
    | x, .int k => match asL S x with
      | some xs => if -big < 2 * k ∧ 2 * k < big ∧ smalls (xs.length * k.toNat) then newL m (List.replicate k.toNat xs).flatten S else .stuck
      | none => .stuck
    | _, _ => .stuck
  | .fdiv, [x, y] => onI2 x y fun i j => if 0 < j ∧ j < 1073741824 then some (.int (i / j)) else none
  | .mod, [x, y] => onI2 x y fun i j => if 0 < j then some (.int (i % j)) else none
  | .pow, [x, y] => onI2 x y fun i j => if 0 ≤ j ∧ j ≤ 1000 ∧ -big < i ∧ i < big then some (.int (i ^ j.toNat)) else none
  | .shl, [x, y] => onI2 x y fun i j => if 0 ≤ j ∧ j ≤ 1000 ∧ -big < i ∧ i < big then some (.int (i * 2 ^ j.toNat)) else none
  | .shr, [x, y] => onI2 x y fun i j => if 0 ≤ j then some (.int (i / 2 ^ j.toNat)) else none
  | .band, [x, y] => onI2 x y fun i j => some (.int (PySem.Builtin.bitAnd i j))
  | .neg, [x] => match x with
    | .int i => ret (.int (-i))
    | _ => stk
  | .eq, [x, y] => fun S => match eqD S x y with
    | some b => .ok (.bl b) S
    | none => .stuck
  | .ne, [x, y] => fun S => match eqD S x y with
    | some b => .ok (.bl (!b)) S
    | none => .stuck
  | .lt, [x, y] => ltD x y
  | .le, [x, y] => onI2 x y fun i j => some (.bl (decide (i ≤ j)))
  | .gt, [x, y] => onI2 x y fun i j => some (.bl (decide (j < i)))
  | .ge, [x, y] => onI2 x y fun i j => some (.bl (decide (j ≤ i)))
  | .is, [x, y] => match x, y with
    | .bl a, .bl b => ret (.bl (decide (a = b)))
    | .non, .non => ret (.bl true)
    | .bl _, .non => ret (.bl false)
    | .dz, .non => ret (.bl false)
    | .int _, .non => ret (.bl false)
    | .str _, .non => ret (.bl false)
    | .tup _, .non => ret (.bl false)
    | .fz _, .non => ret (.bl false)
    | .ref _, .non => ret (.bl false)
    | _, _ => stk
  | .isnot, [x, y] => match x, y with
    | .bl a, .bl b => ret (.bl (!decide (a = b)))
    | .non, .non => ret (.bl false)
    | .bl _, .non => ret (.bl true)
    | .dz, .non => ret (.bl true)
    | .int _, .non => ret (.bl true)
    | .str _, .non => ret (.bl true)
    | .tup _, .non => ret (.bl true)
    | .fz _, .non => ret (.bl true)
    | .ref _, .non => ret (.bl true)
    | _, _ => stk
  | .isin, [x, y] => fun S => match y with
    | .tup [.str s, .str t] => match x with
      | .str r => .ok (.bl (decide (s = r) || decide (t = r))) S
      | _ => .stuck
    | .ref a => match S[a]? with
      | some (.dic kvs) => match tupI x with
        | some k => .ok (.bl (lookT k kvs).isSome) S
        | none => .stuck
      | some (.lst ds) => match res S deep x, mapO (res S deep) ds with
        | some p, some qs => .ok (.bl (qs.any fun q => eqP q p)) S
        | _, _ => .stuck
      | _ => .stuck
    | .fz ds => match res S deep x, mapO (res S deep) ds with
        | some p, some qs => .ok (.bl (qs.any fun q => eqP q p)) S
        | _, _ => .stuck
    | _ => .stuck
  | .notin, [x, y] => fun S => match y with
    | .tup [.str s, .str t] => match x with
      | .str r => .ok (.bl (!(decide (s = r) || decide (t = r)))) S
      | _ => .stuck
    | .ref a => match S[a]? with
      | some (.dic kvs) => match tupI x with
        | some k => .ok (.bl (!(lookT k kvs).isSome)) S
        | none => .stuck
      | some (.lst ds) => match res S deep x, mapO (res S deep) ds with
        | some p, some qs => .ok (.bl (!(qs.any fun q => eqP q p))) S
        | _, _ => .stuck
      | _ => .stuck
    | .fz ds => match res S deep x, mapO (res S deep) ds with
        | some p, some qs => .ok (.bl (!(qs.any fun q => eqP q p))) S
        | _, _ => .stuck
    | _ => .stuck
  | .idx, [x, y] => fun S => match y with
    | .int i => match asQ S x with
      | some xs => opt (L2.atI xs i) S
      | none => .stuck
    | y => match x with
      | .ref a => match S[a]? with
        | some (.dic kvs) => match tupI y with
          | some k => opt (lookT k kvs) S
          | none => .stuck
        | _ => .stuck
      | _ => .stuck
  | .slc m lo hi, x :: ps => fun S => match asR S x with
    | some xs => match lo, hi, ps with
      | true, true, [.int i, .int j] => newL m (cut xs (some i) (some j)) S
      | true, false, [.int i] => newL m (cut xs (some i) none) S
      | false, true, [.int j] => newL m (cut xs none (some j)) S
      | false, false, [] => newL m (cut xs none none) S
      | _, _, _ => .stuck
    | none => .stuck
  | .rev m, [x] => fun S => match asL S x with
    | some xs => newL m xs.reverse S
    | none => .stuck
  | .mkL m, ds => if smalls ds.length then newL m ds else stk
  | .mkT, ds => if smalls ds.length then ret (.tup ds) else stk
  | .mkD, [] => fun S => .ok (.ref S.length) (S ++ [.dic []])
  | .mkZ, [] => ret .dz
  | .txm _ t, [] => ret (.str t)
  | .len, [x] => fun S => match asQ S x with
    | some xs => .ok (.int xs.length) S
    | none => .stuck
  | .isT t, [x] => fun S => match isTy pr S t x with
    | some b => .ok (.bl b) S
    | none => .stuck
  | .isC c, [x] => fun S => if pr.asks c then match isCl pr S c x with
    | some b => .ok (.bl b) S
    | none => .stuck
    else .stuck
  | .list m, [x] => fun S => match asQ S x with
    | some xs => newL m xs S
    | none => .stuck
  | .tuple, [x] => fun S => match asQ S x with
    | some xs => .ok (.tup xs) S
    | none => .stuck
  | .all, [x] => fun S => match (asL S x).bind boolsO with
    | some bs => .ok (.bl (bs.all id)) S
    | none => .stuck
  | .any, [x] => fun S => match (asL S x).bind boolsO with
    | some bs => .ok (.bl (bs.any id)) S
    | none => .stuck
  | .sum, [x] => fun S => match (asL S x).bind intsO with
    | some ns => .ok (.int ns.sum) S
    | none => .stuck
  | .max1, [x] => fun S => match (asL S x).bind intsO with
    | some (n :: ns) => .ok (.int (maxL (n :: ns))) S
    | _ => .stuck
  | .min1, [x] => fun S => match (asL S x).bind intsO with
    | some (n :: ns) => .ok (.int (minL (n :: ns))) S
    | _ => .stuck
  | .max2, [x, y] => onI2 x y fun i j => some (.int (if j > i then j else i))
  | .min2, [x, y] => onI2 x y fun i j => some (.int (if j < i then j else i))
  | .abs, [x] => match x with
    | .int i => ret (.int (if i < 0 then -i else i))
    | _ => stk
  | .sorted m, [x] => fun S => match (asL S x).bind intsO with
    | some ns => newL m ((sortI ns).map .int) S
    | none => match (asL S x).bind (mapO pairO) with
      | some ps => newL m ((sortP ps).map pairD) S
      | none => .stuck
  | .lenset, [x] => fun S => match asL S x with
    | some ds => match intsO ds with
      | some ns => if ns.length < 1000 then .ok (.int (nubI ns).length) S else .stuck
      | none => match mapO tupI ds with
        | some ts => if ts.length < 64 then .ok (.int (nubT ts).length) S else .stuck
        | none => .stuck
    | none => .stuck
  | .sortset m, [x] => fun S => match (asL S x).bind intsO with
    | some ns => if (nubI ns).length < 64 ∧ ns.length < 1000 then newL m ((sortI (nubI ns)).map .int) S else .stuck
    | none => .stuck
  | .listR m, [x] => match x with
    | .int i => if 0 ≤ i ∧ i ≤ 1000000 then newL m ((List.range i.toNat).map fun k => .int (k : Nat)) else stk
    | _ => stk
  | .tupleR, [x] => match x with
    | .int i => if 0 ≤ i ∧ i ≤ 1000000 then ret (.tup ((List.range i.toNat).map fun k => .int (k : Nat))) else stk
    | _ => stk
  | .index, [x, y] => fun S => match asL S x, res S deep y with
    | some ds, some q => match mapO (res S deep) ds with
      | some ps => match firstN (fun p => eqP p q) ps with
        | some j => .ok (.int (j : Nat)) S
        | none => .stuck
      | none => .stuck
    | _, _ => .stuck
  | .count, [x, y] => fun S => match (asL S x).bind intsO, y with
    | some ns, .int k => .ok (.int (ns.count k : Nat)) S
    | _, _ => .stuck
  | .append, [x, y] => match x with
    | .ref a => onL a fun ds => if ds.length < line then some (.non, ds ++ [y]) else none
    | _ => stk
  | .extend, [x, y] => match x with
    | .ref a => fun S => match asL S y with
      | some zs => if y.isRef a then .stuck else onL a (fun ds => if ds.length + zs.length ≤ line then some (.non, ds ++ zs) else none) S
      | none => .stuck
    | _ => stk
  | .pop, [x] => match x with
    | .ref a => onL a fun ds => match ds.getLast? with
      | some d => some (d, ds.dropLast)
      | none => none
    | _ => stk
  | .insert, [x, y, z] => match x, y with
    | .ref a, .int k => onL a fun ds => if 0 ≤ k ∧ k ≤ ds.length ∧ ds.length < line then some (.non, ds.take k.toNat ++ z :: ds.drop k.toNat) else none
    | _, _ => stk
  | .clear, [x] => match x with
    | .ref a => onL a fun _ => some (.non, [])
    | _ => stk
  | .reverse, [x] => match x with
    | .ref a => onL a fun ds => some (.non, ds.reverse)
    | _ => stk
  | .attr n, [x] => fun S => match x with
    | .ref a => match S[a]? with
      | some (.ins c fs) => if pr.hasF c n then opt (lookN n fs) S else .stuck
      | _ => .stuck
    | _ => .stuck
  | _, _ => stk

def bindT : T → D → Env → Option Env
  | .nm i, d, ρ => some (ρ.set i (some d))
  | .tp ts, .tup ds, ρ => bindTs ts ds ρ
  | .tp ts, .fz ds, ρ => bindTs ts ds ρ
  | _, _, _ => none
where bindTs : Ts → List D → Env → Option Env
  | .nil, [], ρ => some ρ
  | .cons t ts, d :: ds, ρ => match bindT t d ρ with
    | some ρ' => bindTs ts ds ρ'
    | none => none
  | _, _, _ => none
def wipeE (ρ : Env) : List Nat → Env
  | [] => ρ
  | v :: vs => (wipeE ρ vs).set v none
structure Cf where
  Φ : Nat → List D → M D
  fu : Nat
  pr : Prog
def stays (d : D) (ds : List D) (S : Store) : Bool := match d with
  | .ref a => decide (S[a]? = some (.lst ds))
  | _ => true
def enumD (k : Nat) : List D → List D
  | [] => []
  | d :: ds => .tup [.int k, d] :: enumD (k + 1) ds
def rangeD (lo : Int) (n : Nat) : List D := (List.range n).map fun k => .int (lo + (k : Nat))
structure Walk where
  ds : List D
  ok : Store → Bool
def walkS (x : D) : M Walk := fun S => match asQ S x with
  | some ds => .ok ⟨ds, stays x ds⟩ S
  | none => .stuck
def walkE (x : D) : M Walk := fun S => match asL S x with
  | some ds => .ok ⟨enumD 0 ds, stays x ds⟩ S
  | none => .stuck
def walkZ (x y : D) : M Walk := fun S => match asL S x, asL S y with
  | some xs, some ys => .ok ⟨zipD xs ys, fun S' => stays x xs S' && stays y ys S'⟩ S
  | _, _ => .stuck
def walkR (x y : D) : M Walk := match x, y with
  | .int i, .int j => if -1000000 ≤ i ∧ i ≤ 1000000 ∧ -1000000 ≤ j ∧ j ≤ 1000000 then ret ⟨rangeD i (j - i).toNat, fun _ => true⟩ else stk
  | _, _ => stk
def forL (ok : Store → Bool) (tg : T) (body : Env → M Out) : List D → Env → M Out
  | [], ρ => ret (.nx ρ)
  | d :: ds, ρ => bnd (opt (bindT tg d ρ)) fun ρ1 => bnd (body ρ1) fun o => match o with
    | .nx ρ2 => fun S => if ok S then forL ok tg body ds ρ2 S else .stuck
    | .bk ρ2 => ret (.nx ρ2)
    | .rt d => ret (.rt d)
def whlL (c : Env → M Bool) (body : Env → M Out) : Nat → Env → M Out
  | 0, _ => stk
  | n + 1, ρ => bnd (c ρ) fun b => if b then bnd (body ρ) fun o => match o with
    | .nx ρ2 => whlL c body n ρ2
    | .bk ρ2 => ret (.nx ρ2)
    | .rt d => ret (.rt d)
    else ret (.nx ρ)
def cmpL (ok : Store → Bool) (tg : T) (cond : Env → M Bool) (elt : Env → M D) : List D → Env → List D → M (List D)
  | [], _, acc => ret acc
  | d :: ds, ρ, acc => bnd (opt (bindT tg d ρ)) fun ρ1 => bnd (cond ρ1) fun b => if b then bnd (elt ρ1) fun x => fun S => if ok S then cmpL ok tg cond elt ds ρ (acc ++ [x]) S else .stuck
    else fun S => if ok S then cmpL ok tg cond elt ds ρ acc S else .stuck
def noX {α : Type} (m : M α) : M α := fun S => match m S with
  | .exc _ _ => .stuck
  | r => r
def tst (m : M D) : M Bool := bnd m fun d => opt (asB d)
def setFld (pr : Prog) (x : D) (n : Nat) (d : D) : M Unit := fun S => match x with
  | .ref a => match S[a]? with
    | some (.ins c fs) => if pr.hasF c n ∧ fs.length < 100 then .ok () (S.set a (.ins c (putN n d fs))) else .stuck
    | _ => .stuck
  | _ => .stuck
def getIx (x i : D) : M D := fun S => match asL S x, i with
  | some ds, .int k => opt (L2.atI ds k) S
  | _, _ => .stuck
def setIx (x i d : D) : M Unit := fun S => match x with
  | .ref a => match S[a]?, i with
    | some (.lst ds), .int k => match L2.ixN ds.length k with
      | some j => .ok () (S.set a (.lst (ds.set j d)))
      | none => .stuck
    | some (.dic kvs), i => match tupI i with
      | some k => if kvs.length < line then .ok () (S.set a (.dic (putT k d kvs))) else .stuck
      | none => .stuck
    | _, _ => .stuck
  | _ => .stuck
def keyD (vs : List D) (m k : Int) : Option Int := match L2.atI vs k with
  | some (.tup ys) => match L2.atI ys m with
    | some (.int z) => some z
    | _ => none
  | _ => none
def btK (b : Bool) (ks : List Int) (i j : Nat) : Bool := if b then decide (ks.getD i 0 > ks.getD j 0) else decide (ks.getD i 0 < ks.getD j 0)
def bestN (bt : Nat → Nat → Bool) : Nat → Nat
  | 0 => 0
  | k + 1 => if bt (k + 1) (bestN bt k) then k + 1 else bestN bt k
def mxkD (b : Bool) (m : Int) (d va : D) : M D := fun S => match asL S d, asL S va with
  | some ds, some vs => match intsO ds with
    | some ns => match mapO (keyD vs m) ns with
      | some ks => if 0 < ns.length then match ns[bestN (btK b ks) (ns.length - 1)]? with
        | some z => .ok (.int z) S
        | none => .stuck
        else .stuck
      | none => .stuck
    | none => .stuck
  | _, _ => .stuck
mutual
def evE (C : Cf) : E → Env → M D
  | .c d, _ => ret d
  | .g d, _ => ret d
  | .v i, ρ => opt (ρ[i]?.join)
  | .op o es, ρ => bnd (evEs C es ρ) fun ds => opD C.pr o ds
  | .and es, ρ => evAnd C es ρ
  | .or es, ρ => evOr C es ρ
  | .not a, ρ => bnd (evE C a ρ) fun d => bnd (opt (asB d)) fun b => ret (.bl (!b))
  | .ite a b c, ρ => bnd (tst (evE C a ρ)) fun t => if t then evE C b ρ else evE C c ρ
  | .ch o p a b c, ρ => bnd (evE C a ρ) fun x => bnd (evE C b ρ) fun y => bnd (opD C.pr o [x, y]) fun r => bnd (opt (asB r)) fun t =>
    if t then bnd (evE C c ρ) fun z => opD C.pr p [y, z] else ret (.bl false)
  | .ch3 o p q a b c d, ρ => bnd (evE C a ρ) fun x => bnd (evE C b ρ) fun y => bnd (opD C.pr o [x, y]) fun r => bnd (opt (asB r)) fun t =>
    if t then bnd (evE C c ρ) fun z => bnd (opD C.pr p [y, z]) fun r2 => bnd (opt (asB r2)) fun t2 => if t2 then bnd (evE C d ρ) fun w => opD C.pr q [z, w] else ret (.bl false) else ret (.bl false)
  | .mxk b a _ m e, ρ => bnd (evE C e ρ) fun d => bnd (opt (ρ[a]?.join)) fun va => mxkD b m d va
  | .comp m own tg src ifs elt, ρ => bnd (evSrc C src ρ) fun w => bnd (noX (cmpL w.ok tg (evIfs C ifs) (evE C elt) w.ds (wipeE ρ own) [])) fun ds => newL m ds
  | .ask g e, ρ => fun S => match evE C e ρ S with
    | .ok _ S' => opt (C.pr.askV g none) S'
    | .exc c S' => opt (C.pr.askV g (some c)) S'
    | .stuck => .stuck
  | .askT g e t, ρ => fun S => match evE C e ρ S with
    | .ok _ S' => opt (C.pr.askW g t none) S'
    | .exc c S' => opt (C.pr.askW g t (some c)) S'
    | .stuck => .stuck
  | .lamV f _, _ => ret (.lam f)
  | .call f es, ρ => bnd (evEs C es ρ) fun ds => C.Φ f ds
  | .callv i es, ρ => bnd (opt (ρ[i]?.join)) fun f => match f with
    | .fn f => bnd (evEs C es ρ) fun ds => C.Φ f ds
    | .lam f => bnd (evEs C es ρ) fun ds => noX (C.Φ f ds)
    | _ => stk
  | .mk c es, ρ => match C.pr.cls[c]? with
    | some k => match k.init with
      | some f => bnd (evEs C es ρ) fun ds => fun S => bnd (C.Φ f (.ref S.length :: ds)) (fun r => match r with
        | .non => ret (.ref S.length)
        | _ => stk) (S ++ [.ins c []])
      | none => match es with
        | .nil => fun S => if k.inst then .ok (.ref S.length) (S ++ [.ins c []]) else .stuck
        | _ => stk
    | none => stk
  | .meth o m es, ρ => bnd (evE C o ρ) fun x => fun S => match x with
    | .ref a => match S[a]? with
      | some (.ins c fs) => match C.pr.meth c m, lookN m fs with
        | some f, none => bnd (evEs C es ρ) (fun ds => C.Φ f (.ref a :: ds)) S
        | _, _ => .stuck
      | _ => .stuck
    | _ => .stuck
  | .lm p o es, ρ => bnd (evE C o ρ) fun x => fun S => match x with
    | .ref a => match S[a]? with
      | some (.lst _) => bnd (evEs C es ρ) (fun ds => opD C.pr p (.ref a :: ds)) S
      | _ => .stuck
    | _ => .stuck
  | .lq p o es, ρ => bnd (evE C o ρ) fun x => fun S => match asL S x with
    | some _ => bnd (evEs C es ρ) (fun ds => opD C.pr p (x :: ds)) S
    | none => .stuck
def evEs (C : Cf) : Es → Env → M (List D)
  | .nil, _ => ret []
  | .cons e es, ρ => bnd (evE C e ρ) fun d => bnd (evEs C es ρ) fun ds => ret (d :: ds)
def evAnd (C : Cf) : Es → Env → M D
  | .nil, _ => stk
  | .cons e .nil, ρ => evE C e ρ
  | .cons e es, ρ => bnd (evE C e ρ) fun d => bnd (opt (asB d)) fun b => if b then evAnd C es ρ else ret (.bl false)
def evOr (C : Cf) : Es → Env → M D
  | .nil, _ => stk
  | .cons e .nil, ρ => evE C e ρ
  | .cons e es, ρ => bnd (evE C e ρ) fun d => bnd (opt (asB d)) fun b => if b then ret (.bl true) else evOr C es ρ
def evIfs (C : Cf) : Es → Env → M Bool
  | .nil, _ => ret true
  | .cons e .nil, ρ => tst (evE C e ρ)
  | _, _ => stk
def evSrc (C : Cf) : Src → Env → M Walk
  | .seq e, ρ => bnd (evE C e ρ) walkS
  | .rng a, ρ => bnd (evE C a ρ) fun x => walkR (.int 0) x
  | .rng2 a b, ρ => bnd (evE C a ρ) fun x => bnd (evE C b ρ) fun y => walkR x y
  | .enum e, ρ => bnd (evE C e ρ) walkE
  | .zip a b, ρ => bnd (evE C a ρ) fun x => bnd (evE C b ρ) fun y => walkZ x y
end
def augD : Op → D → D → M D
  | .add _, x, y => onI2 x y fun i j => some (.int (i + j))
  | .sub, x, y => onI2 x y fun i j => some (.int (i - j))
  | _, _, _ => stk
def setAll (ρ : Env) : List Nat → List D → Env
  | i :: is, d :: ds => setAll (ρ.set i (some d)) is ds
  | _, _ => ρ
mutual
def exS (C : Cf) : St → Env → M Out
  | .asg tg e, ρ => bnd (evE C e ρ) fun d => bnd (opt (bindT tg d ρ)) fun ρ' => ret (.nx ρ')
  | .par is es, ρ => bnd (evEs C es ρ) fun ds => if ds.length = is.length then ret (.nx (setAll ρ is ds)) else stk
  | .fld o n e, ρ => bnd (evE C e ρ) fun d => bnd (evE C o ρ) fun x => bnd (setFld C.pr x n d) fun _ => ret (.nx ρ)
  | .put o i e, ρ => bnd (evE C e ρ) fun d => bnd (evE C o ρ) fun x => bnd (evE C i ρ) fun y => bnd (setIx x y d) fun _ => ret (.nx ρ)
  | .put2 o i o2 i2 e, ρ => bnd (evE C e ρ) fun d => match d with
    | .tup [d1, d2] => bnd (evE C o ρ) fun x => bnd (evE C i ρ) fun y => bnd (setIx x y d1) fun _ => bnd (evE C o2 ρ) fun x2 => bnd (evE C i2 ρ) fun y2 => bnd (setIx x2 y2 d2) fun _ => ret (.nx ρ)
    | _ => stk
  | .aug i o e, ρ => bnd (opt (ρ[i]?.join)) fun x => bnd (evE C e ρ) fun y => bnd (augD o x y) fun z => ret (.nx (ρ.set i (some z)))
  | .augI o i p e, ρ => bnd (evE C o ρ) fun x => bnd (evE C i ρ) fun y => bnd (getIx x y) fun u => bnd (evE C e ρ) fun w => bnd (augD p u w) fun z => bnd (setIx x y z) fun _ => ret (.nx ρ)
  | .expr e, ρ => bnd (evE C e ρ) fun _ => ret (.nx ρ)
  | .ret e, ρ => bnd (evE C e ρ) fun d => ret (.rt d)
  | .retN, _ => ret (.rt .non)
  | .ite c a b, ρ => bnd (tst (evE C c ρ)) fun t => if t then exSs C a ρ else exSs C b ρ
  | .for_ tg src body, ρ => bnd (evSrc C src ρ) fun w => forL w.ok tg (exSs C body) w.ds ρ
  | .whl c body, ρ => whlL (fun ρ => tst (evE C c ρ)) (exSs C body) C.fu ρ
  | .raise c, _ => fun S => if C.pr.raises c then .exc c S else .stuck
  | .brk, ρ => ret (.bk ρ)
  | .pass, ρ => ret (.nx ρ)
def exSs (C : Cf) : Sts → Env → M Out
  | .nil, ρ => ret (.nx ρ)
  | .cons s ss, ρ => bnd (exS C s ρ) fun o => match o with
    | .nx ρ' => exSs C ss ρ'
    | o => ret o
end
def fin : Out → M D
  | .nx _ => ret .non
  | .rt d => ret d
  | .bk _ => stk
def startE (n : Nat) (ds : List D) : Env := ds.map some ++ List.replicate (n - ds.length) none
def frz (S : Store) (k : Nat) : Nat → D → Option D
  | 0, _ => none
  | n + 1, d => match d with
    | .tup ds => (mapO (frz S k n) ds).map .tup
    | .fz ds => (mapO (frz S k n) ds).map .fz
    | .ref a => if a < k then some (.ref a) else match S[a]? with
      | some (.lst ds) => (mapO (frz S k n) ds).map .fz
      | _ => none
    | .scr _ => none
    | d => some d
def shut (m : M D) : M D := fun S => match m S with
  | .ok d S' => if S'.take S.length = S then match frz S' S.length deep d with
    | some e => .ok e S
    | none => .stuck
    else .stuck
  | .exc c S' => if S'.take S.length = S then .exc c S else .stuck
  | .stuck => .stuck
mutual
def D.plain : D → Bool
  | .ref _ => false
  | .tup ds => D.plains ds
  | .fz ds => D.plains ds
  | .scr ds => D.plains ds
  | _ => true
def D.plains : List D → Bool
  | [] => true
  | d :: ds => D.plain d && D.plains ds
end
def clos (m : M D) : M D := fun S => match m [] with
  | .ok d S' => match frz S' 0 deep d with
    | some e => .ok e S
    | none => .stuck
  | .exc c _ => .exc c S
  | .stuck => .stuck
def D.flat : D → Bool
  | .non => true
  | .bl _ => true
  | .int _ => true
  | .str _ => true
  | _ => false
def vals (ds : List D) (f : List D → M D) : M D := fun S => match mapO (frz S 0 deep) ds with
  | some es => match f es [] with
    | .ok d _ => if D.flat d then .ok d S else .stuck
    | .exc c _ => .exc c S
    | .stuck => .stuck
  | none => .stuck
def shutB (b : Nat) (ds : List D) (f : List D → M D) : M D := match b with
  | 0 => f ds
  | 1 => if D.plains ds then clos (f ds) else shut (f ds)
  | 9 => stk
  | _ => vals ds f
def run (pr : Prog) (fu : Nat) : Nat → Nat → List D → M D
  | 0, _, _ => stk
  | n + 1, f, ds => match pr.fns[f]? with
    | some d => if ds.length = d.np then shutB d.pure ds (fun es => bnd (exSs ⟨run pr fu n, fu, pr⟩ d.body (startE d.nl es)) fin) else stk
    | none => stk
end Mi
set_option maxHeartbeats 4000000
set_option autoImplicit false
namespace Mi
open PySem L2

structure Rx where
  K : PySem.W.Frag
  txts : List Str
  attrs : List Str
  fa : Nat → Option Addr
  ca : Nat → Option Addr
  /-- the tables of code objects, and whose they are -/
  T : List (Addr × Str)
  /-- what the code of a lambda is -/
  lam : Nat → Str → Arguments → Expr → Scope → Prop
def LmO (q : Str) (prm : Arguments) (body : Expr) (scope : Scope) (c a : Addr) : HO := .ext fun h => ∃ pm ctv, h.get? a = some (PySem.W.kla_obj "<lambda>" q prm body scope [] pm c ctv)

def KwL (K : PySem.W.Frag) (a : Addr) (xs : List V) : Prop :=
  ∃ (o : Obj) (its : Array Value) (n : Nat), K.lookup a = some o ∧ o.cls = .type "list" ∧ o.dict = none ∧ o.data = .seq its n ∧ its.size ≤ sizeLine ∧ Vals xs its.toList

section
variable (r : Rx) (ms xs : List Addr) (H : Hp)
mutual
def RelD : D → V → Prop
  | .non, v => v = .non
  | .dz, v => ∃ a, v = .ref a ∧ H a = some (.dT []) ∧ a ∉ ms ∧ a ∉ xs
  | .bl b, v => v = .bl b
  | .int i, v => v = .int i
  | .str t, v => ∃ s, r.txts[t]? = some s ∧ v = .str s
  | .tup ds, v => ∃ a vs, v = .ref a ∧ H a = some (.tup vs) ∧ a ∉ ms ∧ a ∉ xs ∧ RelDs ds vs
  | .fz ds, v => ∃ a vs, v = .ref a ∧ H a = some (.lst vs) ∧ a ∉ ms ∧ a ∉ xs ∧ RelDs ds vs
  | .scr ds, v => ∃ a vs, v = .ref a ∧ vs.length ≤ 100000 ∧ (KwL r.K a vs ∨ (Rd H a (.lst vs) ∧ a ∉ ms ∧ a ∉ xs)) ∧ RelDs ds vs
  | .ref n, v => ∃ a, ms[n]? = some a ∧ v = .ref a
  | .fn f, v => ∃ a, r.fa f = some a ∧ v = .ref a
  | .cls c, v => ∃ a, r.ca c = some a ∧ v = .ref a
  | .lam f, v => ∃ a c q prm body scope, v = .ref a ∧ r.lam f q prm body scope ∧ H a = some (LmO q prm body scope c a) ∧ H c = some (LamX.CodeO c q) ∧ (a ∉ ms ∧ a ∉ xs) ∧ c ∉ ms ∧ c ∉ xs
def RelDs : List D → List V → Prop
  | [], vs => vs = []
  | d :: ds, vs => ∃ v us, vs = v :: us ∧ RelD d v ∧ RelDs ds us
end
def RelF : List (Nat × D) → List (Str × V) → Prop
  | [], gs => gs = []
  | (n, d) :: fs, gs => ∃ s v us, gs = (s, v) :: us ∧ r.attrs[n]? = some s ∧ RelD r ms xs H d v ∧ RelF fs us
def RelK : List (List Int × D) → List (List Key × V) → Prop
  | [], ps => ps = []
  | (k, d) :: kvs, ps => ∃ v us, ps = (k.map Sum.inl, v) :: us ∧ RelD r ms xs H d v ∧ RelK kvs us
def RelC : O → Option HO → Prop
  | .lst ds, ho => ∃ vs, ho = some (.lst vs) ∧ RelDs r ms xs H ds vs
  | .ins c fs, ho => ∃ C dx gs, ho = some (.ins C dx gs) ∧ r.ca c = some C ∧ RelF r ms xs H fs gs
  | .dic kvs, ho => ∃ ps, ho = some (.dT ps) ∧ RelK r ms xs H kvs ps
structure Sim (S : Store) : Prop where
  len : ms.length = S.length
  nd : ms.Nodup
  dis : ∀ a ∈ xs, a ∉ ms
  xin : ∀ a ∈ xs, ∃ o, H a = some o ∧ (∀ ps, o ≠ .tbl ps) ∧ ∀ φ, o ≠ .ext φ
  obj : ∀ (n : Nat) (o : O) (a : Addr), S[n]? = some o → ms[n]? = some a → RelC r ms xs H o (H a)
  szl : ∀ a vs, H a = some (.lst vs) → vs.length ≤ sizeLine
  szt : ∀ a vs, H a = some (.tup vs) → vs.length ≤ sizeLine
  tabs : LamX.Tabs r.T H
end

structure Ext (ms : List Addr) (H : Hp) (ms' : List Addr) (H' : Hp) : Prop where
  pre : ∃ ex, ms' = ms ++ ex ∧ ∀ a ∈ ex, (∀ o, H a = some o → ∃ ps, o = .tbl ps) ∧ a ∉ ms
  keep : ∀ a o, H a = some o → a ∉ ms → (∀ ps, o ≠ .tbl ps) → H' a = some o

section
variable {r : Rx} {ms ms' ms'' xs ys : List Addr} {H H' H'' : Hp}
theorem Ext.refl : Ext ms H ms H := ⟨⟨[], by simp, fun _ h => by cases h⟩, fun _ _ h _ _ => h⟩
theorem Ext.trans (a : Ext ms H ms' H') (b : Ext ms' H' ms'' H'') : Ext ms H ms'' H'' := by
  obtain ⟨⟨e1, rfl, f1⟩, k1⟩ := a
  obtain ⟨⟨e2, rfl, f2⟩, k2⟩ := b
  refine ⟨⟨e1 ++ e2, by rw [List.append_assoc], fun a ha => ?_⟩, fun a o h n t => ?_⟩
  · rcases List.mem_append.mp ha with h | h
    · exact f1 a h
    · obtain ⟨h1, h2⟩ := f2 a h
      have n : a ∉ ms := fun q => h2 (List.mem_append_left _ q)
      refine ⟨fun o q => ?_, n⟩
      cases o with
      | tbl ps => exact ⟨ps, rfl⟩
      | _ => exact h1 _ (k1 a _ q n (fun _ z => by cases z))
  · refine k2 a o (k1 a o h n t) (fun q => ?_) t
    rcases List.mem_append.mp q with q | q
    · exact n q
    · obtain ⟨ps, e⟩ := (f1 a q).1 o h
      exact t ps e
theorem Ext.notin (e : Ext ms H ms' H') {a : Addr} {o : HO} (h : H a = some o) (n : a ∉ ms) (t : ∀ ps, o ≠ .tbl ps) : a ∉ ms' := by
  obtain ⟨⟨e1, rfl, f1⟩, _⟩ := e
  intro q
  rcases List.mem_append.mp q with q | q
  · exact n q
  · obtain ⟨ps, e⟩ := (f1 a q).1 o h
    exact t ps e
theorem Ext.at (e : Ext ms H ms' H') {n : Nat} {a : Addr} (h : ms[n]? = some a) : ms'[n]? = some a := by
  obtain ⟨⟨e1, rfl, _⟩, _⟩ := e
  have hn := (List.getElem?_eq_some_iff.mp h).1
  rw [List.getElem?_append_left hn]; exact h
theorem Rd.keep (e : Ext ms H ms' H') {a : Addr} {u : HO} (h : Rd H a u) (n : a ∉ ms) (t : ∀ ps, u ≠ .tbl ps) : Rd H' a u ∧ a ∉ ms' := by
  rcases h with h | ⟨o, h⟩
  · exact ⟨.inl (e.keep a _ h n t), e.notin h n t⟩
  · exact ⟨.inr ⟨o, e.keep a _ h n (fun _ z => by cases z)⟩, e.notin h n (fun _ z => by cases z)⟩
mutual
theorem RelD.mono (e : Ext ms H ms' H') : ∀ {d : D} {v : V}, RelD r ms xs H d v → RelD r ms' xs H' d v
  | .dz, v, h => by
    simp only [RelD] at h ⊢
    obtain ⟨a, rfl, ha, n, nx⟩ := h
    exact ⟨a, rfl, e.keep a _ ha n (fun _ z => by cases z), e.notin ha n (fun _ z => by cases z), nx⟩
  | .non, v, h => by simp only [RelD] at h ⊢; exact h
  | .bl b, v, h => by simp only [RelD] at h ⊢; exact h
  | .int b, v, h => by simp only [RelD] at h ⊢; exact h
  | .str t, v, h => by simp only [RelD] at h ⊢; exact h
  | .tup ds, v, h => by
    simp only [RelD] at h ⊢
    obtain ⟨a, vs, rfl, ha, n, nx, q⟩ := h
    exact ⟨a, vs, rfl, e.keep a _ ha n (fun _ z => by cases z), e.notin ha n (fun _ z => by cases z), nx, RelDs.mono e q⟩
  | .fz ds, v, h => by
    simp only [RelD] at h ⊢
    obtain ⟨a, vs, rfl, ha, n, nx, q⟩ := h
    exact ⟨a, vs, rfl, e.keep a _ ha n (fun _ z => by cases z), e.notin ha n (fun _ z => by cases z), nx, RelDs.mono e q⟩
  | .scr ds, v, h => by
    simp only [RelD] at h ⊢
    obtain ⟨a, vs, rfl, hz, k, q⟩ := h
    refine ⟨a, vs, rfl, hz, ?_, RelDs.mono e q⟩
    rcases k with k | ⟨k, n, nx⟩
    · exact .inl k
    · exact .inr ⟨(Rd.keep e k n (fun _ z => by cases z)).1, (Rd.keep e k n (fun _ z => by cases z)).2, nx⟩
  | .ref n, v, h => by
    simp only [RelD] at h ⊢
    obtain ⟨a, h, rfl⟩ := h
    exact ⟨a, e.at h, rfl⟩
  | .fn f, v, h => by simp only [RelD] at h ⊢; exact h
  | .cls c, v, h => by simp only [RelD] at h ⊢; exact h
  | .lam f, v, h => by
    simp only [RelD] at h ⊢
    obtain ⟨a, c, q, prm, body, scope, rfl, h1, h2, h3, ⟨n1, n2⟩, n3, n4⟩ := h
    exact ⟨a, c, q, prm, body, scope, rfl, h1, e.keep a _ h2 n1 (fun _ z => by cases z), e.keep c _ h3 n3 (fun _ z => by cases z), ⟨e.notin h2 n1 (fun _ z => by cases z), n2⟩, e.notin h3 n3 (fun _ z => by cases z), n4⟩
theorem RelDs.mono (e : Ext ms H ms' H') : ∀ {ds : List D} {vs : List V}, RelDs r ms xs H ds vs → RelDs r ms' xs H' ds vs
  | [], vs, h => by simp only [RelDs] at h ⊢; exact h
  | d :: ds, vs, h => by
    simp only [RelDs] at h ⊢
    obtain ⟨v, us, rfl, h1, h2⟩ := h
    exact ⟨v, us, rfl, RelD.mono e h1, RelDs.mono e h2⟩
end
theorem in_sub {a : Addr} (s : ∀ b ∈ ys, b ∈ xs) (h : a ∉ xs) : a ∉ ys := fun q => h (s a q)
mutual
theorem RelD.less (s : ∀ b ∈ ys, b ∈ xs) : ∀ {d : D} {v : V}, RelD r ms xs H d v → RelD r ms ys H d v
  | .dz, v, h => by
    simp only [RelD] at h ⊢
    obtain ⟨a, rfl, ha, n, nx⟩ := h
    exact ⟨a, rfl, ha, n, in_sub s nx⟩
  | .non, v, h => by simp only [RelD] at h ⊢; exact h
  | .bl b, v, h => by simp only [RelD] at h ⊢; exact h
  | .int b, v, h => by simp only [RelD] at h ⊢; exact h
  | .str t, v, h => by simp only [RelD] at h ⊢; exact h
  | .tup ds, v, h => by
    simp only [RelD] at h ⊢
    obtain ⟨a, vs, rfl, ha, n, nx, q⟩ := h
    exact ⟨a, vs, rfl, ha, n, in_sub s nx, RelDs.less s q⟩
  | .fz ds, v, h => by
    simp only [RelD] at h ⊢
    obtain ⟨a, vs, rfl, ha, n, nx, q⟩ := h
    exact ⟨a, vs, rfl, ha, n, in_sub s nx, RelDs.less s q⟩
  | .scr ds, v, h => by
    simp only [RelD] at h ⊢
    obtain ⟨a, vs, rfl, hz, k, q⟩ := h
    refine ⟨a, vs, rfl, hz, ?_, RelDs.less s q⟩
    rcases k with k | ⟨k, n, nx⟩
    · exact .inl k
    · exact .inr ⟨k, n, in_sub s nx⟩
  | .ref n, v, h => by simp only [RelD] at h ⊢; exact h
  | .fn f, v, h => by simp only [RelD] at h ⊢; exact h
  | .cls c, v, h => by simp only [RelD] at h ⊢; exact h
  | .lam f, v, h => by
    simp only [RelD] at h ⊢
    obtain ⟨a, c, q, prm, body, scope, rfl, h1, h2, h3, ⟨n1, n2⟩, n3, n4⟩ := h
    exact ⟨a, c, q, prm, body, scope, rfl, h1, h2, h3, ⟨n1, in_sub s n2⟩, n3, in_sub s n4⟩
theorem RelDs.less (s : ∀ b ∈ ys, b ∈ xs) : ∀ {ds : List D} {vs : List V}, RelDs r ms xs H ds vs → RelDs r ms ys H ds vs
  | [], vs, h => by simp only [RelDs] at h ⊢; exact h
  | d :: ds, vs, h => by
    simp only [RelDs] at h ⊢
    obtain ⟨v, us, rfl, h1, h2⟩ := h
    exact ⟨v, us, rfl, RelD.less s h1, RelDs.less s h2⟩
end
theorem RelF.map {ms2 ys : List Addr} {H2 : Hp} (f : ∀ d v, RelD r ms xs H d v → RelD r ms2 ys H2 d v) : ∀ {fs : List (Nat × D)} {gs : List (Str × V)}, RelF r ms xs H fs gs → RelF r ms2 ys H2 fs gs
  | [], gs, h => h
  | (n, d) :: fs, gs, h => by
    obtain ⟨s, v, us, rfl, h1, h2, h3⟩ := h
    exact ⟨s, v, us, rfl, h1, f d v h2, RelF.map f h3⟩
theorem RelK.map {ms2 ys : List Addr} {H2 : Hp} (f : ∀ d v, RelD r ms xs H d v → RelD r ms2 ys H2 d v) : ∀ {fs : List (List Int × D)} {gs : List (List Key × V)}, RelK r ms xs H fs gs → RelK r ms2 ys H2 fs gs
  | [], gs, h => h
  | (n, d) :: fs, gs, h => by
    obtain ⟨v, us, rfl, h2, h3⟩ := h
    exact ⟨v, us, rfl, f d v h2, RelK.map f h3⟩
theorem RelDs.map {ms2 ys : List Addr} {H2 : Hp} (f : ∀ d v, RelD r ms xs H d v → RelD r ms2 ys H2 d v) : ∀ {ds : List D} {vs : List V}, RelDs r ms xs H ds vs → RelDs r ms2 ys H2 ds vs
  | [], vs, h => by simp only [RelDs] at h ⊢; exact h
  | d :: ds, vs, h => by
    simp only [RelDs] at h ⊢
    obtain ⟨v, us, rfl, h1, h2⟩ := h
    exact ⟨v, us, rfl, f d v h1, RelDs.map f h2⟩
theorem RelC.map {ms2 ys : List Addr} {H2 : Hp} (f : ∀ d v, RelD r ms xs H d v → RelD r ms2 ys H2 d v) {o : O} {ho : Option HO} (h : RelC r ms xs H o ho) : RelC r ms2 ys H2 o ho := by
  cases o with
  | lst ds => obtain ⟨vs, e, q⟩ := h; exact ⟨vs, e, q.map f⟩
  | ins c fs => obtain ⟨C, dx, gs, e, k, q⟩ := h; exact ⟨C, dx, gs, e, k, q.map f⟩
  | dic kvs => obtain ⟨ps, e, q⟩ := h; exact ⟨ps, e, q.map f⟩
theorem RelDs.length : ∀ {ds : List D} {vs : List V}, RelDs r ms xs H ds vs → vs.length = ds.length
  | [], vs, h => by simp only [RelDs] at h; subst h; rfl
  | d :: ds, vs, h => by
    simp only [RelDs] at h
    obtain ⟨v, us, rfl, h1, h2⟩ := h
    simp [RelDs.length h2]
theorem RelDs.get : ∀ {ds : List D} {vs : List V} {i : Nat} {d : D}, RelDs r ms xs H ds vs → ds[i]? = some d → ∃ v, vs[i]? = some v ∧ RelD r ms xs H d v
  | [], vs, i, d, h, e => by simp at e
  | d :: ds, vs, 0, x, h, e => by
    simp only [RelDs] at h
    obtain ⟨v, us, rfl, h1, h2⟩ := h
    simp at e; subst e
    exact ⟨v, rfl, h1⟩
  | d :: ds, vs, i + 1, x, h, e => by
    simp only [RelDs] at h
    obtain ⟨v, us, rfl, h1, h2⟩ := h
    simp at e
    obtain ⟨w, h3, h4⟩ := RelDs.get h2 e
    exact ⟨w, by simpa using h3, h4⟩
theorem RelDs.append : ∀ {ds es : List D} {vs us : List V}, RelDs r ms xs H ds vs → RelDs r ms xs H es us → RelDs r ms xs H (ds ++ es) (vs ++ us)
  | [], es, vs, us, h, q => by simp only [RelDs] at h; subst h; exact q
  | d :: ds, es, vs, us, h, q => by
    simp only [RelDs] at h
    obtain ⟨v, ws, rfl, h1, h2⟩ := h
    have := RelDs.append h2 q
    simp only [List.cons_append, RelDs]
    exact ⟨v, ws ++ us, rfl, h1, this⟩
theorem RelDs.one {d : D} {v : V} (h : RelD r ms xs H d v) : RelDs r ms xs H [d] [v] := by
  simp only [RelDs]; exact ⟨v, [], rfl, h, rfl⟩
theorem RelDs.cons {d : D} {v : V} {ds : List D} {vs : List V} (h : RelD r ms xs H d v) (q : RelDs r ms xs H ds vs) : RelDs r ms xs H (d :: ds) (v :: vs) := by
  simp only [RelDs]; exact ⟨v, vs, rfl, h, q⟩
theorem RelDs.uncons {d : D} {ds : List D} {vs : List V} (h : RelDs r ms xs H (d :: ds) vs) : ∃ v us, vs = v :: us ∧ RelD r ms xs H d v ∧ RelDs r ms xs H ds us := by
  simp only [RelDs] at h; exact h
theorem RelDs.nil_eq {vs : List V} (h : RelDs r ms xs H [] vs) : vs = [] := by simp only [RelDs] at h; exact h
theorem RelDs.drop : ∀ {ds : List D} {vs : List V} (n : Nat), RelDs r ms xs H ds vs → RelDs r ms xs H (ds.drop n) (vs.drop n)
  | ds, vs, 0, h => h
  | [], vs, n + 1, h => by simp only [RelDs] at h; subst h; simp [RelDs]
  | d :: ds, vs, n + 1, h => by
    obtain ⟨v, us, rfl, h1, h2⟩ := h.uncons
    exact RelDs.drop n h2
theorem RelDs.take : ∀ {ds : List D} {vs : List V} (n : Nat), RelDs r ms xs H ds vs → RelDs r ms xs H (ds.take n) (vs.take n)
  | ds, vs, 0, h => by simp [RelDs]
  | [], vs, n + 1, h => by simp only [RelDs] at h; subst h; simp [RelDs]
  | d :: ds, vs, n + 1, h => by
    obtain ⟨v, us, rfl, h1, h2⟩ := h.uncons
    exact .cons h1 (RelDs.take n h2)
theorem RelDs.set {x : D} {y : V} (h : RelD r ms xs H x y) : ∀ {ds : List D} {vs : List V} (n : Nat), RelDs r ms xs H ds vs → RelDs r ms xs H (ds.set n x) (vs.set n y)
  | [], vs, n, q => by simp only [RelDs] at q; subst q; simp [RelDs]
  | d :: ds, vs, 0, q => by
    obtain ⟨v, us, rfl, h1, h2⟩ := q.uncons
    exact .cons h h2
  | d :: ds, vs, n + 1, q => by
    obtain ⟨v, us, rfl, h1, h2⟩ := q.uncons
    exact .cons h1 (RelDs.set h n h2)
theorem RelDs.reverse : ∀ {ds : List D} {vs : List V}, RelDs r ms xs H ds vs → RelDs r ms xs H ds.reverse vs.reverse
  | [], vs, h => by simp only [RelDs] at h; subst h; simp [RelDs]
  | d :: ds, vs, h => by
    obtain ⟨v, us, rfl, h1, h2⟩ := h.uncons
    rw [List.reverse_cons, List.reverse_cons]
    exact (RelDs.reverse h2).append (.one h1)
theorem RelDs.rep {ds : List D} {vs : List V} (h : RelDs r ms xs H ds vs) : ∀ k : Nat, RelDs r ms xs H (List.replicate k ds).flatten (List.replicate k vs).flatten
  | 0 => by simp [RelDs]
  | k + 1 => by
    rw [List.replicate_succ, List.replicate_succ, List.flatten_cons, List.flatten_cons]
    exact h.append (h.rep k)

def Good {α : Type} (r : Rx) (xs ms : List Addr) (H : Hp) (q : R α) (ok : α → Store → List Addr → Hp → Prop) (ex : Nat → Store → List Addr → Hp → Prop) : Prop :=
  match q with
  | .stuck => False
  | .ok a S => ∀ ms' H', Ext ms H ms' H' → Sim r ms' xs H' S → ok a S ms' H'
  | .exc c S => ∀ ms' H', Ext ms H ms' H' → Sim r ms' xs H' S → ex c S ms' H'
theorem Good.mono {α : Type} {q : R α} {ok ok' : α → Store → List Addr → Hp → Prop} {ex ex' : Nat → Store → List Addr → Hp → Prop} (h : Good r xs ms H q ok ex)
    (f : ∀ a S ms' H', Ext ms H ms' H' → Sim r ms' xs H' S → ok a S ms' H' → ok' a S ms' H') (g : ∀ c S ms' H', Ext ms H ms' H' → Sim r ms' xs H' S → ex c S ms' H' → ex' c S ms' H') : Good r xs ms H q ok' ex' := by
  cases q with
  | stuck => exact h
  | ok a S => exact fun ms' H' e s => f a S ms' H' e s (h ms' H' e s)
  | exc c S => exact fun ms' H' e s => g c S ms' H' e s (h ms' H' e s)
theorem Good.bind {α β : Type} {m : M α} {f : α → M β} {S : Store} {ok : β → Store → List Addr → Hp → Prop} {ex : Nat → Store → List Addr → Hp → Prop} (h : Good r xs ms H (bnd m f S) ok ex) :
    Good r xs ms H (m S) (fun a S' ms' H' => Good r xs ms' H' (f a S') ok ex) ex := by
  unfold bnd at h
  cases q : m S with
  | stuck => rw [q] at h; exact h
  | exc c S' => rw [q] at h; exact h
  | ok a S' =>
    rw [q] at h
    intro ms' H' e s
    dsimp only at h
    cases q2 : f a S' with
    | stuck => rw [q2] at h; exact h
    | ok b S2 => rw [q2] at h; exact fun ms'' H'' e' s' => h ms'' H'' (e.trans e') s'
    | exc b S2 => rw [q2] at h; exact fun ms'' H'' e' s' => h ms'' H'' (e.trans e') s'
theorem Good.opt {α β : Type} {o : Option α} {f : α → M β} {S : Store} {ok : β → Store → List Addr → Hp → Prop} {ex : Nat → Store → List Addr → Hp → Prop} (h : Good r xs ms H (bnd (opt o) f S) ok ex) :
    ∃ a, o = some a ∧ Good r xs ms H (f a S) ok ex := by
  cases o with
  | none => exact h.elim
  | some a => exact ⟨a, rfl, h⟩

def REnv (r : Rx) (ms xs : List Addr) (H : Hp) (ρ : Env) (σ : L2.St) : Prop :=
  σ.length = ρ.length ∧ ∀ (i : Nat) d, ρ[i]? = some (some d) → ∃ v, σ[i]? = some (some v) ∧ RelD r ms xs H d v
theorem REnv.mono (e : Ext ms H ms' H') {ρ : Env} {σ : L2.St} (h : REnv r ms xs H ρ σ) : REnv r ms' xs H' ρ σ :=
  ⟨h.1, fun i d q => let ⟨v, a, b⟩ := h.2 i d q; ⟨v, a, b.mono e⟩⟩
theorem REnv.less {ρ : Env} {σ : L2.St} (s : ∀ b ∈ ys, b ∈ xs) (h : REnv r ms xs H ρ σ) : REnv r ms ys H ρ σ :=
  ⟨h.1, fun i d q => let ⟨v, a, b⟩ := h.2 i d q; ⟨v, a, b.less s⟩⟩
theorem REnv.get {ρ : Env} {σ : L2.St} {i : Nat} {d : D} (h : REnv r ms xs H ρ σ) (e : ρ[i]?.join = some d) : ∃ v, σ[i]? = some (some v) ∧ RelD r ms xs H d v := by
  refine h.2 i d ?_
  cases q : ρ[i]? with
  | none => rw [q] at e; cases e
  | some o => rw [q] at e; simp at e; rw [e]
theorem REnv.set {ρ : Env} {σ : L2.St} {i : Nat} {d : D} {v : V} (h : REnv r ms xs H ρ σ) (q : RelD r ms xs H d v) : REnv r ms xs H (ρ.set i (some d)) (σ.set i (some v)) := by
  refine ⟨by simp [h.1], fun j e hj => ?_⟩
  by_cases hij : i = j
  · subst hij
    have hl : i < ρ.length := by
      have := (List.getElem?_eq_some_iff.mp hj).1
      simpa using this
    rw [List.getElem?_set_self hl] at hj
    cases hj
    exact ⟨v, by rw [List.getElem?_set_self (by rw [h.1]; exact hl)], q⟩
  · rw [List.getElem?_set_ne hij] at hj ⊢
    exact h.2 j e hj

theorem Sim.fresh {S : Store} (s : Sim r ms xs H S) {p : Addr} (h : H p = none) : p ∉ ms ∧ p ∉ xs := by
  refine ⟨fun q => ?_, fun q => ?_⟩
  · obtain ⟨n, hn, e⟩ := List.getElem_of_mem q
    have hm : ms[n]? = some p := by rw [List.getElem?_eq_getElem hn, e]
    have hS : n < S.length := by rw [← s.len]; exact hn
    have := s.obj n S[n] p (List.getElem?_eq_getElem hS) hm
    rw [h] at this
    cases q2 : S[n] with
    | lst ds => rw [q2] at this; obtain ⟨_, e, _⟩ := this; cases e
    | ins c fs => rw [q2] at this; obtain ⟨_, _, _, e, _⟩ := this; cases e
    | dic kvs => rw [q2] at this; obtain ⟨_, e, _⟩ := this; cases e
  · obtain ⟨o, e, _⟩ := s.xin p q
    rw [h] at e; cases e
theorem tabs_upd {T : List (Addr × Str)} {H : Hp} {p : Addr} {o : HO} (t : LamX.Tabs T H) (h1 : ∀ ps, H p ≠ some (.tbl ps)) (h2 : ∀ q, H p ≠ some (LamX.CodeO p q)) : LamX.Tabs T (upd H p o) := fun x hx => by
  obtain ⟨ps, e1, e2, e3⟩ := t x hx
  have n1 : x.1 ≠ p := fun z => h1 ps (by rw [← z]; exact e1)
  refine ⟨ps, by rw [upd_ne n1]; exact e1, e2, fun pos cv hc => ?_⟩
  obtain ⟨c, e4, e5⟩ := e3 pos cv hc
  have n2 : c ≠ p := fun z => h2 x.2 (by rw [← z]; exact e5)
  exact ⟨c, e4, by rw [upd_ne n2]; exact e5⟩
theorem tabs_new {T : List (Addr × Str)} {H : Hp} {p : Addr} {o : HO} (t : LamX.Tabs T H) (h : H p = none) : LamX.Tabs T (upd H p o) := tabs_upd t (fun ps z => by rw [h] at z; cases z) (fun q z => by rw [h] at z; cases z)
theorem relC_no {o : O} {ho : HO} (h : RelC r ms xs H o (some ho)) : (∀ ps, ho ≠ .tbl ps) ∧ ∀ c q, ho ≠ LamX.CodeO c q := by
  cases o with
  | lst ds => obtain ⟨_, e, _⟩ := h; cases e; exact ⟨fun _ z => (by cases z), fun _ _ z => (by unfold LamX.CodeO at z; cases z)⟩
  | ins c fs => obtain ⟨_, _, _, e, _⟩ := h; cases e; exact ⟨fun _ z => (by cases z), fun _ _ z => (by unfold LamX.CodeO at z; cases z)⟩
  | dic kvs => obtain ⟨_, e, _⟩ := h; cases e; exact ⟨fun _ z => (by cases z), fun _ _ z => (by unfold LamX.CodeO at z; cases z)⟩
theorem Ext.new {p : Addr} {o : HO} (h : H p = none) : Ext ms H ms (upd H p o) :=
  ⟨⟨[], by simp, fun _ h => by cases h⟩, fun a u e n _ => by rw [upd_ne (ne_of_none e h)]; exact e⟩
theorem Sim.new {S : Store} {p : Addr} {o : HO} (s : Sim r ms xs H S) (h : H p = none) (hl : ∀ vs, o = .lst vs → vs.length ≤ sizeLine) (ht : ∀ vs, o = .tup vs → vs.length ≤ sizeLine) : Sim r ms xs (upd H p o) S := by
  have e : Ext ms H ms (upd H p o) := Ext.new h
  refine ⟨s.len, s.nd, s.dis, fun a ha => ?_, fun n c a hS hm => ?_, fun a vs q => ?_, fun a vs q => ?_, tabs_new s.tabs h⟩
  · obtain ⟨u, q, t⟩ := s.xin a ha
    exact ⟨u, by rw [upd_ne (ne_of_none q h)]; exact q, t⟩
  · have q := s.obj n c a hS hm
    have ne : a ≠ p := fun z => (s.fresh h).1 (z ▸ List.mem_of_getElem? hm)
    rw [upd_ne ne]
    exact q.map fun d v x => x.mono e
  · by_cases z : a = p
    · subst z; rw [upd_same] at q; exact hl vs (Option.some.inj q)
    · rw [upd_ne z] at q; exact s.szl a vs q
  · by_cases z : a = p
    · subst z; rw [upd_same] at q; exact ht vs (Option.some.inj q)
    · rw [upd_ne z] at q; exact s.szt a vs q
theorem Ext.cell {p : Addr} {o : HO} {S : Store} (s : Sim r ms xs H S) (h : H p = none) : Ext ms H (ms ++ [p]) (upd H p o) :=
  ⟨⟨[p], rfl, fun a ha => by simp at ha; subst ha; exact ⟨fun o e => (by rw [h] at e; cases e), (s.fresh h).1⟩⟩, fun a u e n _ => by rw [upd_ne (ne_of_none e h)]; exact e⟩
theorem Sim.cell {S : Store} {p : Addr} {o : HO} {c : O} (s : Sim r ms xs H S) (h : H p = none) (hc : RelC r (ms ++ [p]) xs (upd H p o) c (some o)) (hl : ∀ vs, o = .lst vs → vs.length ≤ sizeLine) (ht : ∀ vs, o = .tup vs → vs.length ≤ sizeLine) :
    Sim r (ms ++ [p]) xs (upd H p o) (S ++ [c]) := by
  have e : Ext ms H (ms ++ [p]) (upd H p o) := Ext.cell s h
  have f := s.fresh h
  refine ⟨by simp [s.len], ?_, fun a ha => ?_, fun a ha => ?_, fun n d a hS hm => ?_, fun a vs q => ?_, fun a vs q => ?_, tabs_new s.tabs h⟩
  · rw [List.nodup_append]
    exact ⟨s.nd, by simp, fun a ha b hb => by simp at hb; subst hb; exact fun z => f.1 (z ▸ ha)⟩
  · intro q
    rcases List.mem_append.mp q with q | q
    · exact s.dis a ha q
    · simp at q; subst q; exact f.2 ha
  · obtain ⟨u, q, t⟩ := s.xin a ha
    exact ⟨u, by rw [upd_ne (ne_of_none q h)]; exact q, t⟩
  · by_cases hn : n < S.length
    · rw [List.getElem?_append_left hn] at hS
      rw [List.getElem?_append_left (by rw [s.len]; exact hn)] at hm
      have q := s.obj n d a hS hm
      have ne : a ≠ p := fun z => f.1 (z ▸ List.mem_of_getElem? hm)
      rw [upd_ne ne]
      exact q.map fun d v x => x.mono e
    · have hn' : n = S.length := by
        have := (List.getElem?_eq_some_iff.mp hS).1
        simp at this; omega
      subst hn'
      rw [List.getElem?_append_right (Nat.le_refl _)] at hS
      rw [← s.len, List.getElem?_append_right (Nat.le_refl _)] at hm
      simp at hS hm
      subst hS hm
      rw [upd_same]; exact hc
  · by_cases z : a = p
    · subst z; rw [upd_same] at q; exact hl vs (Option.some.inj q)
    · rw [upd_ne z] at q; exact s.szl a vs q
  · by_cases z : a = p
    · subst z; rw [upd_same] at q; exact ht vs (Option.some.inj q)
    · rw [upd_ne z] at q; exact s.szt a vs q
theorem Ext.put {n : Nat} {p : Addr} {o : HO} (hm : ms[n]? = some p) : Ext ms H ms (upd H p o) :=
  ⟨⟨[], by simp, fun _ h => by cases h⟩, fun a u e k _ => by rw [upd_ne (fun z : a = p => k (by rw [z]; exact List.mem_of_getElem? hm))]; exact e⟩
theorem Sim.put {S : Store} {n : Nat} {p : Addr} {o : HO} {c : O} (s : Sim r ms xs H S) (hm : ms[n]? = some p) (hc : RelC r ms xs (upd H p o) c (some o)) (hl : ∀ vs, o = .lst vs → vs.length ≤ sizeLine) (ht : ∀ vs, o = .tup vs → vs.length ≤ sizeLine) :
    Sim r ms xs (upd H p o) (S.set n c) := by
  have e : Ext ms H ms (upd H p o) := Ext.put hm
  have hn : n < ms.length := (List.getElem?_eq_some_iff.mp hm).1
  have tb : LamX.Tabs r.T (upd H p o) := by
    have hS : n < S.length := by rw [← s.len]; exact hn
    have q := s.obj n S[n] p (List.getElem?_eq_getElem hS) hm
    refine tabs_upd s.tabs (fun ps z => ?_) (fun c z => ?_)
    · rw [z] at q; exact (relC_no q).1 ps rfl
    · rw [z] at q; exact (relC_no q).2 p c rfl
  refine ⟨by simp [s.len], s.nd, s.dis, fun a ha => ?_, fun k d a hS hk => ?_, fun a vs q => ?_, fun a vs q => ?_, tb⟩
  · obtain ⟨u, q, t⟩ := s.xin a ha
    have ne : a ≠ p := fun z => s.dis a ha (z ▸ List.mem_of_getElem? hm)
    exact ⟨u, by rw [upd_ne ne]; exact q, t⟩
  · by_cases z : n = k
    · subst z
      rw [List.getElem?_set_self (by rw [← s.len]; exact hn)] at hS
      rw [hm] at hk
      cases hS; cases hk
      rw [upd_same]; exact hc
    · rw [List.getElem?_set_ne z] at hS
      have ne : a ≠ p := fun q => by
        subst q
        exact z ((List.getElem?_inj hn s.nd).mp (hm.trans hk.symm))
      rw [upd_ne ne]
      exact (s.obj k d a hS hk).map fun d v x => x.mono e
  · by_cases z : a = p
    · subst z; rw [upd_same] at q; exact hl vs (Option.some.inj q)
    · rw [upd_ne z] at q; exact s.szl a vs q
  · by_cases z : a = p
    · subst z; rw [upd_same] at q; exact ht vs (Option.some.inj q)
    · rw [upd_ne z] at q; exact s.szt a vs q
theorem Sim.get {S : Store} {n : Nat} {o : O} (s : Sim r ms xs H S) (h : S[n]? = some o) : ∃ a, ms[n]? = some a ∧ RelC r ms xs H o (H a) := by
  have hn : n < ms.length := by rw [s.len]; exact (List.getElem?_eq_some_iff.mp h).1
  exact ⟨ms[n], List.getElem?_eq_getElem hn, s.obj n o _ h (List.getElem?_eq_getElem hn)⟩
end
end Mi
namespace Mi
open PySem L2

structure Tx where
  txts : List Str
  attrs : List Str
  fns : List (Option Str)
  cls : List Str
  nums : List (Str × Int)
  lams : List (Nat × E)
structure Ck where
  tx : Tx
  sc : Scope
  N : List Str
  /-- whether a lambda may be made here -/
  lm : Bool

def visB (sc : Scope) (x : Str) : Bool := match sc.names.lookup x with
  | some .local => true
  | some .cell => true
  | some .free => true
  | _ => false
def locB (sc : Scope) (x : Str) : Bool := match sc.names.lookup x with
  | some .local => true
  | some .cell => true
  | _ => false
def lclB (sc : Scope) (x : Str) : Bool := match sc.names.lookup x with
  | some .local => true
  | _ => false
def glB (sc : Scope) (x : Str) : Bool := match sc.names.lookup x with
  | some .globalImplicit => true
  | _ => false
def okNm (x : Str) : Bool := decide (x ≠ "__debug__") && decide (x ≠ "__classdict__") && decide (x ≠ "__name__")
theorem visB_iff {sc : Scope} {x : Str} (h : visB sc x = true) : Vis sc x := by
  unfold visB at h
  split at h
  · exact .inl (by assumption)
  · exact .inr (.inl (by assumption))
  · exact .inr (.inr (by assumption))
  · cases h
theorem locB_iff {sc : Scope} {x : Str} (h : locB sc x = true) : Loc sc x := by
  unfold locB at h
  split at h
  · exact .inl (by assumption)
  · exact .inr (by assumption)
  · cases h
theorem lclB_iff {sc : Scope} {x : Str} (h : lclB sc x = true) : sc.names.lookup x = some .local := by
  unfold lclB at h
  split at h
  · assumption
  · cases h
theorem glB_iff {sc : Scope} {x : Str} (h : glB sc x = true) : sc.names.lookup x = some .globalImplicit := by
  unfold glB at h
  split at h
  · assumption
  · cases h

def noStar : Expr → Bool
  | .Starred _ _ => false
  | _ => true
def noSet : Expr → Bool
  | .Set _ _ _ => false
  | _ => true
def noSlice : Expr → Bool
  | .Slice _ _ _ _ => false
  | _ => true
def noComp : Expr → Bool
  | .ListComp _ _ _ _ => false
  | .SetComp _ _ _ _ => false
  | .DictComp _ _ _ _ _ => false
  | _ => true
def baseOk : Expr → Bool
  | .Call (.Name id _) [] [] _ => decide (id ≠ "super")
  | _ => true
def plainT : Expr → Bool
  | .UnaryOp .Not _ _ => false
  | .BoolOp _ _ _ => false
  | .IfExp _ _ _ _ => false
  | .Compare _ _ _ _ => false
  | _ => true
theorem star_of {e : Expr} {es : List Expr} {env : PySem.Env} (h : noStar e = true) : starEach (e :: es) env = (false, eval e env) :: starEach es env := by
  cases e <;> first | rfl | (simp [noStar] at h)
theorem noStars {es : List Expr} {env : PySem.Env} {pos : Pos} (h : es.all noStar = true) : (backTo pos (starEach es env)).any (·.1) = false := by
  induction es with
  | nil => rfl
  | cons e es ih =>
    simp only [List.all_cons, Bool.and_eq_true] at h
    rw [star_of h.1]
    show (false || (backTo pos (starEach es env)).any (·.1)) = false
    rw [ih h.2]; rfl
theorem mark_of {op : CmpOp} {e : Expr} (h : noSet e = true) : behindInMarks op e = false := by
  cases e <;> first | rfl | (simp [noSet] at h)
theorem plainIx_of {e : Expr} (h : noSlice e = true) : PlainIx e := by
  intro o i
  cases e <;> first | rfl | (simp [noSlice] at h)
theorem swaps_of {e : Expr} {t : Option Expr} {l : Nat} {env : PySem.Env} (h : noComp e = true) : swapsWith e t l env = pure false := by
  cases e <;> first | rfl | (simp [noComp] at h)
theorem fold_of {e : Expr} {env : PySem.Env} (h : noSet e = true) (x : Value) : foldedSetIterable e env x = pure x := by
  cases e <;> first | rfl | (simp [noSet] at h)
theorem base_of {e : Expr} {f : Str} {env : PySem.Env} {w : Sem Value} (h : baseOk e = true) : attributeBase e f env w = w := by
  cases e with
  | Call fn args kws pos =>
    cases fn with
    | Name id p =>
      cases args with
      | nil =>
        cases kws with
        | nil => exact abase_call (by simp only [baseOk, decide_eq_true_eq] at h; simpa using h)
        | cons k ks => rfl
      | cons a as => rfl
    | _ => rfl
  | _ => rfl
theorem isTrue_of {e : Expr} (h : plainT e = true) (env : PySem.Env) (whole : Sem Value) : isTrue e env whole = (do let v ← whole; standAt e.pos; holding [v] (truthy v)) := by
  cases e with
  | UnaryOp op x pos => cases op <;> first | rfl | (simp [plainT] at h)
  | _ => first | rfl | (simp [plainT] at h)

def binE (op : Operator) : Expr → Option (List Expr)
  | .BinOp a o b _ => if o = op then some [a, b] else none
  | _ => none
def cmpE (op : CmpOp) : Expr → Option (List Expr)
  | .Compare a [o] [b] _ => if o = op ∧ noSet b = true then some [a, b] else none
  | _ => none
def biE (sc : Scope) (x : Str) (n : Nat) : Expr → Option (List Expr)
  | .Call (.Name y _) args [] _ => if y = x ∧ glB sc x = true ∧ args.length = n then some args else none
  | _ => none
def bi2E (sc : Scope) (x y : Str) : Expr → Option (List Expr)
  | .Call (.Name u _) [.Call (.Name w _) [a] [] _] [] _ => if u = x ∧ w = y ∧ glB sc x = true ∧ glB sc y = true then some [a] else none
  | _ => none
def isE (sc : Scope) (y : Str) : Expr → Option (List Expr)
  | .Call (.Name u _) [a, .Name w _] [] _ => if u = "isinstance" ∧ w = y ∧ glB sc "isinstance" = true ∧ glB sc y = true then some [a] else none
  | _ => none
def tyN : Ty → Str
  | .int => "int"
  | .bool => "bool"
  | .list => "list"
  | .tuple => "tuple"
  | .str => "str"
def opOf (ck : Ck) (o : Op) (e : Expr) : Option (List Expr) := match o with
  | .add _ => binE .Add e
  | .sub => binE .Sub e
  | .mul _ => binE .Mult e
  | .fdiv => binE .FloorDiv e
  | .mod => binE .Mod e
  | .pow => binE .Pow e
  | .shl => binE .LShift e
  | .shr => binE .RShift e
  | .band => binE .BitAnd e
  | .neg => match e with
    | .UnaryOp .USub a _ => some [a]
    | _ => none
  | .eq => cmpE .Eq e
  | .ne => cmpE .NotEq e
  | .lt => cmpE .Lt e
  | .le => cmpE .LtE e
  | .gt => cmpE .Gt e
  | .ge => cmpE .GtE e
  | .is => cmpE .Is e
  | .isnot => cmpE .IsNot e
  | .isin => cmpE .In e
  | .notin => cmpE .NotIn e
  | .idx => match e with
    | .Subscript a b _ => if noSlice b = true then some [a, b] else none
    | _ => none
  | .slc _ lo hi => match e with
    | .Subscript a (.Slice l h none _) _ => if l.isSome = lo ∧ h.isSome = hi ∧ (lo && hi) = false then some (a :: (l.toList ++ h.toList)) else none
    | _ => none
  | .rev _ => match e with
    | .Subscript a (.Slice none none (some (.UnaryOp .USub (.Constant (.int 1) _ _) _)) _) _ => some [a]
    | _ => none
  | .mkL _ => match e with
    | .List es _ => some es
    | _ => none
  | .mkT => match e with
    | .Tuple es _ _ => some es
    | _ => none
  | .mkD => match e with
    | .Dict [] [] _ => some []
    | _ => none
  | .txm k t => match e with
    | .BinOp (.Constant (.str a) _ _) .Mult (.Constant (.int z) _ _) _ => match ck.tx.txts[t]? with
      | some b => if z = (k : Int) ∧ 2 ≤ k ∧ k ≤ 1000 ∧ a.length = 1 ∧ b.length ≤ 1000 ∧ b = ⟨(List.replicate k a.cps).foldl (· ++ ·) #[]⟩ then some [] else none
      | none => none
    | _ => none
  | .mkZ => match e with
    | .Dict [] [] _ => some []
    | _ => none
  | .len => biE ck.sc "len" 1 e
  | .isT t => isE ck.sc (tyN t) e
  | .isC c => match ck.tx.cls[c]? with
    | some x => isE ck.sc x e
    | none => none
  | .list _ => biE ck.sc "list" 1 e
  | .tuple => biE ck.sc "tuple" 1 e
  | .all => biE ck.sc "all" 1 e
  | .any => biE ck.sc "any" 1 e
  | .sum => biE ck.sc "sum" 1 e
  | .max1 => biE ck.sc "max" 1 e
  | .min1 => biE ck.sc "min" 1 e
  | .max2 => biE ck.sc "max" 2 e
  | .min2 => biE ck.sc "min" 2 e
  | .abs => biE ck.sc "abs" 1 e
  | .sorted _ => biE ck.sc "sorted" 1 e
  | .lenset => bi2E ck.sc "len" "set" e
  | .sortset _ => bi2E ck.sc "sorted" "set" e
  | .listR _ => bi2E ck.sc "list" "range" e
  | .tupleR => bi2E ck.sc "tuple" "range" e
  | .attr n => match e with
    | .Attribute a f _ => if ck.tx.attrs[n]? = some f ∧ baseOk a = true then some [a] else none
    | _ => none
  | _ => none
theorem binE_inv {op : Operator} {e : Expr} {xs : List Expr} (h : binE op e = some xs) : ∃ a b pos, e = .BinOp a op b pos ∧ xs = [a, b] := by
  unfold binE at h
  split at h
  · split at h
    · rename_i he; subst he; cases h; exact ⟨_, _, _, rfl, rfl⟩
    · cases h
  · cases h
theorem cmpE_inv {op : CmpOp} {e : Expr} {xs : List Expr} (h : cmpE op e = some xs) : ∃ a b pos, e = .Compare a [op] [b] pos ∧ xs = [a, b] ∧ noSet b = true := by
  unfold cmpE at h
  split at h
  · split at h
    · rename_i he; obtain ⟨he, hn⟩ := he; subst he; cases h; exact ⟨_, _, _, rfl, rfl, hn⟩
    · cases h
  · cases h
theorem biE_inv {sc : Scope} {x : Str} {n : Nat} {e : Expr} {xs : List Expr} (h : biE sc x n e = some xs) : ∃ p pos, e = .Call (.Name x p) xs [] pos ∧ sc.names.lookup x = some .globalImplicit ∧ xs.length = n := by
  unfold biE at h
  split at h
  · split at h
    · rename_i he; obtain ⟨he, hg, hn⟩ := he; subst he; cases h; exact ⟨_, _, rfl, glB_iff hg, hn⟩
    · cases h
  · cases h
theorem bi2E_inv {sc : Scope} {x y : Str} {e : Expr} {xs : List Expr} (h : bi2E sc x y e = some xs) :
    ∃ a p pos p2 pos2, e = .Call (.Name x p) [.Call (.Name y p2) [a] [] pos2] [] pos ∧ xs = [a] ∧ sc.names.lookup x = some .globalImplicit ∧ sc.names.lookup y = some .globalImplicit := by
  unfold bi2E at h
  split at h
  · split at h
    · rename_i he; obtain ⟨he, he2, hg, hg2⟩ := he; subst he he2; cases h; exact ⟨_, _, _, _, _, rfl, rfl, glB_iff hg, glB_iff hg2⟩
    · cases h
  · cases h
theorem isE_inv {sc : Scope} {y : Str} {e : Expr} {xs : List Expr} (h : isE sc y e = some xs) :
    ∃ a p pos p2, e = .Call (.Name "isinstance" p) [a, .Name y p2] [] pos ∧ xs = [a] ∧ sc.names.lookup ("isinstance" : Str) = some .globalImplicit ∧ sc.names.lookup y = some .globalImplicit := by
  unfold isE at h
  split at h
  · split at h
    · rename_i he; obtain ⟨he, he2, hg, hg2⟩ := he; subst he he2; cases h; exact ⟨_, _, _, _, rfl, rfl, glB_iff hg, glB_iff hg2⟩
    · cases h
  · cases h

def lmN : Op → Str
  | .append => "append"
  | .extend => "extend"
  | .pop => "pop"
  | .clear => "clear"
  | .reverse => "reverse"
  | .insert => "insert"
  | .index => "index"
  | .count => "count"
  | _ => ""

def lmA : Op → Nat
  | .append => 1
  | .extend => 1
  | .pop => 0
  | .clear => 0
  | .reverse => 0
  | .insert => 2
  | _ => 99

def mxN (b : Bool) : Str := if b then "max" else "min"
def lam1B (sc scope : Scope) (x : Str) : Bool :=
  decide (scope.kind = .function) && !scope.isCoroutine && !scope.isGenerator && decide (scope.names.lookup x = some .local) && scope.names.all fun y => !decide (y.2 = .cell) && (!decide (y.2 = .local) || decide (y.1 = x)) && (!decide (y.2 = .free) || decide (sc.names.lookup y.1 = some .cell) || decide (sc.names.lookup y.1 = some .free))
def kstB (tx : Tx) : D → Const → Bool
  | .non, .none => true
  | .bl b, .bool c => b == c
  | .int i, .int j => decide (i = j)
  | .str t, .str s => decide (tx.txts[t]? = some s)
  | _, _ => false
def glbB (tx : Tx) (x : Str) : D → Bool
  | .int i => decide (tx.nums.lookup x = some i)
  | .fn f => decide (tx.fns[f]? = some (some x))
  | .cls c => decide (tx.cls[c]? = some x)
  | _ => false
mutual
def tgB (ck : Ck) : T → Expr → Bool
  | .nm i, .Name x _ => decide (ck.N[i]? = some x) && locB ck.sc x && okNm x
  | .tp ts, .Tuple es _ _ => tgsB ck ts es
  | _, _ => false
def tgsB (ck : Ck) : Ts → List Expr → Bool
  | .nil, [] => true
  | .cons t ts, e :: es => noStar e && tgB ck t e && tgsB ck ts es
  | _, _ => false
end
mutual
def slots : T → List Nat
  | .nm i => [i]
  | .tp ts => slotss ts
def slotss : Ts → List Nat
  | .nil => []
  | .cons t ts => slots t ++ slotss ts
end
def T.isTp : T → Bool
  | .tp _ => true
  | _ => false
def ownOf (N : List Str) (is : List Nat) : List (Str × Nat) := is.map fun i => (N.getD i "", i)
def isCmp : Op → Bool
  | .eq => true
  | .ne => true
  | .lt => true
  | .le => true
  | .gt => true
  | .ge => true
  | .is => true
  | .isnot => true
  | .isin => true
  | .notin => true
  | _ => false
def opC : Op → Option CmpOp
  | .eq => some .Eq
  | .ne => some .NotEq
  | .lt => some .Lt
  | .le => some .LtE
  | .gt => some .Gt
  | .ge => some .GtE
  | _ => none
def tpSrc : Src → Bool
  | .enum _ => true
  | .zip _ _ => true
  | _ => false
def lamN : Str := "_law_some"
def scB (N ps : List Str) (sc : Scope) : Bool := (match sc.kind with | .function => true | _ => false) && !sc.isCoroutine && !sc.isGenerator && decide N.Nodup && decide (N.take ps.length = ps) && (ps.all fun x => locB sc x) && sc.names.all fun y => match y.2 with | .free => false | _ => true
mutual
def chE (ck : Ck) : E → Expr → Bool
  | .c d, e => match e with
    | .Constant k _ _ => kstB ck.tx d k
    | _ => false
  | .v i, e => match e with
    | .Name x _ => decide (ck.N[i]? = some x) && visB ck.sc x && okNm x
    | _ => false
  | .g d, e => match e with
    | .Name x _ => glB ck.sc x && okNm x && glbB ck.tx x d
    | _ => false
  | .op o es, e => match opOf ck o e with
    | some xs => (isCmp o || plainT e) && chEs ck es xs
    | none => false
  | .and es, e => match e with
    | .BoolOp .And (x :: xs) _ => chEs ck es (x :: xs)
    | _ => false
  | .or es, e => match e with
    | .BoolOp .Or (x :: xs) _ => chEs ck es (x :: xs)
    | _ => false
  | .not a, e => match e with
    | .UnaryOp .Not x _ => chE ck a x
    | _ => false
  | .ite a b c, e => match e with
    | .IfExp x y z _ => chE ck a x && chE ck b y && chE ck c z
    | _ => false
  | .ch o p a b c, e => match e with
    | .Compare x [u, w] [y, z] _ => decide (opC o = some u) && decide (opC p = some w) && noSet y && noSet z && chE ck a x && chE ck b y && chE ck c z
    | _ => false
  | .ch3 o p q a b c d, e => match e with
    | .Compare x [u, w, u2] [y, z, z2] _ => decide (opC o = some u) && decide (opC p = some w) && decide (opC q = some u2) && noSet z2 && chE ck a x && chE ck b y && chE ck c z && chE ck d z2
    | _ => false
  | .ask g e, x => match x with
    | .Call (.Name f _) [.Lambda ⟨[], [], none, [], [], none, []⟩ body scope _] [] _ => ck.lm && decide (ck.tx.fns[g]? = some (some f)) && glB ck.sc f && okNm f && LamX.lamSB ck.sc scope && chE { ck with sc := scope, lm := false } e body
    | _ => false
  | .askT g e t, x => match x with
    | .Call (.Name f _) [.Lambda ⟨[], [], none, [], [], none, []⟩ body scope _, .Constant (.str s) _ _] [] _ => ck.lm && decide (ck.tx.fns[g]? = some (some f)) && glB ck.sc f && okNm f && LamX.lamSB ck.sc scope && decide (ck.tx.txts[t]? = some s) && chE { ck with sc := scope, lm := false } e body
    | _ => false
  | .lamV f e, x => match x with
    | .Lambda ⟨[], [⟨p, none, _⟩], none, [], [], none, []⟩ body scope _ => ck.lm && decide (lookN f ck.tx.lams = some e) && decide (p = lamN) && scB [lamN] [lamN] scope && chE ⟨ck.tx, scope, [lamN], false⟩ e body
    | _ => false
  | .mxk b a i m e, x => match x with
    | .Call (.Name f _) [y] [⟨some kw, .Lambda ⟨[], [⟨p, none, _⟩], none, [], [], none, []⟩ (.Subscript (.Subscript (.Name V _) (.Name q _) _) (.Constant (.int z) _ _) _) scope _, _⟩] _ => ck.lm && decide (f = mxN b) && glB ck.sc f && decide (kw = "key") && decide (p = "kind") && decide (q = "kind") && decide (z = m) && decide (ck.N[a]? = some V) && decide (ck.N[i]? = some "kind") && decide (a ≠ i) && okNm V && decide (scope.names.lookup V = some .free) && lam1B ck.sc scope "kind" && noStar y && chE ck e y
    | _ => false
  | .comp m own tg src ifs elt, e => match e with
    | .ListComp x [⟨t, it, cs, 0⟩] sc _ => blkC ck.N ck.sc sc (ownOf ck.N own) && chSrc ck src it && (!tpSrc src || T.isTp tg) && (slots tg).all (fun i => own.contains i) && tgB { ck with sc := sc } tg t
        && chEs { ck with sc := relS sc ck.sc } ifs cs && decide (cs.length ≤ 1) && chE { ck with sc := relS sc ck.sc } elt x && noSet it
    | _ => false
  | .call f es, e => match e with
    | .Call (.Name x _) xs [] _ => decide (ck.tx.fns[f]? = some (some x)) && glB ck.sc x && okNm x && chEs ck es xs
    | _ => false
  | .callv i es, e => match e with
    | .Call (.Name x _) (y :: xs) [] _ => decide (ck.N[i]? = some x) && visB ck.sc x && okNm x && chEs ck es (y :: xs)
    | _ => false
  | .mk c es, e => match e with
    | .Call (.Name x _) xs [] _ => decide (ck.tx.cls[c]? = some x) && glB ck.sc x && okNm x && chEs ck es xs
    | _ => false
  | .meth o m es, e => match e with
    | .Call (.Attribute x f p) xs [] q => decide (ck.tx.attrs[m]? = some f) && baseOk x && (p.endLine == q.line) && decide (xs.length < 20) && chE ck o x && chEs ck es xs
    | _ => false
  | .lm p o es, e => match e with
    | .Call (.Attribute x f u) xs [] q => decide (f = lmN p) && baseOk x && (u.endLine == q.line) && decide (xs.length = lmA p) && decide (xs.length < 20) && chE ck o x && chEs ck es xs
    | _ => false
  | .lq p o es, e => match e with
    | .Call (.Attribute x f u) [y] [] q => decide (f = lmN p) && decide (p = .index ∨ p = .count) && baseOk x && (u.endLine == q.line) && noStar y && chE ck o x && chEs ck es [y]
    | _ => false
def chEs (ck : Ck) : Es → List Expr → Bool
  | .nil, [] => true
  | .cons i is, e :: es => noStar e && chE ck i e && chEs ck is es
  | _, _ => false
def chSrc (ck : Ck) : Src → Expr → Bool
  | .seq a, e => chE ck a e
  | .rng a, e => match e with
    | .Call (.Name x _) [y] [] _ => decide (x = "range") && glB ck.sc "range" && noStar y && chE ck a y
    | _ => false
  | .rng2 a b, e => match e with
    | .Call (.Name x _) [y, z] [] _ => decide (x = "range") && glB ck.sc "range" && noStar y && noStar z && chE ck a y && chE ck b z
    | _ => false
  | .enum a, e => match e with
    | .Call (.Name x _) [y] [] _ => decide (x = "enumerate") && glB ck.sc "enumerate" && noStar y && chE ck a y
    | _ => false
  | .zip a b, e => match e with
    | .Call (.Name x _) [y, z] [] _ => decide (x = "zip") && glB ck.sc "zip" && noStar y && noStar z && chE ck a y && chE ck b z
    | _ => false
end
def LamGood (tx : Tx) (f : Nat) (q : Str) (prm : Arguments) (body : Expr) (scope : Scope) : Prop := ∃ e p, lookN f tx.lams = some e ∧ prm = ⟨[], [⟨lamN, none, p⟩], none, [], [], none, []⟩ ∧ scB [lamN] [lamN] scope = true ∧ chE ⟨tx, scope, [lamN], false⟩ e body = true
end Mi
namespace Mi
open PySem L2 PyProof.Rows
structure FTx where
  name : Str
  qual : Str
  st : Stmt
  ps : List Str
  N : List Str
def AskT.cl : AskT → Nat
  | .full cl _ _ => cl
  | .kinds cl _ => cl
  | .text cl _ _ _ _ _ => cl
def AskT.cs : AskT → List Nat
  | .full cl a b => [cl, a, b]
  | .kinds cl cs => cl :: cs
  | .text cl a b _ _ _ => [cl, a, b]
structure FAt where
  pl : Str × Option Str
  ft : FTx
def cOf (K : PySem.W.Frag) (F : FAt) : Addr := match K.lookup (He.fAd K F.pl) with
  | some o => match o.data with
    | .func fd => match fd.code with
      | .ref c => c
      | _ => 0
    | _ => 0
  | none => 0
def tOf (K : PySem.W.Frag) (F : FAt) : Addr := match K.lookup (cOf K F) with
  | some o => match o.data with
    | .fields vs => match vs[11]? with
      | some (Value.ref P) => P
      | _ => 0
    | _ => 0
  | none => 0
def rxOf (K : PySem.W.Frag) (tx : Tx) (fs : List FAt) : Rx := ⟨K, tx.txts, tx.attrs, fun f => (fs[f]?).map fun F => He.fAd K F.pl, fun c => (tx.cls[c]?).map (He.ga K), fs.map fun F => (tOf K F, F.ft.qual ++ ".<locals>." ++ "<lambda>"), LamGood tx⟩
def biN : List Str := ["len", "isinstance", "int", "bool", "list", "tuple", "str", "all", "any", "sum", "max", "min", "abs", "sorted", "set", "range", "enumerate", "zip"]
def kbN : List String := ["NoneType", "bool", "int", "str", "list", "tuple", "dict"]
def koN : List String := ["bool", "int", "str", "list", "tuple"]
def insB (K : PySem.W.Frag) (x : Str) : Bool :=
  (He.Fa.cls x).ok K && He.eqO (PySem.W.findIn K (.ref (He.ga K x)) "__class__") (some (some (.builtin "object.__class__"))) && He.eqO (PySem.W.specialIn K (.builtin "object.__class__") "__get__") (some (some (.builtin "getset_descriptor.__get__"))) &&
    decide (PySem.W.takesIn K (.builtin "object.__class__") = some true) && decide (PySem.W.mroIn K (He.ga K x) (.type "object") = some true)
def mk0B (K : PySem.W.Frag) (x : Str) : Bool :=
  PySem.W.makesIn K (He.ga K x) && He.eqO (PySem.W.findIn K (.ref (He.ga K x)) "__init__") (some (some (.builtin "object.__init__"))) && PySem.W.keepIn K (.ref (He.ga K x))
def methB (K : PySem.W.Frag) (tx : Tx) (fs : List FAt) (x : Str) (q : Nat × Nat) : Bool := match tx.attrs[q.1]? with
  | none => true
  | some m => match fs[q.2]? with
    | some F => (He.Fa.meth x m).ok K && decide (He.fAd K F.pl = He.ma K (He.ga K x) m)
    | none => false
def initB (K : PySem.W.Frag) (fs : List FAt) (x : Str) (d : CDef) : Bool := match d.init with
  | none => !d.inst || mk0B K x
  | some f => match fs[f]? with
    | some F => (He.Fa.mkr x).ok K && decide (He.fAd K F.pl = He.ma K (He.ga K x) "__init__")
    | none => false
def fldB (K : PySem.W.Frag) (tx : Tx) (x : Str) (n : Nat) : Bool := match tx.attrs[n]? with
  | some f => (He.Fa.noat x f).ok K
  | none => true
def excCB (K : PySem.W.Frag) (x : Str) : Bool :=
  He.eqO (PySem.W.findIn K (.ref (He.ga K x)) "__getattribute__") (some (some (.builtin "BaseException.__getattribute__"))) && He.eqO (PySem.W.findIn K (.ref (He.ga K x)) "__getattr__") (some none) &&
    decide (PySem.W.subIn K (.ref (He.ga K x)) (.type "BaseException") = some true) && PySem.W.hasDictIn K (He.ga K x) &&
    He.eqO (PySem.W.findIn K (.ref (He.ga K x)) "__class__") (some (some (.builtin "object.__class__"))) && He.eqO (PySem.W.specialIn K (.builtin "object.__class__") "__get__") (some (some (.builtin "getset_descriptor.__get__"))) &&
    decide (PySem.W.takesIn K (.builtin "object.__class__") = some true) && decide (PySem.W.mroIn K (He.ga K x) (.type "object") = some true)
def exmB (K : PySem.W.Frag) (tx : Tx) (pr : Prog) (c : Nat) (x : Str) (t : AskT) : Bool := (t.cs.all fun d => pr.asks d) && match tx.cls[t.cl]? with
  | some y => decide (PySem.W.exmOne K (.ref (He.ga K x)) (.ref (He.ga K y)) = some (pr.sub c t.cl))
  | none => true
def kitCB (K : PySem.W.Frag) (tx : Tx) (pr : Prog) (c : Nat) (x : Str) (e : Nat) : Bool := !pr.asks e || match tx.cls[e]? with
  | some y => decide (PySem.W.kitOne K (.ref (He.ga K x)) (.ref (He.ga K y)) = some (pr.sub c e))
  | none => true
def raisB (K : PySem.W.Frag) (tx : Tx) (pr : Prog) (c : Nat) (x : Str) : Bool :=
  (List.range pr.cls.length).all (kitCB K tx pr c x) && (pr.asks_.isEmpty || (excCB K x && decide (PySem.W.kitOne K (.ref (He.ga K x)) (.type "ValueError") = some true) && pr.asks_.all fun q => exmB K tx pr c x q.2))
def clsB (K : PySem.W.Frag) (tx : Tx) (pr : Prog) (fs : List FAt) (c : Nat) (x : Str) (d : CDef) : Bool :=
  (He.Fa.glo x).ok K &&
  (!d.inst || (insB K x && d.flds.all (fldB K tx x) && (List.range pr.cls.length).all (kitCB K tx pr c x) && koN.all fun t => decide (PySem.W.kitOne K (.ref (He.ga K x)) (.type t) = some false))) &&
  (!d.asked || kbN.all fun t => decide (PySem.W.kitOne K (.type t) (.ref (He.ga K x)) = some false)) &&
  (!d.exc || ((He.Fa.exc x).ok K && raisB K tx pr c x)) && (d.meths.isEmpty || d.inst) && d.meths.all (methB K tx fs x) && initB K fs x d
def clsAt (K : PySem.W.Frag) (tx : Tx) (pr : Prog) (fs : List FAt) (c : Nat) : Bool := match tx.cls[c]?, pr.cls[c]? with
  | some x, some d => clsB K tx pr fs c x d
  | _, _ => false
def factsB (tx : Tx) (pr : Prog) (fs : List FAt) (K : PySem.W.Frag) : Bool :=
  (biN.all fun x => (He.Fa.free x).ok K) && (tx.nums.all fun p => (He.Fa.int p.1 p.2).ok K) && (tx.fns.all fun o => match o with
    | some x => (He.Fa.glo x).ok K
    | none => true) && (List.range tx.cls.length).all (clsAt K tx pr fs) && (pr.asks_.isEmpty || (He.Fa.free "ValueError").ok K)
def FAt.d (F : FAt) : He.FnD := ⟨F.pl, F.ft.name, F.ft.qual, defArgs F.ft.st, defBody F.ft.st, defScope F.ft.st⟩
def defOkB (K : PySem.W.Frag) (F : FAt) : Bool := PySem.W.keepIn K (.ref (He.fAd K F.pl)) && (He.Fa.code F.pl F.ft.qual).ok K
abbrev MAl : Type := Bool × List He.FnV
def obsM (tx : Tx) (pr : Prog) (fs : List FAt) (K : PySem.W.Frag) : MAl := (factsB tx pr fs K && fs.all (defOkB K), fs.map fun F => He.fnObs K F.pl)
def valM (fs : List FAt) : MAl := (true, fs.map fun F => F.d.val)
def tab0 : Obj := { cls := .none, data := .fields #[] }
def tab0B (o : Obj) : Bool := match o.cls, o.dict, o.data with
  | .none, none, .fields vs => vs.size == 0 && o.slots.size == 0
  | _, _, _ => false
theorem tab0B_ok {o : Obj} (h : tab0B o = true) : o = tab0 := by
  obtain ⟨c, d, dt, sl⟩ := o
  unfold tab0B at h
  split at h
  · rename_i e1 e2 e3
    simp only at e1 e2 e3
    subst e1 e2 e3
    simp only [Bool.and_eq_true, beq_iff_eq, Array.size_eq_zero_iff] at h
    obtain ⟨rfl, rfl⟩ := h
    rfl
  · cases h
def noTab (g : Addr → Option Obj) (a : Addr) : Bool := match g a with
  | some o => !tab0B o
  | none => true
def isStr : Value → Bool
  | .str _ _ => true
  | _ => false
def isInt : Value → Bool
  | .int _ _ => true
  | _ => false
def isBool : Value → Bool
  | .bool _ => true
  | _ => false
def isTyp (t : String) : Value → Bool
  | .type u => u == t
  | _ => false
def isRf (a : Addr) : Value → Bool
  | .ref b => a == b
  | _ => false
def hdB (g : Addr → Option Obj) (c P : Addr) : Bool := match g c with
  | some o => isTyp "code" o.cls && (match o.data with
    | .fields vs => (match vs[11]? with
      | some v => isRf P v
      | none => false) && isStr (vs.getD 18 .none) && isInt (vs.getD 7 .none) && isBool (vs.getD 9 .none) && isInt (vs.getD 10 .none)
    | _ => false) && c != P
  | none => false
theorem hdB_ok {h : Heap} {c P : Addr} (q : hdB h.get? c P = true) : PySem.W.CodeHd h c P := by
  unfold hdB at q
  split at q
  · rename_i o ho
    simp only [Bool.and_eq_true, bne_iff_ne] at q
    obtain ⟨⟨q1, q2⟩, q3⟩ := q
    split at q2
    · rename_i vs hd
      simp only [Bool.and_eq_true] at q2
      obtain ⟨⟨⟨⟨r1, r2⟩, r3⟩, r4⟩, r5⟩ := q2
      split at r1
      · rename_i v hv
        cases v <;> first | (simp [isRf] at r1; done) | skip
        rename_i b
        simp only [isRf, beq_iff_eq] at r1
        subst r1
        have e11 : vs.getD 11 .none = .ref P := by simp [Array.getD_eq_getD_getElem?, hv]
        cases e18 : vs.getD 18 .none <;> rw [e18] at r2 <;> first | (simp [isStr] at r2; done) | skip
        cases e7 : vs.getD 7 .none <;> rw [e7] at r3 <;> first | (simp [isInt] at r3; done) | skip
        cases e9 : vs.getD 9 .none <;> rw [e9] at r4 <;> first | (simp [isBool] at r4; done) | skip
        cases e10 : vs.getD 10 .none <;> rw [e10] at r5 <;> first | (simp [isInt] at r5; done) | skip
        have ec : o.cls = .type "code" := by
          cases hc : o.cls <;> rw [hc] at q1 <;> first | (simp [isTyp] at q1; done) | skip
          simp only [isTyp, beq_iff_eq] at q1
          rw [q1]
        exact ⟨o, vs, _, _, _, _, _, _, _, ho, ec, hd, hv, e11, e18, e7, e9, e10, q3⟩
      · cases r1
    · cases q2
  · cases q
def tabF (g : Addr → Option Obj) (K : PySem.W.Frag) (F : FAt) : Bool := (match K.lookup (He.fAd K F.pl) with
  | some o => (match o.data with
    | .func fd => isRf (cOf K F) fd.code && decide (fd.qualname = F.ft.qual)
    | _ => false)
  | none => false) && hdB g (cOf K F) (tOf K F) && (match g (tOf K F) with
  | some o => tab0B o
  | none => false) && (K.lookup (tOf K F)).isNone
def qualOf : Str × Option Str → Str
  | (x, none) => x
  | (c, some m) => c ++ "." ++ m
def nubP : List FAt → List FAt
  | [] => []
  | F :: l => if (l.any fun G => decide (G.pl = F.pl)) = true then nubP l else F :: nubP l
theorem nubP_mem : ∀ {l : List FAt} {F : FAt}, F ∈ l → ∃ G ∈ nubP l, G.pl = F.pl
  | [], F, h => by cases h
  | A :: l, F, h => by
    unfold nubP
    rcases List.mem_cons.mp h with rfl | q
    · split
      · rename_i z
        obtain ⟨G, hG, e⟩ := List.any_eq_true.mp z
        obtain ⟨G2, h2, e2⟩ := nubP_mem hG
        exact ⟨G2, h2, e2.trans (of_decide_eq_true e)⟩
      · exact ⟨_, .head _, rfl⟩
    · obtain ⟨G, hG, e⟩ := nubP_mem q
      split
      · exact ⟨G, hG, e⟩
      · exact ⟨G, .tail _ hG, e⟩
theorem tOf_pl {K : PySem.W.Frag} {F G : FAt} (e : F.pl = G.pl) : tOf K F = tOf K G := by
  unfold tOf cOf
  rw [e]
def tabsG (g : Addr → Option Obj) (K : PySem.W.Frag) (fs : List FAt) : Bool := fs.all (tabF g K) && (decide ((nubP fs).map (tOf K)).Nodup && fs.all fun F => decide (F.ft.qual = qualOf F.pl))
structure TabAt (h : Heap) (K : PySem.W.Frag) (F : FAt) : Prop where
  fn : ∀ oc od fd osl, K.lookup (He.fAd K F.pl) = some ⟨oc, od, .func fd, osl⟩ → fd.code = .ref (cOf K F) ∧ fd.qualname = F.ft.qual
  hd : PySem.W.CodeHd h (cOf K F) (tOf K F)
  tb : h.get? (tOf K F) = some { cls := .none, data := .fields #[] }
  no : K.lookup (tOf K F) = none
def TabsAt (h : Heap) (K : PySem.W.Frag) (fs : List FAt) : Prop := (∀ F ∈ fs, TabAt h K F) ∧ ∀ F ∈ fs, ∀ G ∈ fs, tOf K F = tOf K G → F.ft.qual = G.ft.qual
theorem tabsG_ok {h : Heap} {K : PySem.W.Frag} {fs : List FAt} (q : tabsG h.get? K fs = true) : TabsAt h K fs := by
  simp only [tabsG, Bool.and_eq_true, List.all_eq_true, decide_eq_true_eq] at q
  refine ⟨fun F hF => ?_, fun F hF G hG e => ?_⟩
  case refine_2 =>
    obtain ⟨F', mF, eF⟩ := nubP_mem hF
    obtain ⟨G', mG, eG⟩ := nubP_mem hG
    have e2 : tOf K F' = tOf K G' := (tOf_pl eF).trans (e.trans (tOf_pl eG).symm)
    have e3 : F' = G' := by
      obtain ⟨i, hi, ei⟩ := List.getElem_of_mem mF
      obtain ⟨j, hj, ej⟩ := List.getElem_of_mem mG
      have hh : ((nubP fs).map (tOf K))[i]? = ((nubP fs).map (tOf K))[j]? := by
        rw [List.getElem?_map, List.getElem?_map, List.getElem?_eq_getElem hi, List.getElem?_eq_getElem hj, ei, ej]
        exact congrArg some e2
      have ij : i = j := (List.getElem?_inj (by simpa using hi) q.2.1).mp hh
      subst ij
      rw [← ei, ← ej]
    rw [q.2.2 F hF, q.2.2 G hG, ← eF, ← eG, e3]
  have z := q.1 F hF
  simp only [tabF, Bool.and_eq_true] at z
  obtain ⟨⟨⟨z1, z2⟩, z3⟩, z4⟩ := z
  refine ⟨fun oc od fd osl e => ?_, hdB_ok z2, ?_, by simpa using z4⟩
  · rw [e] at z1
    simp only [Bool.and_eq_true, decide_eq_true_eq] at z1
    refine ⟨?_, z1.2⟩
    have z1 := z1.1
    cases hc : fd.code <;> rw [hc] at z1 <;> first | (simp [isRf] at z1; done) | skip
    simp only [isRf, beq_iff_eq] at z1
    rw [z1]
  · split at z3
    · rename_i o ho
      rw [ho, tab0B_ok z3]; rfl
    · cases z3
theorem TabsAt.keeps {h h' : Heap} {K : PySem.W.Frag} {fs : List FAt} (t : TabsAt h K fs) (k : ∀ b o, h.get? b = some o → h'.get? b = some o) : TabsAt h' K fs :=
  ⟨fun F hF => let q := t.1 F hF; ⟨q.fn, q.hd.keeps k, k _ _ q.tb, q.no⟩, t.2⟩
abbrev MAl2 : Type := Bool × MAl
def frT (g : Addr → Option Obj) (n : Nat) : PySem.W.Frag := He.frG g ((He.asG g n).filter (noTab g))
def obsMG (n : Nat) (tx : Tx) (pr : Prog) (fs : List FAt) (g : Addr → Option Obj) : MAl2 := (tabsG g (frT g n) fs, obsM tx pr fs (frT g n))
def hookM (n : Nat) (tx : Tx) (pr : Prog) (fs : List FAt) : PySem.W.Hook where
  α := MAl2
  val := fun _ => (true, valM fs)
  obs := fun z => obsMG n tx pr fs z.heap.get?
  says := fun _ hp => ∃ K, PySem.W.Frag.In K hp ∧ obsM tx pr fs K = valM fs ∧ TabsAt hp K fs
  of := fun _ _ q => ⟨_, He.frG_in, congrArg Prod.snd q, tabsG_ok (congrArg Prod.fst q)⟩
  keeps := fun _ _ _ ⟨K, i, q, t⟩ z => ⟨K, i.keeps z, q, t.keeps z⟩
def obM (n : Nat) (tx : Tx) (pr : Prog) (fs : List FAt) (s : PySem.W.SharedT) : MAl2 := obsMG n tx pr fs (HandSHeadRun.getT s)
theorem obM_eq {n : Nat} {tx : Tx} {pr : Prog} {fs : List FAt} (s : PySem.W.SharedT) : obM n tx pr fs s = (hookM n tx pr fs).obs s.abs := by
  unfold obM
  rw [show HandSHeadRun.getT s = s.abs.heap.get? from funext (HandSHeadRun.getT_eq s)] <;> rfl
end Mi
namespace K15
open Mi
def l0 : Mi.E := (.call 65 (.cons (.op .idx (.cons (.v 0) (.cons (.c (.int 0)) .nil))) (.cons (.op .idx (.cons (.v 0) (.cons (.c (.int 1)) .nil))) .nil)))
def l1 : Mi.E := (.call 65 (.cons (.op .idx (.cons (.v 0) (.cons (.c (.int 0)) .nil))) (.cons (.op .idx (.cons (.v 0) (.cons (.c (.int 1)) .nil))) .nil)))
def l2 : Mi.E := (.op (.isC 11) (.cons (.call 41 (.cons (.op .idx (.cons (.v 0) (.cons (.c (.int 0)) .nil))) (.cons (.op .idx (.cons (.v 0) (.cons (.c (.int 1)) .nil))) .nil))) .nil))
def l3 : Mi.E := (.op (.isC 11) (.cons (.call 41 (.cons (.op .idx (.cons (.v 0) (.cons (.c (.int 0)) .nil))) (.cons (.op .idx (.cons (.v 0) (.cons (.c (.int 1)) .nil))) .nil))) .nil))
def l4 : Mi.E := (.op (.attr 2) (.cons (.call 42 (.cons (.op .idx (.cons (.v 0) (.cons (.c (.int 0)) .nil))) (.cons (.op .idx (.cons (.v 0) (.cons (.c (.int 1)) .nil))) (.cons (.op .idx (.cons (.v 0) (.cons (.c (.int 2)) .nil))) (.cons (.op .idx (.cons (.v 0) (.cons (.c (.int 3)) .nil))) .nil))))) .nil))
def l5 : Mi.E := (.op (.attr 2) (.cons (.call 42 (.cons (.op .idx (.cons (.v 0) (.cons (.c (.int 0)) .nil))) (.cons (.op .idx (.cons (.v 0) (.cons (.c (.int 1)) .nil))) (.cons (.op .idx (.cons (.v 0) (.cons (.c (.int 2)) .nil))) (.cons (.op .idx (.cons (.v 0) (.cons (.c (.int 3)) .nil))) .nil))))) .nil))
def l6 : Mi.E := (.op (.attr 8) (.cons (.call 42 (.cons (.op .idx (.cons (.v 0) (.cons (.c (.int 0)) .nil))) (.cons (.op .idx (.cons (.v 0) (.cons (.c (.int 1)) .nil))) (.cons (.op .idx (.cons (.v 0) (.cons (.c (.int 2)) .nil))) (.cons (.op .idx (.cons (.v 0) (.cons (.c (.int 3)) .nil))) .nil))))) .nil))
def l7 : Mi.E := (.op (.isC 13) (.cons (.call 49 (.cons (.op .idx (.cons (.v 0) (.cons (.c (.int 0)) .nil))) (.cons (.op .idx (.cons (.v 0) (.cons (.c (.int 1)) .nil))) .nil))) .nil))
def l8 : Mi.E := (.op (.isC 15) (.cons (.call 51 (.cons (.op .idx (.cons (.v 0) (.cons (.c (.int 0)) .nil))) (.cons (.op .idx (.cons (.v 0) (.cons (.c (.int 1)) .nil))) .nil))) .nil))
def l9 : Mi.E := (.call 52 (.cons (.op .idx (.cons (.v 0) (.cons (.c (.int 0)) .nil))) (.cons (.op .idx (.cons (.v 0) (.cons (.c (.int 1)) .nil))) .nil)))
def l10 : Mi.E := (.call 45 (.cons (.op .idx (.cons (.v 0) (.cons (.c (.int 0)) .nil))) .nil))
def l11 : Mi.E := (.call 67 (.cons (.op .idx (.cons (.v 0) (.cons (.c (.int 0)) .nil))) (.cons (.c (.int 0)) .nil)))
def l12 : Mi.E := (.call 48 (.cons (.op .idx (.cons (.v 0) (.cons (.c (.int 0)) .nil))) (.cons (.call 67 (.cons (.op .idx (.cons (.v 0) (.cons (.c (.int 0)) .nil))) (.cons (.op .idx (.cons (.v 0) (.cons (.c (.int 1)) .nil))) .nil))) .nil)))
def l13 : Mi.E := (.op (.isC 19) (.cons (.call 54 (.cons (.op .idx (.cons (.v 0) (.cons (.c (.int 0)) .nil))) (.cons (.op .idx (.cons (.v 0) (.cons (.c (.int 1)) .nil))) (.cons (.op .idx (.cons (.v 0) (.cons (.c (.int 2)) .nil))) (.cons (.op .idx (.cons (.v 0) (.cons (.c (.int 3)) .nil))) .nil))))) .nil))
def l14 : Mi.E := (.op (.isC 19) (.cons (.call 54 (.cons (.op .idx (.cons (.v 0) (.cons (.c (.int 0)) .nil))) (.cons (.op .idx (.cons (.v 0) (.cons (.c (.int 1)) .nil))) (.cons (.op .idx (.cons (.v 0) (.cons (.c (.int 2)) .nil))) (.cons (.op .idx (.cons (.v 0) (.cons (.c (.int 3)) .nil))) .nil))))) .nil))
def l15 : Mi.E := (.meth (.mk 11 .nil) 9 (.cons (.op .idx (.cons (.v 0) (.cons (.c (.int 0)) .nil))) (.cons (.op .idx (.cons (.v 0) (.cons (.c (.int 1)) .nil))) .nil)))
def l16 : Mi.E := (.meth (.mk 12 (.cons (.c (.int 6)) (.cons (.c (.int 1)) .nil))) 9 (.cons (.op .idx (.cons (.v 0) (.cons (.c (.int 0)) .nil))) (.cons (.op .idx (.cons (.v 0) (.cons (.c (.int 1)) .nil))) .nil)))
def l17 : Mi.E := (.meth (.mk 13 (.cons (.op (.mkL false) (.cons (.op .mkT (.cons (.c (.str 11)) (.cons (.c (.int 2)) .nil))) .nil)) .nil)) 9 (.cons (.op .idx (.cons (.v 0) (.cons (.c (.int 0)) .nil))) (.cons (.op .idx (.cons (.v 0) (.cons (.c (.int 1)) .nil))) .nil)))
def l18 : Mi.E := (.meth (.mk 15 (.cons (.op (.mkL false) (.cons (.op .mkT (.cons (.c (.str 5)) (.cons (.c (.int 2)) .nil))) .nil)) .nil)) 9 (.cons (.op .idx (.cons (.v 0) (.cons (.c (.int 0)) .nil))) (.cons (.op .idx (.cons (.v 0) (.cons (.c (.int 1)) .nil))) .nil)))
def l19 : Mi.E := (.meth (.mk 16 (.cons (.op (.mkL false) (.cons (.c (.int 0)) (.cons (.c (.int 1)) (.cons (.c (.int 2)) .nil)))) .nil)) 9 (.cons (.op .idx (.cons (.v 0) (.cons (.c (.int 0)) .nil))) (.cons (.op .idx (.cons (.v 0) (.cons (.c (.int 1)) .nil))) .nil)))
def l20 : Mi.E := (.meth (.mk 17 (.cons (.op (.mkL false) (.cons (.c (.int 2)) (.cons (.c (.int 1)) .nil))) .nil)) 9 (.cons (.op .idx (.cons (.v 0) (.cons (.c (.int 0)) .nil))) (.cons (.op .idx (.cons (.v 0) (.cons (.c (.int 1)) .nil))) (.cons (.op .idx (.cons (.v 0) (.cons (.c (.int 2)) .nil))) (.cons (.op .idx (.cons (.v 0) (.cons (.c (.int 3)) .nil))) .nil)))))
def l21 : Mi.E := (.meth (.mk 18 (.cons (.c (.int 1)) .nil)) 9 (.cons (.op .idx (.cons (.v 0) (.cons (.c (.int 0)) .nil))) (.cons (.op .idx (.cons (.v 0) (.cons (.c (.int 1)) .nil))) (.cons (.op .idx (.cons (.v 0) (.cons (.c (.int 2)) .nil))) (.cons (.op .idx (.cons (.v 0) (.cons (.c (.int 3)) .nil))) .nil)))))
def l22 : Mi.E := (.meth (.mk 19 .nil) 9 (.cons (.op .idx (.cons (.v 0) (.cons (.c (.int 0)) .nil))) (.cons (.op .idx (.cons (.v 0) (.cons (.c (.int 1)) .nil))) (.cons (.op .idx (.cons (.v 0) (.cons (.c (.int 2)) .nil))) (.cons (.op .idx (.cons (.v 0) (.cons (.c (.int 3)) .nil))) .nil)))))
def l23 : Mi.E := (.meth (.mk 20 (.cons (.c (.int 0)) .nil)) 9 (.cons (.op .idx (.cons (.v 0) (.cons (.c (.int 0)) .nil))) (.cons (.op .idx (.cons (.v 0) (.cons (.c (.int 1)) .nil))) (.cons (.op .idx (.cons (.v 0) (.cons (.c (.int 2)) .nil))) (.cons (.op .idx (.cons (.v 0) (.cons (.c (.int 3)) .nil))) .nil)))))
def l24 : Mi.E := (.call 48 (.cons (.op .idx (.cons (.v 0) (.cons (.c (.int 0)) .nil))) (.cons (.op .idx (.cons (.v 0) (.cons (.c (.int 1)) .nil))) .nil)))
def l25 : Mi.E := (.meth (.mk 14 (.cons (.c (.int 0)) (.cons (.c (.int 1)) (.cons (.c (.int 0)) (.cons (.c (.int 1)) (.cons (.c (.int 0)) .nil)))))) 9 (.cons (.op .idx (.cons (.v 0) (.cons (.c (.int 0)) .nil))) (.cons (.op .idx (.cons (.v 0) (.cons (.c (.int 1)) .nil))) .nil)))
def l26 : Mi.E := (.call 60 (.cons (.v 0) .nil))
def b0_0 : Mi.St := (.ret (.and (.cons (.op (.isT .int) (.cons (.v 0) .nil)) (.cons (.not (.op (.isT .bool) (.cons (.v 0) .nil))) .nil))))
def d0 : FDef := ⟨1, 1, 2, (.cons b0_0 .nil)⟩
def b1_0 : Mi.St := (.ret (.and (.cons (.call 0 (.cons (.v 0) .nil)) (.cons (.ch .le .le (.v 1) (.v 0) (.v 2)) .nil))))
def d1 : FDef := ⟨3, 3, 2, (.cons b1_0 .nil)⟩
def b2_0 : Mi.St := (.ite (.or (.cons (.not (.op (.isT .tuple) (.cons (.v 0) .nil))) (.cons (.op .ne (.cons (.op .len (.cons (.v 0) .nil)) (.cons (.c (.int 2)) .nil))) .nil))) (.cons (.ret (.c (.bl false))) .nil) .nil)
def b2_1 : Mi.St := (.ret (.op .all (.cons (.comp false [1] (.nm 1) (.seq (.v 0)) .nil (.call 1 (.cons (.v 1) (.cons (.c (.int 1)) (.cons (.g (.int 100)) .nil))))) .nil)))
def d2 : FDef := ⟨1, 2, 2, (.cons b2_0 (.cons b2_1 .nil))⟩
def b3_0 : Mi.St := (.ite (.or (.cons (.not (.op (.isT .list) (.cons (.v 0) .nil))) (.cons (.not (.ch .le .le (.c (.int 1)) (.op .len (.cons (.v 0) .nil)) (.g (.int 20)))) .nil))) (.cons (.raise 1) .nil) .nil)
def b3_1 : Mi.St := (.ite (.or (.cons (.not (.op .all (.cons (.comp false [1] (.nm 1) (.seq (.v 0)) .nil (.call 2 (.cons (.v 1) .nil))) .nil))) (.cons (.op .lt (.cons (.op .lenset (.cons (.v 0) .nil)) (.cons (.op .len (.cons (.v 0) .nil)) .nil))) .nil))) (.cons (.raise 1) .nil) .nil)
def d3 : FDef := ⟨1, 2, 2, (.cons b3_0 (.cons b3_1 .nil))⟩
def b4_0 : Mi.St := (.ite (.or (.cons (.not (.op (.isT .tuple) (.cons (.v 0) .nil))) (.cons (.op .ne (.cons (.op .len (.cons (.v 0) .nil)) (.cons (.c (.int 2)) .nil))) (.cons (.not (.op (.isT .str) (.cons (.op .idx (.cons (.v 0) (.cons (.c (.int 0)) .nil))) .nil))) .nil)))) (.cons (.ret (.c (.bl false))) .nil) .nil)
def b4_1 : Mi.St := (.ret (.and (.cons (.op .isin (.cons (.op .idx (.cons (.v 0) (.cons (.c (.int 0)) .nil))) (.cons (.op .mkT (.cons (.c (.str 11)) (.cons (.c (.str 5)) .nil))) .nil))) (.cons (.call 1 (.cons (.op .idx (.cons (.v 0) (.cons (.c (.int 1)) .nil))) (.cons (.c (.int 0)) (.cons (.op (.add false) (.cons (.g (.int 100)) (.cons (.c (.int 1)) .nil))) .nil)))) .nil))))
def d4 : FDef := ⟨1, 1, 2, (.cons b4_0 (.cons b4_1 .nil))⟩
def b5_0 : Mi.St := (.ret (.and (.cons (.op (.isT .list) (.cons (.v 0) .nil)) (.cons (.op .le (.cons (.op .len (.cons (.v 0) .nil)) (.cons (.g (.int 24)) .nil))) (.cons (.op .all (.cons (.comp false [1] (.nm 1) (.seq (.v 0)) .nil (.call 4 (.cons (.v 1) .nil))) .nil)) .nil)))))
def d5 : FDef := ⟨1, 2, 2, (.cons b5_0 .nil)⟩
def b6_0 : Mi.St := (.ite (.not (.call 5 (.cons (.v 0) .nil))) (.cons (.raise 2) .nil) .nil)
def d6 : FDef := ⟨1, 1, 2, (.cons b6_0 .nil)⟩
def b7_0 : Mi.St := (.ret (.and (.cons (.op (.isT .list) (.cons (.v 0) .nil)) (.cons (.op .eq (.cons (.op .len (.cons (.v 0) .nil)) (.cons (.v 1) .nil))) (.cons (.op .all (.cons (.comp false [3] (.nm 3) (.seq (.v 0)) .nil (.call 1 (.cons (.v 3) (.cons (.c (.int 0)) (.cons (.v 2) .nil))))) .nil)) .nil)))))
def d7 : FDef := ⟨3, 4, 2, (.cons b7_0 .nil)⟩
def b8_0 : Mi.St := (.ite (.not (.call 7 (.cons (.v 1) (.cons (.op .len (.cons (.v 0) .nil)) (.cons (.g (.int 24)) .nil))))) (.cons (.raise 3) .nil) .nil)
def d8 : FDef := ⟨2, 2, 2, (.cons b8_0 .nil)⟩
def b9_0 : Mi.St := (.ite (.not (.call 7 (.cons (.v 1) (.cons (.op .len (.cons (.v 0) .nil)) (.cons (.op .sub (.cons (.g (.int 20)) (.cons (.c (.int 1)) .nil))) .nil))))) (.cons (.raise 4) .nil) .nil)
def d9 : FDef := ⟨2, 2, 2, (.cons b9_0 .nil)⟩
def b10_0 : Mi.St := (.ite (.not (.call 7 (.cons (.v 1) (.cons (.op (.add false) (.cons (.op .len (.cons (.v 0) .nil)) (.cons (.c (.int 1)) .nil))) (.cons (.g (.int 20)) .nil))))) (.cons (.raise 6) .nil) .nil)
def d10 : FDef := ⟨2, 2, 2, (.cons b10_0 .nil)⟩
def b11_0 : Mi.St := (.ite (.or (.cons (.not (.op (.isT .list) (.cons (.v 1) .nil))) (.cons (.op .gt (.cons (.op .len (.cons (.v 1) .nil)) (.cons (.g (.int 60)) .nil))) .nil))) (.cons (.raise 7) .nil) .nil)
def b11_1 : Mi.St := (.ite (.not (.op .all (.cons (.comp false [2] (.nm 2) (.seq (.v 1)) .nil (.call 1 (.cons (.v 2) (.cons (.c (.int 0)) (.cons (.op .sub (.cons (.op .len (.cons (.v 0) .nil)) (.cons (.c (.int 1)) .nil))) .nil))))) .nil))) (.cons (.raise 7) .nil) .nil)
def d11 : FDef := ⟨2, 3, 2, (.cons b11_0 (.cons b11_1 .nil))⟩
def b12_0 : Mi.St := (.ret (.ite (.op .eq (.cons (.op .idx (.cons (.v 0) (.cons (.c (.int 0)) .nil))) (.cons (.c (.str 11)) .nil))) (.op .le (.cons (.op .idx (.cons (.v 1) (.cons (.c (.int 0)) .nil))) (.cons (.op .idx (.cons (.v 0) (.cons (.c (.int 1)) .nil))) .nil))) (.op .ge (.cons (.op .idx (.cons (.v 1) (.cons (.c (.int 1)) .nil))) (.cons (.op .idx (.cons (.v 0) (.cons (.c (.int 1)) .nil))) .nil)))))
def d12 : FDef := ⟨2, 2, 2, (.cons b12_0 .nil)⟩
def b13_0 : Mi.St := (.for_ (.tp (.cons (.nm 2) (.cons (.nm 3) .nil))) (.enum (.v 0)) (.cons (.ite (.call 12 (.cons (.v 3) (.cons (.v 1) .nil))) (.cons (.ret (.v 2)) .nil) .nil) .nil))
def b13_1 : Mi.St := (.ret (.op .len (.cons (.v 0) .nil)))
def d13 : FDef := ⟨2, 4, 2, (.cons b13_0 (.cons b13_1 .nil))⟩
def b14_0 : Mi.St := (.ret (.comp false [2] (.nm 2) (.seq (.v 0)) .nil (.call 13 (.cons (.v 1) (.cons (.v 2) .nil)))))
def d14 : FDef := ⟨2, 3, 1, (.cons b14_0 .nil)⟩
def b15_0 : Mi.St := (.par [4, 5] (.cons (.op (.mul true) (.cons (.op (.mkL false) (.cons (.c (.int 0)) .nil)) (.cons (.op .len (.cons (.v 2) .nil)) .nil))) (.cons (.call 14 (.cons (.v 0) (.cons (.v 1) .nil))) .nil)))
def b15_1 : Mi.St := (.for_ (.tp (.cons (.nm 6) (.cons (.tp (.cons (.nm 7) (.cons (.nm 8) (.cons (.nm 9) .nil)))) .nil))) (.enum (.v 3)) (.cons (.ite (.op .eq (.cons (.v 7) (.cons (.c (.str 9)) .nil))) (.cons (.ite (.or (.cons (.not (.ch .le .lt (.c (.int 0)) (.v 8) (.op .len (.cons (.v 0) .nil)))) (.cons (.op .ne (.cons (.op .idx (.cons (.v 5) (.cons (.v 8) .nil))) (.cons (.v 9) .nil))) (.cons (.op .eq (.cons (.op .idx (.cons (.v 4) (.cons (.v 9) .nil))) (.cons (.op .idx (.cons (.v 2) (.cons (.v 9) .nil))) .nil))) .nil)))) (.cons (.ret (.v 6)) .nil) .nil) (.cons (.augI (.v 4) (.v 9) (.add false) (.c (.int 1))) .nil)) (.cons (.ite (.or (.cons (.not (.ch .le .lt (.c (.int 0)) (.v 8) (.op .len (.cons (.v 2) .nil)))) (.cons (.op .ne (.cons (.op .idx (.cons (.v 4) (.cons (.v 8) .nil))) (.cons (.v 9) .nil))) .nil))) (.cons (.ret (.v 6)) .nil) .nil) (.cons (.put (.v 4) (.v 8) (.c (.int 0))) .nil))) .nil))
def b15_2 : Mi.St := (.ret (.op .neg (.cons (.c (.int 1)) .nil)))
def d15 : FDef := ⟨4, 10, 2, (.cons b15_0 (.cons b15_1 (.cons b15_2 .nil)))⟩
def b16_0 : Mi.St := (.ret (.op .lt (.cons (.op .lenset (.cons (.comp false [2] (.nm 2) (.seq (.v 1)) .nil (.op .idx (.cons (.v 0) (.cons (.v 2) .nil)))) .nil)) (.cons (.c (.int 2)) .nil))))
def d16 : FDef := ⟨2, 3, 2, (.cons b16_0 .nil)⟩
def b17_0 : Mi.St := (.asg (.nm 2) (.op .min1 (.cons (.comp false [3] (.nm 3) (.seq (.v 1)) .nil (.op .idx (.cons (.op .idx (.cons (.v 0) (.cons (.v 3) .nil))) (.cons (.c (.int 0)) .nil)))) .nil)))
def b17_1 : Mi.St := (.ret (.comp false [3] (.nm 3) (.seq (.v 1)) (.cons (.op .eq (.cons (.op .idx (.cons (.op .idx (.cons (.v 0) (.cons (.v 3) .nil))) (.cons (.c (.int 0)) .nil))) (.cons (.v 2) .nil))) .nil) (.v 3)))
def d17 : FDef := ⟨2, 4, 1, (.cons b17_0 (.cons b17_1 .nil))⟩
def b18_0 : Mi.St := (.asg (.nm 2) (.op .max1 (.cons (.comp false [3] (.nm 3) (.seq (.v 1)) .nil (.op .idx (.cons (.op .idx (.cons (.v 0) (.cons (.v 3) .nil))) (.cons (.c (.int 1)) .nil)))) .nil)))
def b18_1 : Mi.St := (.ret (.comp false [3] (.nm 3) (.seq (.v 1)) (.cons (.op .eq (.cons (.op .idx (.cons (.op .idx (.cons (.v 0) (.cons (.v 3) .nil))) (.cons (.c (.int 1)) .nil))) (.cons (.v 2) .nil))) .nil) (.v 3)))
def d18 : FDef := ⟨2, 4, 1, (.cons b18_0 (.cons b18_1 .nil))⟩
def b19_0 : Mi.St := (.par [4, 5] (.cons (.op (.mul true) (.cons (.op (.mkL false) (.cons (.c (.int 0)) .nil)) (.cons (.op .len (.cons (.v 2) .nil)) .nil))) (.cons (.call 14 (.cons (.v 0) (.cons (.v 1) .nil))) .nil)))
def b19_1 : Mi.St := (.for_ (.tp (.cons (.nm 6) (.cons (.nm 7) .nil))) (.enum (.v 3)) (.cons (.asg (.nm 8) (.op .idx (.cons (.v 5) (.cons (.v 7) .nil)))) (.cons (.ite (.op .eq (.cons (.op .idx (.cons (.v 4) (.cons (.v 8) .nil))) (.cons (.op .idx (.cons (.v 2) (.cons (.v 8) .nil))) .nil))) (.cons (.ret (.op .mkT (.cons (.v 4) (.cons (.v 6) .nil)))) .nil) .nil) (.cons (.augI (.v 4) (.v 8) (.add false) (.c (.int 1))) .nil))))
def b19_2 : Mi.St := (.ret (.op .mkT (.cons (.v 4) (.cons (.op .neg (.cons (.c (.int 1)) .nil)) .nil))))
def d19 : FDef := ⟨4, 9, 1, (.cons b19_0 (.cons b19_1 (.cons b19_2 .nil)))⟩
def b20_0 : Mi.St := (.ret (.op .eq (.cons (.call 39 (.cons (.v 1) (.cons (.v 2) .nil))) (.cons (.op (.mkL false) .nil) .nil))))
def d20 : FDef := ⟨3, 3, 1, (.cons b20_0 .nil)⟩
def b21_0 : Mi.St := (.fld (.v 0) 12 (.v 1))
def b21_1 : Mi.St := (.fld (.v 0) 11 (.v 2))
def d21 : FDef := ⟨3, 3, 0, (.cons b21_0 (.cons b21_1 .nil))⟩
def b22_0 : Mi.St := (.ite (.or (.cons (.not (.ch .le .le (.c (.int 1)) (.op (.attr 12) (.cons (.v 0) .nil)) (.g (.int 100)))) (.cons (.not (.ch .le .le (.c (.int 1)) (.op (.attr 11) (.cons (.v 0) .nil)) (.g (.int 100)))) .nil))) (.cons (.ret (.c (.bl false))) .nil) .nil)
def b22_1 : Mi.St := (.asg (.nm 3) (.op .mkT (.cons (.op (.attr 12) (.cons (.v 0) .nil)) (.cons (.op (.attr 11) (.cons (.v 0) .nil)) .nil))))
def b22_2 : Mi.St := (.ret (.op .ne (.cons (.call 13 (.cons (.v 1) (.cons (.v 3) .nil))) (.cons (.call 13 (.cons (.v 2) (.cons (.v 3) .nil))) .nil))))
def d22 : FDef := ⟨3, 4, 1, (.cons b22_0 (.cons b22_1 (.cons b22_2 .nil)))⟩
def b23_0 : Mi.St := (.fld (.v 0) 1 (.op (.list true) (.cons (.v 1) .nil)))
def d23 : FDef := ⟨2, 2, 0, (.cons b23_0 .nil)⟩
def b24_0 : Mi.St := (.ret (.and (.cons (.call 5 (.cons (.op (.attr 1) (.cons (.v 0) .nil)) .nil)) (.cons (.op .eq (.cons (.call 14 (.cons (.v 1) (.cons (.op (.attr 1) (.cons (.v 0) .nil)) .nil))) (.cons (.v 2) .nil))) .nil))))
def d24 : FDef := ⟨3, 3, 1, (.cons b24_0 .nil)⟩
def b25_0 : Mi.St := (.fld (.v 0) 0 (.v 1))
def b25_1 : Mi.St := (.fld (.v 0) 6 (.v 2))
def b25_2 : Mi.St := (.fld (.v 0) 4 (.v 3))
def b25_3 : Mi.St := (.fld (.v 0) 7 (.v 4))
def b25_4 : Mi.St := (.fld (.v 0) 3 (.v 5))
def d25 : FDef := ⟨6, 6, 0, (.cons b25_0 (.cons b25_1 (.cons b25_2 (.cons b25_3 (.cons b25_4 .nil)))))⟩
def b26_0 : Mi.St := (.asg (.nm 3) (.op (.mkL false) (.cons (.op (.attr 6) (.cons (.v 0) .nil)) (.cons (.op (.attr 4) (.cons (.v 0) .nil)) (.cons (.op (.attr 7) (.cons (.v 0) .nil)) (.cons (.op (.attr 3) (.cons (.v 0) .nil)) .nil))))))
def b26_1 : Mi.St := (.ite (.not (.op .all (.cons (.comp false [4] (.nm 4) (.seq (.v 3)) .nil (.ch .le .lt (.c (.int 0)) (.v 4) (.op .len (.cons (.v 1) .nil)))) .nil))) (.cons (.ret (.c (.bl false))) .nil) .nil)
def b26_2 : Mi.St := (.ite (.or (.cons (.op .ne (.cons (.op .idx (.cons (.v 2) (.cons (.op (.attr 6) (.cons (.v 0) .nil)) .nil))) (.cons (.op (.attr 0) (.cons (.v 0) .nil)) .nil))) (.cons (.op .ne (.cons (.op .idx (.cons (.v 2) (.cons (.op (.attr 7) (.cons (.v 0) .nil)) .nil))) (.cons (.op (.attr 0) (.cons (.v 0) .nil)) .nil))) .nil))) (.cons (.ret (.c (.bl false))) .nil) .nil)
def b26_3 : Mi.St := (.ite (.or (.cons (.op .le (.cons (.op .idx (.cons (.v 2) (.cons (.op (.attr 4) (.cons (.v 0) .nil)) .nil))) (.cons (.op (.attr 0) (.cons (.v 0) .nil)) .nil))) (.cons (.op .le (.cons (.op .idx (.cons (.v 2) (.cons (.op (.attr 3) (.cons (.v 0) .nil)) .nil))) (.cons (.op (.attr 0) (.cons (.v 0) .nil)) .nil))) .nil))) (.cons (.ret (.c (.bl false))) .nil) .nil)
def b26_4 : Mi.St := (.ret (.and (.cons (.op .ge (.cons (.op .idx (.cons (.op .idx (.cons (.v 1) (.cons (.op (.attr 6) (.cons (.v 0) .nil)) .nil))) (.cons (.c (.int 0)) .nil))) (.cons (.op .idx (.cons (.op .idx (.cons (.v 1) (.cons (.op (.attr 4) (.cons (.v 0) .nil)) .nil))) (.cons (.c (.int 0)) .nil))) .nil))) (.cons (.op .le (.cons (.op .idx (.cons (.op .idx (.cons (.v 1) (.cons (.op (.attr 7) (.cons (.v 0) .nil)) .nil))) (.cons (.c (.int 1)) .nil))) (.cons (.op .idx (.cons (.op .idx (.cons (.v 1) (.cons (.op (.attr 3) (.cons (.v 0) .nil)) .nil))) (.cons (.c (.int 1)) .nil))) .nil))) .nil))))
def d26 : FDef := ⟨3, 5, 1, (.cons b26_0 (.cons b26_1 (.cons b26_2 (.cons b26_3 (.cons b26_4 .nil)))))⟩
def b27_0 : Mi.St := (.fld (.v 0) 1 (.op (.list true) (.cons (.v 1) .nil)))
def d27 : FDef := ⟨2, 2, 0, (.cons b27_0 .nil)⟩
def b28_0 : Mi.St := (.ite (.not (.call 5 (.cons (.op (.attr 1) (.cons (.v 0) .nil)) .nil))) (.cons (.ret (.c (.bl false))) .nil) .nil)
def b28_1 : Mi.St := (.asg (.nm 3) (.call 14 (.cons (.v 1) (.cons (.op (.attr 1) (.cons (.v 0) .nil)) .nil))))
def b28_2 : Mi.St := (.ret (.op .all (.cons (.comp false [4] (.nm 4) (.seq (.v 3)) .nil (.call 16 (.cons (.v 2) (.cons (.comp false [5, 6] (.tp (.cons (.nm 5) (.cons (.nm 6) .nil))) (.enum (.v 3)) (.cons (.op .eq (.cons (.v 6) (.cons (.v 4) .nil))) .nil) (.v 5)) .nil)))) .nil)))
def d28 : FDef := ⟨3, 7, 1, (.cons b28_0 (.cons b28_1 (.cons b28_2 .nil)))⟩
def b29_0 : Mi.St := (.fld (.v 0) 10 (.op (.list true) (.cons (.v 1) .nil)))
def d29 : FDef := ⟨2, 2, 0, (.cons b29_0 .nil)⟩
def b30_0 : Mi.St := (.asg (.nm 3) (.op (.attr 10) (.cons (.v 0) .nil)))
def b30_1 : Mi.St := (.ite (.or (.cons (.op .eq (.cons (.v 3) (.cons (.op (.mkL false) .nil) .nil))) (.cons (.not (.op .all (.cons (.comp false [6] (.nm 6) (.seq (.v 3)) .nil (.ch .le .lt (.c (.int 0)) (.v 6) (.op .len (.cons (.v 1) .nil)))) .nil))) .nil))) (.cons (.ret (.c (.bl false))) .nil) .nil)
def b30_2 : Mi.St := (.ite (.op .any (.cons (.comp false [4, 5] (.tp (.cons (.nm 4) (.cons (.nm 5) .nil))) (.zip (.v 3) (.op (.slc false true false) (.cons (.v 3) (.cons (.c (.int 1)) .nil)))) .nil (.op .ge (.cons (.v 4) (.cons (.v 5) .nil)))) .nil)) (.cons (.ret (.c (.bl false))) .nil) .nil)
def b30_3 : Mi.St := (.ret (.and (.cons (.not (.call 16 (.cons (.v 2) (.cons (.call 17 (.cons (.v 1) (.cons (.v 3) .nil))) .nil)))) (.cons (.not (.call 16 (.cons (.v 2) (.cons (.call 18 (.cons (.v 1) (.cons (.v 3) .nil))) .nil)))) .nil))))
def d30 : FDef := ⟨3, 7, 1, (.cons b30_0 (.cons b30_1 (.cons b30_2 (.cons b30_3 .nil))))⟩
def b31_0 : Mi.St := (.fld (.v 0) 2 (.op (.list true) (.cons (.v 1) .nil)))
def d31 : FDef := ⟨2, 2, 0, (.cons b31_0 .nil)⟩
def b32_0 : Mi.St := (.asg (.tp (.cons (.nm 5) (.cons (.nm 6) .nil))) (.call 19 (.cons (.v 1) (.cons (.v 2) (.cons (.v 3) (.cons (.v 4) .nil))))))
def b32_1 : Mi.St := (.ret (.and (.cons (.op .lt (.cons (.v 6) (.cons (.c (.int 0)) .nil))) (.cons (.op .eq (.cons (.v 5) (.cons (.op (.attr 2) (.cons (.v 0) .nil)) .nil))) .nil))))
def d32 : FDef := ⟨5, 7, 1, (.cons b32_0 (.cons b32_1 .nil))⟩
def b33_0 : Mi.St := (.fld (.v 0) 8 (.v 1))
def d33 : FDef := ⟨2, 2, 0, (.cons b33_0 .nil)⟩
def b34_0 : Mi.St := (.ret (.and (.cons (.op .ge (.cons (.op (.attr 8) (.cons (.v 0) .nil)) (.cons (.c (.int 0)) .nil))) (.cons (.op .eq (.cons (.op .idx (.cons (.call 19 (.cons (.v 1) (.cons (.v 2) (.cons (.v 3) (.cons (.v 4) .nil))))) (.cons (.c (.int 1)) .nil))) (.cons (.op (.attr 8) (.cons (.v 0) .nil)) .nil))) .nil))))
def d34 : FDef := ⟨5, 5, 1, (.cons b34_0 .nil)⟩
def b35_0 : Mi.St := (.ret (.op .lt (.cons (.call 15 (.cons (.v 1) (.cons (.v 2) (.cons (.v 3) (.cons (.v 4) .nil))))) (.cons (.c (.int 0)) .nil))))
def d35 : FDef := ⟨5, 5, 1, (.cons b35_0 .nil)⟩
def b36_0 : Mi.St := (.fld (.v 0) 5 (.v 1))
def d36 : FDef := ⟨2, 2, 0, (.cons b36_0 .nil)⟩
def b37_0 : Mi.St := (.ret (.and (.cons (.op .ge (.cons (.op (.attr 5) (.cons (.v 0) .nil)) (.cons (.c (.int 0)) .nil))) (.cons (.op .eq (.cons (.call 15 (.cons (.v 1) (.cons (.v 2) (.cons (.v 3) (.cons (.v 4) .nil))))) (.cons (.op (.attr 5) (.cons (.v 0) .nil)) .nil))) .nil))))
def d37 : FDef := ⟨5, 5, 1, (.cons b37_0 .nil)⟩
def b38_0 : Mi.St := (.asg (.nm 3) (.op (.mkL true) (.cons (.c (.int 1)) (.cons (.g (.int 100)) .nil))))
def b38_1 : Mi.St := (.for_ (.nm 4) (.seq (.v 0)) (.cons (.for_ (.tp (.cons (.nm 5) (.cons (.nm 6) .nil))) (.seq (.v 4)) (.cons (.ite (.op .eq (.cons (.v 5) (.cons (.v 1) .nil))) (.cons (.expr (.lm .extend (.v 3) (.cons (.op (.mkL false) (.cons (.v 6) (.cons (.op (.add false) (.cons (.v 6) (.cons (.v 2) .nil))) .nil))) .nil))) .nil) .nil) .nil)) .nil))
def b38_2 : Mi.St := (.ret (.op (.sortset false) (.cons (.comp false [7] (.nm 7) (.seq (.v 3)) (.cons (.ch .le .le (.c (.int 1)) (.v 7) (.g (.int 100))) .nil) (.v 7)) .nil)))
def d38 : FDef := ⟨3, 8, 1, (.cons b38_0 (.cons b38_1 (.cons b38_2 .nil)))⟩
def b39_0 : Mi.St := (.for_ (.nm 2) (.seq (.call 38 (.cons (.op (.mkL false) (.cons (.v 0) (.cons (.v 1) .nil))) (.cons (.c (.str 11)) (.cons (.c (.int 1)) .nil))))) (.cons (.for_ (.nm 3) (.seq (.call 38 (.cons (.op (.mkL false) (.cons (.v 0) (.cons (.v 1) .nil))) (.cons (.c (.str 5)) (.cons (.op .neg (.cons (.c (.int 1)) .nil)) .nil))))) (.cons (.ite (.op .ne (.cons (.call 13 (.cons (.v 0) (.cons (.op .mkT (.cons (.v 2) (.cons (.v 3) .nil))) .nil))) (.cons (.call 13 (.cons (.v 1) (.cons (.op .mkT (.cons (.v 2) (.cons (.v 3) .nil))) .nil))) .nil))) (.cons (.ret (.op (.mkL false) (.cons (.v 2) (.cons (.v 3) .nil)))) .nil) .nil) .nil)) .nil))
def b39_1 : Mi.St := (.ret (.op (.mkL false) .nil))
def d39 : FDef := ⟨2, 4, 1, (.cons b39_0 (.cons b39_1 .nil))⟩
def b40_0 : Mi.St := (.expr (.call 3 (.cons (.v 0) .nil)))
def b40_1 : Mi.St := (.expr (.call 6 (.cons (.v 1) .nil)))
def b40_2 : Mi.St := (.ret (.call 14 (.cons (.v 0) (.cons (.v 1) .nil))))
def d40 : FDef := ⟨2, 2, 1, (.cons b40_0 (.cons b40_1 (.cons b40_2 .nil)))⟩
def b41_0 : Mi.St := (.expr (.call 6 (.cons (.v 0) .nil)))
def b41_1 : Mi.St := (.expr (.call 6 (.cons (.v 1) .nil)))
def b41_2 : Mi.St := (.asg (.nm 2) (.call 39 (.cons (.v 0) (.cons (.v 1) .nil))))
def b41_3 : Mi.St := (.ret (.ite (.op .eq (.cons (.v 2) (.cons (.op (.mkL false) .nil) .nil))) (.mk 11 .nil) (.mk 12 (.cons (.op .idx (.cons (.v 2) (.cons (.c (.int 0)) .nil))) (.cons (.op .idx (.cons (.v 2) (.cons (.c (.int 1)) .nil))) .nil)))))
def d41 : FDef := ⟨2, 3, 0, (.cons b41_0 (.cons b41_1 (.cons b41_2 (.cons b41_3 .nil))))⟩
def b42_0 : Mi.St := (.expr (.call 3 (.cons (.v 0) .nil)))
def b42_1 : Mi.St := (.expr (.call 6 (.cons (.v 1) .nil)))
def b42_2 : Mi.St := (.expr (.call 10 (.cons (.v 1) (.cons (.v 2) .nil))))
def b42_3 : Mi.St := (.expr (.call 11 (.cons (.v 0) (.cons (.v 3) .nil))))
def b42_4 : Mi.St := (.asg (.tp (.cons (.nm 4) (.cons (.nm 5) .nil))) (.call 19 (.cons (.v 0) (.cons (.v 1) (.cons (.v 2) (.cons (.v 3) .nil))))))
def b42_5 : Mi.St := (.ret (.ite (.op .lt (.cons (.v 5) (.cons (.c (.int 0)) .nil))) (.mk 17 (.cons (.v 4) .nil)) (.mk 18 (.cons (.v 5) .nil))))
def d42 : FDef := ⟨4, 6, 0, (.cons b42_0 (.cons b42_1 (.cons b42_2 (.cons b42_3 (.cons b42_4 (.cons b42_5 .nil))))))⟩
def b43_0 : Mi.St := (.asg (.nm 2) (.op (.mkL true) .nil))
def b43_1 : Mi.St := (.for_ (.tp (.cons (.nm 3) (.cons (.nm 4) .nil))) (.seq (.op .mkT (.cons (.op .mkT (.cons (.c (.str 5)) (.cons (.g (.fn 18)) .nil))) (.cons (.op .mkT (.cons (.c (.str 11)) (.cons (.g (.fn 17)) .nil))) .nil)))) (.cons (.asg (.nm 5) (.callv 4 (.cons (.v 0) (.cons (.v 1) .nil)))) (.cons (.ite (.op .eq (.cons (.op .len (.cons (.v 5) .nil)) (.cons (.c (.int 1)) .nil))) (.cons (.asg (.nm 6) (.op .idx (.cons (.op .idx (.cons (.v 0) (.cons (.op .idx (.cons (.v 5) (.cons (.c (.int 0)) .nil))) .nil))) (.cons (.ite (.op .eq (.cons (.v 3) (.cons (.c (.str 5)) .nil))) (.c (.int 1)) (.c (.int 0))) .nil)))) (.cons (.expr (.lm .append (.v 2) (.cons (.op .mkT (.cons (.op .mkT (.cons (.v 3) (.cons (.v 6) .nil))) (.cons (.op .tuple (.cons (.comp false [7] (.nm 7) (.seq (.v 1)) (.cons (.op .ne (.cons (.v 7) (.cons (.op .idx (.cons (.v 5) (.cons (.c (.int 0)) .nil))) .nil))) .nil) (.v 7)) .nil)) .nil))) .nil))) .nil)) .nil) .nil)))
def b43_2 : Mi.St := (.ret (.v 2))
def d43 : FDef := ⟨2, 8, 1, (.cons b43_0 (.cons b43_1 (.cons b43_2 .nil)))⟩
def b44_0 : Mi.St := (.asg (.tp (.cons (.nm 1) (.cons (.nm 2) .nil))) (.op .mkT (.cons (.op .mkD .nil) (.cons (.op (.mkL true) (.cons (.op .tupleR (.cons (.op .len (.cons (.v 0) .nil)) .nil)) .nil)) .nil))))
def b44_1 : Mi.St := (.whl (.op .ne (.cons (.v 2) (.cons (.op (.mkL false) .nil) .nil))) (.cons (.asg (.nm 3) (.op .idx (.cons (.v 2) (.cons (.op .neg (.cons (.c (.int 1)) .nil)) .nil)))) (.cons (.ite (.op .eq (.cons (.op .len (.cons (.v 3) .nil)) (.cons (.c (.int 1)) .nil))) (.cons (.put (.v 1) (.v 3) (.c (.int 1))) .nil) .nil) (.cons (.asg (.nm 4) (.ite (.op .gt (.cons (.op .len (.cons (.v 3) .nil)) (.cons (.c (.int 1)) .nil))) (.comp false [5, 6] (.tp (.cons (.nm 5) (.cons (.nm 6) .nil))) (.seq (.call 43 (.cons (.v 0) (.cons (.v 3) .nil)))) (.cons (.op .notin (.cons (.v 6) (.cons (.v 1) .nil))) .nil) (.v 6)) (.op (.mkL false) .nil))) (.cons (.ite (.op .eq (.cons (.v 4) (.cons (.op (.mkL false) .nil) .nil))) (.cons (.expr (.lm .pop (.v 2) .nil)) (.cons (.ite (.op .notin (.cons (.v 3) (.cons (.v 1) .nil))) (.cons (.put (.v 1) (.v 3) (.op .sum (.cons (.comp false [5, 6] (.tp (.cons (.nm 5) (.cons (.nm 6) .nil))) (.seq (.call 43 (.cons (.v 0) (.cons (.v 3) .nil)))) .nil (.op .idx (.cons (.v 1) (.cons (.v 6) .nil)))) .nil))) .nil) .nil) .nil)) (.cons (.expr (.lm .extend (.v 2) (.cons (.v 4) .nil))) .nil)) .nil)))))
def b44_2 : Mi.St := (.ret (.v 1))
def d44 : FDef := ⟨1, 7, 0, (.cons b44_0 (.cons b44_1 (.cons b44_2 .nil)))⟩
def b45_0 : Mi.St := (.expr (.call 3 (.cons (.v 0) .nil)))
def b45_1 : Mi.St := (.ret (.op .idx (.cons (.call 44 (.cons (.v 0) .nil)) (.cons (.op .tupleR (.cons (.op .len (.cons (.v 0) .nil)) .nil)) .nil))))
def d45 : FDef := ⟨1, 1, 1, (.cons b45_0 (.cons b45_1 .nil))⟩
def b46_0 : Mi.St := (.expr (.call 3 (.cons (.v 0) .nil)))
def b46_1 : Mi.St := (.par [2, 3, 4] (.cons (.call 44 (.cons (.v 0) .nil)) (.cons (.op .tupleR (.cons (.op .len (.cons (.v 0) .nil)) .nil)) (.cons (.op (.mkL true) .nil) .nil))))
def b46_2 : Mi.St := (.ite (.not (.call 1 (.cons (.v 1) (.cons (.c (.int 0)) (.cons (.op .sub (.cons (.op .idx (.cons (.v 2) (.cons (.v 3) .nil))) (.cons (.c (.int 1)) .nil))) .nil))))) (.cons (.raise 5) .nil) .nil)
def b46_3 : Mi.St := (.whl (.op .gt (.cons (.op .len (.cons (.v 3) .nil)) (.cons (.c (.int 1)) .nil))) (.cons (.for_ (.tp (.cons (.nm 5) (.cons (.nm 6) .nil))) (.seq (.call 43 (.cons (.v 0) (.cons (.v 3) .nil)))) (.cons (.ite (.op .lt (.cons (.v 1) (.cons (.op .idx (.cons (.v 2) (.cons (.v 6) .nil))) .nil))) (.cons (.expr (.lm .append (.v 4) (.cons (.v 5) .nil))) (.cons (.asg (.nm 3) (.v 6)) (.cons .brk .nil))) .nil) (.cons (.aug 1 .sub (.op .idx (.cons (.v 2) (.cons (.v 6) .nil)))) .nil))) .nil))
def b46_4 : Mi.St := (.ret (.v 4))
def d46 : FDef := ⟨2, 7, 1, (.cons b46_0 (.cons b46_1 (.cons b46_2 (.cons b46_3 (.cons b46_4 .nil)))))⟩
def b47_0 : Mi.St := (.asg (.nm 2) (.op .tupleR (.cons (.op .len (.cons (.v 0) .nil)) .nil)))
def b47_1 : Mi.St := (.ite (.op .ne (.cons (.op .len (.cons (.v 1) .nil)) (.cons (.op .sub (.cons (.op .len (.cons (.v 0) .nil)) (.cons (.c (.int 1)) .nil))) .nil))) (.cons (.ret (.c (.bl false))) .nil) .nil)
def b47_2 : Mi.St := (.for_ (.nm 3) (.seq (.v 1)) (.cons (.asg (.nm 4) (.comp false [5, 6] (.tp (.cons (.nm 5) (.cons (.nm 6) .nil))) (.seq (.call 43 (.cons (.v 0) (.cons (.v 2) .nil)))) (.cons (.op .eq (.cons (.v 5) (.cons (.v 3) .nil))) .nil) (.v 6))) (.cons (.ite (.op .eq (.cons (.v 4) (.cons (.op (.mkL false) .nil) .nil))) (.cons (.ret (.c (.bl false))) .nil) .nil) (.cons (.asg (.nm 2) (.op .idx (.cons (.v 4) (.cons (.c (.int 0)) .nil)))) .nil))))
def b47_3 : Mi.St := (.ret (.op .eq (.cons (.op .lenset (.cons (.call 14 (.cons (.v 0) (.cons (.v 1) .nil))) .nil)) (.cons (.op .len (.cons (.v 0) .nil)) .nil))))
def d47 : FDef := ⟨2, 7, 2, (.cons b47_0 (.cons b47_1 (.cons b47_2 (.cons b47_3 .nil))))⟩
def b48_0 : Mi.St := (.expr (.call 3 (.cons (.v 0) .nil)))
def b48_1 : Mi.St := (.expr (.call 6 (.cons (.v 1) .nil)))
def b48_2 : Mi.St := (.ite (.not (.call 47 (.cons (.v 0) (.cons (.v 1) .nil)))) (.cons (.raise 9) .nil) .nil)
def b48_3 : Mi.St := (.par [3, 4, 5] (.cons (.call 44 (.cons (.v 0) .nil)) (.cons (.op .tupleR (.cons (.op .len (.cons (.v 0) .nil)) .nil)) (.cons (.c (.int 0)) .nil))))
def b48_4 : Mi.St := (.for_ (.nm 2) (.seq (.v 1)) (.cons (.for_ (.tp (.cons (.nm 6) (.cons (.nm 7) .nil))) (.seq (.call 43 (.cons (.v 0) (.cons (.v 4) .nil)))) (.cons (.ite (.op .eq (.cons (.v 6) (.cons (.v 2) .nil))) (.cons (.asg (.nm 8) (.v 7)) .nil) (.cons (.ite (.op .lt (.cons (.v 6) (.cons (.v 2) .nil))) (.cons (.aug 5 (.add false) (.op .idx (.cons (.v 3) (.cons (.v 7) .nil)))) .nil) .nil) .nil)) .nil)) (.cons (.asg (.nm 4) (.v 8)) .nil)))
def b48_5 : Mi.St := (.ret (.v 5))
def d48 : FDef := ⟨2, 9, 2, (.cons b48_0 (.cons b48_1 (.cons b48_2 (.cons b48_3 (.cons b48_4 (.cons b48_5 .nil))))))⟩
def b49_0 : Mi.St := (.expr (.call 3 (.cons (.v 0) .nil)))
def b49_1 : Mi.St := (.expr (.call 8 (.cons (.v 0) (.cons (.v 1) .nil))))
def b49_2 : Mi.St := (.asg (.nm 2) (.op (.mkL true) .nil))
def b49_3 : Mi.St := (.for_ (.nm 3) (.rng (.op .max1 (.cons (.v 1) .nil))) (.cons (.asg (.nm 4) (.comp false [10] (.nm 10) (.rng (.op .len (.cons (.v 0) .nil))) (.cons (.op .eq (.cons (.op .idx (.cons (.v 1) (.cons (.v 10) .nil))) (.cons (.v 3) .nil))) .nil) (.v 10))) (.cons (.asg (.nm 5) (.comp false [10] (.nm 10) (.rng (.op .len (.cons (.v 0) .nil))) (.cons (.op .gt (.cons (.op .idx (.cons (.v 1) (.cons (.v 10) .nil))) (.cons (.v 3) .nil))) .nil) (.v 10))) (.cons (.ite (.op .eq (.cons (.v 4) (.cons (.op (.mkL false) .nil) .nil))) (.cons (.expr (.lm .append (.v 2) (.cons (.op .mkT (.cons (.c (.str 11)) (.cons (.c (.int 0)) .nil))) .nil))) .nil) (.cons (.asg (.nm 6) (.mxk true 0 10 0 (.v 4))) (.cons (.asg (.nm 7) (.mxk false 0 10 0 (.v 5))) (.cons (.asg (.nm 8) (.mxk false 0 10 1 (.v 4))) (.cons (.asg (.nm 9) (.mxk true 0 10 1 (.v 5))) (.cons (.ite (.op .lt (.cons (.op .idx (.cons (.op .idx (.cons (.v 0) (.cons (.v 6) .nil))) (.cons (.c (.int 0)) .nil))) (.cons (.op .idx (.cons (.op .idx (.cons (.v 0) (.cons (.v 7) .nil))) (.cons (.c (.int 0)) .nil))) .nil))) (.cons (.expr (.lm .append (.v 2) (.cons (.op .mkT (.cons (.c (.str 11)) (.cons (.op .idx (.cons (.op .idx (.cons (.v 0) (.cons (.v 6) .nil))) (.cons (.c (.int 0)) .nil))) .nil))) .nil))) .nil) (.cons (.ite (.op .gt (.cons (.op .idx (.cons (.op .idx (.cons (.v 0) (.cons (.v 8) .nil))) (.cons (.c (.int 1)) .nil))) (.cons (.op .idx (.cons (.op .idx (.cons (.v 0) (.cons (.v 9) .nil))) (.cons (.c (.int 1)) .nil))) .nil))) (.cons (.expr (.lm .append (.v 2) (.cons (.op .mkT (.cons (.c (.str 5)) (.cons (.op .idx (.cons (.op .idx (.cons (.v 0) (.cons (.v 8) .nil))) (.cons (.c (.int 1)) .nil))) .nil))) .nil))) .nil) (.cons (.ret (.mk 14 (.cons (.v 3) (.cons (.v 6) (.cons (.v 7) (.cons (.v 8) (.cons (.v 9) .nil))))))) .nil)) .nil)) .nil)))))) .nil))))
def b49_4 : Mi.St := (.ret (.mk 13 (.cons (.v 2) .nil)))
def d49 : FDef := ⟨2, 11, 0, (.cons b49_0 (.cons b49_1 (.cons b49_2 (.cons b49_3 (.cons b49_4 .nil)))))⟩
def b50_0 : Mi.St := (.asg (.nm 3) (.op (.mkL true) .nil))
def b50_1 : Mi.St := (.for_ (.tp (.cons (.nm 4) (.cons (.nm 5) .nil))) (.seq (.op .mkT (.cons (.op .mkT (.cons (.c (.str 11)) (.cons (.g (.fn 17)) .nil))) (.cons (.op .mkT (.cons (.c (.str 5)) (.cons (.g (.fn 18)) .nil))) .nil)))) (.cons (.asg (.tp (.cons (.nm 6) (.cons (.nm 7) .nil))) (.op .mkT (.cons (.op (.list false) (.cons (.v 2) .nil)) (.cons (.c .non) .nil)))) (.cons (.whl (.and (.cons (.op .ne (.cons (.v 6) (.cons (.op (.mkL false) .nil) .nil))) (.cons (.call 16 (.cons (.v 1) (.cons (.op (.add false) (.cons (.comp false [9] (.nm 9) (.seq (.v 2)) (.cons (.op .notin (.cons (.v 9) (.cons (.v 6) .nil))) .nil) (.v 9)) (.cons (.callv 5 (.cons (.v 0) (.cons (.v 6) .nil))) .nil))) .nil))) .nil))) (.cons (.asg (.nm 8) (.callv 5 (.cons (.v 0) (.cons (.v 6) .nil)))) (.cons (.asg (.nm 7) (.op .idx (.cons (.op .idx (.cons (.v 0) (.cons (.op .idx (.cons (.v 8) (.cons (.c (.int 0)) .nil))) .nil))) (.cons (.ite (.op .eq (.cons (.v 4) (.cons (.c (.str 11)) .nil))) (.c (.int 0)) (.c (.int 1))) .nil)))) (.cons (.asg (.nm 6) (.comp false [9] (.nm 9) (.seq (.v 6)) (.cons (.op .notin (.cons (.v 9) (.cons (.v 8) .nil))) .nil) (.v 9))) .nil)))) (.cons (.ite (.op .isnot (.cons (.v 7) (.cons (.c .non) .nil))) (.cons (.expr (.lm .append (.v 3) (.cons (.op .mkT (.cons (.op .mkT (.cons (.v 4) (.cons (.v 7) .nil))) (.cons (.v 6) .nil))) .nil))) .nil) .nil) .nil))))
def b50_2 : Mi.St := (.ret (.v 3))
def d50 : FDef := ⟨3, 10, 1, (.cons b50_0 (.cons b50_1 (.cons b50_2 .nil)))⟩
def b51_0 : Mi.St := (.expr (.call 3 (.cons (.v 0) .nil)))
def b51_1 : Mi.St := (.expr (.call 9 (.cons (.v 0) (.cons (.v 1) .nil))))
def b51_2 : Mi.St := (.par [2, 3] (.cons (.op (.listR false) (.cons (.op .len (.cons (.v 0) .nil)) .nil)) (.cons (.op (.mkL true) .nil) .nil)))
def b51_3 : Mi.St := (.whl (.not (.call 16 (.cons (.v 1) (.cons (.v 2) .nil)))) (.cons (.asg (.nm 4) (.call 50 (.cons (.v 0) (.cons (.v 1) (.cons (.v 2) .nil))))) (.cons (.ite (.op .eq (.cons (.v 4) (.cons (.op (.mkL false) .nil) .nil))) (.cons (.ret (.mk 16 (.cons (.v 2) .nil))) .nil) .nil) (.cons (.expr (.lm .append (.v 3) (.cons (.op .idx (.cons (.op .idx (.cons (.v 4) (.cons (.c (.int 0)) .nil))) (.cons (.c (.int 0)) .nil))) .nil))) (.cons (.asg (.nm 2) (.op .idx (.cons (.op .idx (.cons (.v 4) (.cons (.c (.int 0)) .nil))) (.cons (.c (.int 1)) .nil)))) .nil)))))
def b51_4 : Mi.St := (.ret (.mk 15 (.cons (.v 3) .nil)))
def d51 : FDef := ⟨2, 5, 0, (.cons b51_0 (.cons b51_1 (.cons b51_2 (.cons b51_3 (.cons b51_4 .nil)))))⟩
def b52_0 : Mi.St := (.expr (.call 3 (.cons (.v 0) .nil)))
def b52_1 : Mi.St := (.expr (.call 9 (.cons (.v 0) (.cons (.v 1) .nil))))
def b52_2 : Mi.St := (.par [2, 3, 4] (.cons (.op (.mkL false) (.cons (.op (.listR false) (.cons (.op .len (.cons (.v 0) .nil)) .nil)) .nil)) (.cons (.op .mkD .nil) (.cons (.c (.int 0)) .nil))))
def b52_3 : Mi.St := (.whl (.op .ne (.cons (.v 2) (.cons (.op (.mkL false) .nil) .nil))) (.cons (.asg (.nm 5) (.op (.mkL true) .nil)) (.cons (.for_ (.nm 6) (.seq (.v 2)) (.cons (.ite (.call 16 (.cons (.v 1) (.cons (.v 6) .nil))) (.cons (.ret (.v 4)) .nil) .nil) (.cons (.for_ (.tp (.cons (.nm 7) (.cons (.nm 8) .nil))) (.seq (.call 50 (.cons (.v 0) (.cons (.v 1) (.cons (.v 6) .nil))))) (.cons (.ite (.op .notin (.cons (.op .tuple (.cons (.v 8) .nil)) (.cons (.v 3) .nil))) (.cons (.put (.v 3) (.op .tuple (.cons (.v 8) .nil)) (.c (.bl true))) (.cons (.expr (.lm .append (.v 5) (.cons (.v 8) .nil))) .nil)) .nil) .nil)) .nil))) (.cons (.par [2, 4] (.cons (.v 5) (.cons (.op (.add false) (.cons (.v 4) (.cons (.c (.int 1)) .nil))) .nil))) .nil))))
def b52_4 : Mi.St := (.ret (.c .non))
def d52 : FDef := ⟨2, 9, 2, (.cons b52_0 (.cons b52_1 (.cons b52_2 (.cons b52_3 (.cons b52_4 .nil)))))⟩
def b53_0 : Mi.St := (.ite (.or (.cons (.not (.op (.isT .tuple) (.cons (.v 0) .nil))) (.cons (.op .ne (.cons (.op .len (.cons (.v 0) .nil)) (.cons (.c (.int 3)) .nil))) (.cons (.not (.op (.isT .str) (.cons (.op .idx (.cons (.v 0) (.cons (.c (.int 0)) .nil))) .nil))) .nil)))) (.cons (.ret (.c (.bl false))) .nil) .nil)
def b53_1 : Mi.St := (.ret (.and (.cons (.op .isin (.cons (.op .idx (.cons (.v 0) (.cons (.c (.int 0)) .nil))) (.cons (.op .mkT (.cons (.c (.str 9)) (.cons (.c (.str 10)) .nil))) .nil))) (.cons (.call 0 (.cons (.op .idx (.cons (.v 0) (.cons (.c (.int 1)) .nil))) .nil)) (.cons (.call 0 (.cons (.op .idx (.cons (.v 0) (.cons (.c (.int 2)) .nil))) .nil)) .nil)))))
def d53 : FDef := ⟨1, 1, 2, (.cons b53_0 (.cons b53_1 .nil))⟩
def b54_0 : Mi.St := (.expr (.call 3 (.cons (.v 0) .nil)))
def b54_1 : Mi.St := (.expr (.call 6 (.cons (.v 1) .nil)))
def b54_2 : Mi.St := (.expr (.call 10 (.cons (.v 1) (.cons (.v 2) .nil))))
def b54_3 : Mi.St := (.ite (.or (.cons (.not (.op (.isT .list) (.cons (.v 3) .nil))) (.cons (.op .gt (.cons (.op .len (.cons (.v 3) .nil)) (.cons (.g (.int 60)) .nil))) (.cons (.not (.op .all (.cons (.comp false [5] (.nm 5) (.seq (.v 3)) .nil (.call 53 (.cons (.v 5) .nil))) .nil))) .nil)))) (.cons (.raise 8) .nil) .nil)
def b54_4 : Mi.St := (.asg (.nm 4) (.call 15 (.cons (.v 0) (.cons (.v 1) (.cons (.v 2) (.cons (.v 3) .nil))))))
def b54_5 : Mi.St := (.ret (.ite (.op .lt (.cons (.v 4) (.cons (.c (.int 0)) .nil))) (.mk 19 .nil) (.mk 20 (.cons (.v 4) .nil))))
def d54 : FDef := ⟨4, 6, 0, (.cons b54_0 (.cons b54_1 (.cons b54_2 (.cons b54_3 (.cons b54_4 (.cons b54_5 .nil))))))⟩
def b55_0 : Mi.St := (.ite (.op .lt (.cons (.v 1) (.cons (.op .len (.cons (.v 0) .nil)) .nil))) (.cons (.ret (.op .idx (.cons (.v 0) (.cons (.v 1) .nil)))) .nil) .nil)
def b55_1 : Mi.St := (.ret (.c (.int 0)))
def d55 : FDef := ⟨2, 2, 1, (.cons b55_0 (.cons b55_1 .nil))⟩
def b56_0 : Mi.St := (.ite (.op (.isT .list) (.cons (.v 0) .nil)) (.cons (.ret (.comp true [1] (.nm 1) (.seq (.v 0)) .nil (.call 56 (.cons (.v 1) .nil)))) .nil) .nil)
def b56_1 : Mi.St := (.ite (.op (.isT .tuple) (.cons (.v 0) .nil)) (.cons (.ret (.op .tuple (.cons (.comp false [1] (.nm 1) (.seq (.v 0)) .nil (.call 56 (.cons (.v 1) .nil))) .nil))) .nil) .nil)
def b56_2 : Mi.St := (.ret (.v 0))
def d56 : FDef := ⟨1, 2, 0, (.cons b56_0 (.cons b56_1 (.cons b56_2 .nil)))⟩
def b57_0 : Mi.St := (.for_ (.tp (.cons (.nm 2) (.cons (.nm 3) .nil))) (.enum (.v 1)) (.cons (.ite (.and (.cons (.op (.isT .list) (.cons (.v 3) .nil)) (.cons (.op .eq (.cons (.op .len (.cons (.op .idx (.cons (.v 0) (.cons (.v 2) .nil))) .nil)) (.cons (.op .len (.cons (.v 3) .nil)) .nil))) .nil))) (.cons (.expr (.call 57 (.cons (.op .idx (.cons (.v 0) (.cons (.v 2) .nil))) (.cons (.v 3) .nil)))) .nil) (.cons (.put (.v 0) (.v 2) (.call 56 (.cons (.v 3) .nil))) .nil)) .nil))
def d57 : FDef := ⟨2, 4, 0, (.cons b57_0 .nil)⟩
def b58_0 : Mi.St := (.ite (.or (.cons (.op (.isT .list) (.cons (.v 0) .nil)) (.cons (.op (.isT .tuple) (.cons (.v 0) .nil)) .nil))) (.cons (.for_ (.nm 1) (.seq (.op (.list false) (.cons (.v 0) .nil))) (.cons (.expr (.call 58 (.cons (.v 1) .nil))) .nil)) .nil) .nil)
def b58_1 : Mi.St := (.ite (.op (.isT .list) (.cons (.v 0) .nil)) (.cons (.expr (.lm .append (.v 0) (.cons (.c .non) .nil))) .nil) .nil)
def d58 : FDef := ⟨1, 2, 0, (.cons b58_0 (.cons b58_1 .nil))⟩
def b59_0 : Mi.St := (.par [4, 5] (.cons (.call 56 (.cons (.v 1) .nil)) (.cons (.op (.mkL true) .nil) .nil)))
def b59_1 : Mi.St := (.for_ (.nm 3) (.seq (.op .mkT (.cons (.v 1) (.cons (.v 2) .nil)))) (.cons (.expr (.lm .append (.v 5) (.cons (.op .mkT (.cons (.v 3) (.cons (.call 56 (.cons (.callv 0 (.cons (.call 56 (.cons (.v 3) .nil)) .nil)) .nil)) .nil))) .nil))) .nil))
def b59_2 : Mi.St := (.for_ (.tp (.cons (.nm 3) (.cons (.nm 6) .nil))) (.seq (.op (.add false) (.cons (.v 5) (.cons (.v 5) .nil)))) (.cons (.expr (.call 57 (.cons (.v 4) (.cons (.v 3) .nil)))) (.cons (.for_ (.nm 7) (.rng (.c (.int 2))) (.cons (.asg (.nm 8) (.callv 0 (.cons (.v 4) .nil))) (.cons (.ite (.or (.cons (.op .ne (.cons (.v 4) (.cons (.v 3) .nil))) (.cons (.op .ne (.cons (.v 8) (.cons (.v 6) .nil))) .nil))) (.cons (.ret (.c (.bl false))) .nil) .nil) (.cons (.expr (.call 58 (.cons (.v 8) .nil))) .nil)))) .nil)))
def b59_3 : Mi.St := (.ret (.c (.bl true)))
def d59 : FDef := ⟨3, 9, 2, (.cons b59_0 (.cons b59_1 (.cons b59_2 (.cons b59_3 .nil))))⟩
def b60_0 : Mi.St := (.asg (.nm 1) (.call 56 (.cons (.v 0) .nil)))
def b60_1 : Mi.St := (.expr (.lm .clear (.op (.attr 1) (.cons (.call 49 (.cons (.op .idx (.cons (.v 0) (.cons (.c (.int 0)) .nil))) (.cons (.op .idx (.cons (.v 0) (.cons (.c (.int 1)) .nil))) .nil))) .nil)) .nil))
def b60_2 : Mi.St := (.expr (.lm .clear (.op (.attr 1) (.cons (.call 51 (.cons (.op .idx (.cons (.v 1) (.cons (.c (.int 0)) .nil))) (.cons (.op .idx (.cons (.v 1) (.cons (.c (.int 1)) .nil))) .nil))) .nil)) .nil))
def b60_3 : Mi.St := (.par [2, 3] (.cons (.call 49 (.cons (.op .idx (.cons (.v 1) (.cons (.c (.int 0)) .nil))) (.cons (.op .idx (.cons (.v 1) (.cons (.c (.int 1)) .nil))) .nil))) (.cons (.call 51 (.cons (.op .idx (.cons (.v 1) (.cons (.c (.int 0)) .nil))) (.cons (.op .idx (.cons (.v 1) (.cons (.c (.int 1)) .nil))) .nil))) .nil)))
def b60_4 : Mi.St := (.ret (.op (.mkL true) (.cons (.meth (.v 2) 9 (.cons (.op .idx (.cons (.v 1) (.cons (.c (.int 0)) .nil))) (.cons (.op .idx (.cons (.v 1) (.cons (.c (.int 1)) .nil))) .nil))) (.cons (.meth (.v 3) 9 (.cons (.op .idx (.cons (.v 1) (.cons (.c (.int 0)) .nil))) (.cons (.op .idx (.cons (.v 1) (.cons (.c (.int 1)) .nil))) .nil))) .nil))))
def d60 : FDef := ⟨1, 4, 0, (.cons b60_0 (.cons b60_1 (.cons b60_2 (.cons b60_3 (.cons b60_4 .nil)))))⟩
def b61_0 : Mi.St := (.asg (.nm 0) (.op (.mkL true) .nil))
def b61_1 : Mi.St := (.expr (.lm .append (.v 0) (.cons (.op .mkT (.cons (.lamV 68 l0) (.cons (.op (.mkL false) (.cons (.op (.mkL false) (.cons (.op .mkT (.cons (.c (.int 2)) (.cons (.c (.int 1)) .nil))) (.cons (.op .mkT (.cons (.c (.int 5)) (.cons (.c (.int 1)) .nil))) .nil))) (.cons (.op (.mkL false) (.cons (.op .mkT (.cons (.c (.str 11)) (.cons (.c (.int 2)) .nil))) .nil)) .nil))) (.cons (.op (.mkL false) (.cons (.op (.mkL false) (.cons (.op .mkT (.cons (.c (.int 2)) (.cons (.c (.int 1)) .nil))) (.cons (.op .mkT (.cons (.c (.int 5)) (.cons (.c (.int 1)) .nil))) .nil))) (.cons (.op (.mkL false) (.cons (.op .mkT (.cons (.c (.str 11)) (.cons (.c (.int 5)) .nil))) .nil)) .nil))) .nil)))) .nil)))
def b61_2 : Mi.St := (.expr (.lm .append (.v 0) (.cons (.op .mkT (.cons (.lamV 69 l1) (.cons (.op (.mkL false) (.cons (.op (.mkL false) (.cons (.op .mkT (.cons (.c (.int 2)) (.cons (.c (.int 1)) .nil))) (.cons (.op .mkT (.cons (.c (.int 5)) (.cons (.c (.int 1)) .nil))) .nil))) (.cons (.op (.mkL false) (.cons (.op .mkT (.cons (.c (.str 11)) (.cons (.c (.int 2)) .nil))) .nil)) .nil))) (.cons (.op (.mkL false) (.cons (.op (.mkL false) (.cons (.op .mkT (.cons (.c (.int 2)) (.cons (.c (.int 1)) .nil))) (.cons (.op .mkT (.cons (.c (.int 1)) (.cons (.c (.int 1)) .nil))) .nil))) (.cons (.op (.mkL false) (.cons (.op .mkT (.cons (.c (.str 11)) (.cons (.c (.int 2)) .nil))) .nil)) .nil))) .nil)))) .nil)))
def b61_3 : Mi.St := (.expr (.lm .append (.v 0) (.cons (.op .mkT (.cons (.lamV 70 l2) (.cons (.op (.mkL false) (.cons (.op (.mkL false) (.cons (.op .mkT (.cons (.c (.str 11)) (.cons (.c (.int 5)) .nil))) .nil)) (.cons (.op (.mkL false) (.cons (.op .mkT (.cons (.c (.str 11)) (.cons (.c (.int 5)) .nil))) .nil)) .nil))) (.cons (.op (.mkL false) (.cons (.op (.mkL false) (.cons (.op .mkT (.cons (.c (.str 11)) (.cons (.c (.int 5)) .nil))) .nil)) (.cons (.op (.mkL false) (.cons (.op .mkT (.cons (.c (.str 11)) (.cons (.c (.int 6)) .nil))) .nil)) .nil))) .nil)))) .nil)))
def b61_4 : Mi.St := (.expr (.lm .append (.v 0) (.cons (.op .mkT (.cons (.lamV 71 l3) (.cons (.op (.mkL false) (.cons (.op (.mkL false) (.cons (.op .mkT (.cons (.c (.str 11)) (.cons (.c (.int 5)) .nil))) .nil)) (.cons (.op (.mkL false) (.cons (.op .mkT (.cons (.c (.str 11)) (.cons (.c (.int 5)) .nil))) .nil)) .nil))) (.cons (.op (.mkL false) (.cons (.op (.mkL false) (.cons (.op .mkT (.cons (.c (.str 11)) (.cons (.c (.int 6)) .nil))) .nil)) (.cons (.op (.mkL false) (.cons (.op .mkT (.cons (.c (.str 11)) (.cons (.c (.int 5)) .nil))) .nil)) .nil))) .nil)))) .nil)))
def b61_5 : Mi.St := (.expr (.lm .append (.v 0) (.cons (.op .mkT (.cons (.lamV 72 l4) (.cons (.op (.mkL false) (.cons (.op (.mkL false) (.cons (.op .mkT (.cons (.c (.int 2)) (.cons (.c (.int 1)) .nil))) (.cons (.op .mkT (.cons (.c (.int 5)) (.cons (.c (.int 1)) .nil))) .nil))) (.cons (.op (.mkL false) (.cons (.op .mkT (.cons (.c (.str 11)) (.cons (.c (.int 2)) .nil))) .nil)) (.cons (.op (.mkL false) (.cons (.c (.int 3)) (.cons (.c (.int 3)) .nil))) (.cons (.op (.mkL false) (.cons (.c (.int 0)) (.cons (.c (.int 1)) (.cons (.c (.int 0)) .nil)))) .nil))))) (.cons (.op (.mkL false) (.cons (.op (.mkL false) (.cons (.op .mkT (.cons (.c (.int 2)) (.cons (.c (.int 1)) .nil))) (.cons (.op .mkT (.cons (.c (.int 5)) (.cons (.c (.int 1)) .nil))) .nil))) (.cons (.op (.mkL false) (.cons (.op .mkT (.cons (.c (.str 11)) (.cons (.c (.int 5)) .nil))) .nil)) (.cons (.op (.mkL false) (.cons (.c (.int 3)) (.cons (.c (.int 3)) .nil))) (.cons (.op (.mkL false) (.cons (.c (.int 0)) (.cons (.c (.int 1)) (.cons (.c (.int 0)) .nil)))) .nil))))) .nil)))) .nil)))
def b61_6 : Mi.St := (.expr (.lm .append (.v 0) (.cons (.op .mkT (.cons (.lamV 73 l5) (.cons (.op (.mkL false) (.cons (.op (.mkL false) (.cons (.op .mkT (.cons (.c (.int 2)) (.cons (.c (.int 1)) .nil))) (.cons (.op .mkT (.cons (.c (.int 5)) (.cons (.c (.int 1)) .nil))) .nil))) (.cons (.op (.mkL false) (.cons (.op .mkT (.cons (.c (.str 11)) (.cons (.c (.int 2)) .nil))) .nil)) (.cons (.op (.mkL false) (.cons (.c (.int 3)) (.cons (.c (.int 3)) .nil))) (.cons (.op (.mkL false) (.cons (.c (.int 0)) (.cons (.c (.int 1)) (.cons (.c (.int 0)) .nil)))) .nil))))) (.cons (.op (.mkL false) (.cons (.op (.mkL false) (.cons (.op .mkT (.cons (.c (.int 2)) (.cons (.c (.int 1)) .nil))) (.cons (.op .mkT (.cons (.c (.int 5)) (.cons (.c (.int 1)) .nil))) .nil))) (.cons (.op (.mkL false) (.cons (.op .mkT (.cons (.c (.str 11)) (.cons (.c (.int 2)) .nil))) .nil)) (.cons (.op (.mkL false) (.cons (.c (.int 3)) (.cons (.c (.int 3)) .nil))) (.cons (.op (.mkL false) (.cons (.c (.int 1)) (.cons (.c (.int 1)) (.cons (.c (.int 0)) .nil)))) .nil))))) .nil)))) .nil)))
def b61_7 : Mi.St := (.expr (.lm .append (.v 0) (.cons (.op .mkT (.cons (.lamV 74 l6) (.cons (.op (.mkL false) (.cons (.op (.mkL false) (.cons (.op .mkT (.cons (.c (.int 2)) (.cons (.c (.int 1)) .nil))) (.cons (.op .mkT (.cons (.c (.int 5)) (.cons (.c (.int 1)) .nil))) .nil))) (.cons (.op (.mkL false) (.cons (.op .mkT (.cons (.c (.str 11)) (.cons (.c (.int 2)) .nil))) .nil)) (.cons (.op (.mkL false) (.cons (.c (.int 1)) (.cons (.c (.int 0)) .nil))) (.cons (.op (.mkL false) (.cons (.c (.int 0)) (.cons (.c (.int 1)) .nil))) .nil))))) (.cons (.op (.mkL false) (.cons (.op (.mkL false) (.cons (.op .mkT (.cons (.c (.int 2)) (.cons (.c (.int 1)) .nil))) (.cons (.op .mkT (.cons (.c (.int 5)) (.cons (.c (.int 1)) .nil))) .nil))) (.cons (.op (.mkL false) (.cons (.op .mkT (.cons (.c (.str 11)) (.cons (.c (.int 2)) .nil))) .nil)) (.cons (.op (.mkL false) (.cons (.c (.int 0)) (.cons (.c (.int 1)) .nil))) (.cons (.op (.mkL false) (.cons (.c (.int 0)) (.cons (.c (.int 1)) .nil))) .nil))))) .nil)))) .nil)))
def b61_8 : Mi.St := (.expr (.lm .append (.v 0) (.cons (.op .mkT (.cons (.lamV 75 l7) (.cons (.op (.mkL false) (.cons (.op (.mkL false) (.cons (.op .mkT (.cons (.c (.int 2)) (.cons (.c (.int 1)) .nil))) (.cons (.op .mkT (.cons (.c (.int 5)) (.cons (.c (.int 1)) .nil))) .nil))) (.cons (.op (.mkL false) (.cons (.c (.int 0)) (.cons (.c (.int 1)) .nil))) .nil))) (.cons (.op (.mkL false) (.cons (.op (.mkL false) (.cons (.op .mkT (.cons (.c (.int 2)) (.cons (.c (.int 1)) .nil))) (.cons (.op .mkT (.cons (.c (.int 5)) (.cons (.c (.int 1)) .nil))) .nil))) (.cons (.op (.mkL false) (.cons (.c (.int 1)) (.cons (.c (.int 0)) .nil))) .nil))) .nil)))) .nil)))
def b61_9 : Mi.St := (.expr (.lm .append (.v 0) (.cons (.op .mkT (.cons (.lamV 76 l8) (.cons (.op (.mkL false) (.cons (.op (.mkL false) (.cons (.op .mkT (.cons (.c (.int 1)) (.cons (.c (.int 1)) .nil))) (.cons (.op .mkT (.cons (.c (.int 1)) (.cons (.c (.int 2)) .nil))) (.cons (.op .mkT (.cons (.c (.int 2)) (.cons (.c (.int 2)) .nil))) .nil)))) (.cons (.op (.mkL false) (.cons (.c (.int 0)) (.cons (.c (.int 1)) (.cons (.c (.int 1)) .nil)))) .nil))) (.cons (.op (.mkL false) (.cons (.op (.mkL false) (.cons (.op .mkT (.cons (.c (.int 1)) (.cons (.c (.int 1)) .nil))) (.cons (.op .mkT (.cons (.c (.int 1)) (.cons (.c (.int 2)) .nil))) (.cons (.op .mkT (.cons (.c (.int 2)) (.cons (.c (.int 2)) .nil))) .nil)))) (.cons (.op (.mkL false) (.cons (.c (.int 0)) (.cons (.c (.int 1)) (.cons (.c (.int 0)) .nil)))) .nil))) .nil)))) .nil)))
def b61_10 : Mi.St := (.expr (.lm .append (.v 0) (.cons (.op .mkT (.cons (.lamV 77 l9) (.cons (.op (.mkL false) (.cons (.op (.mkL false) (.cons (.op .mkT (.cons (.c (.int 1)) (.cons (.c (.int 1)) .nil))) (.cons (.op .mkT (.cons (.c (.int 1)) (.cons (.c (.int 2)) .nil))) (.cons (.op .mkT (.cons (.c (.int 2)) (.cons (.c (.int 2)) .nil))) .nil)))) (.cons (.op (.mkL false) (.cons (.c (.int 0)) (.cons (.c (.int 1)) (.cons (.c (.int 1)) .nil)))) .nil))) (.cons (.op (.mkL false) (.cons (.op (.mkL false) (.cons (.op .mkT (.cons (.c (.int 1)) (.cons (.c (.int 1)) .nil))) (.cons (.op .mkT (.cons (.c (.int 1)) (.cons (.c (.int 2)) .nil))) (.cons (.op .mkT (.cons (.c (.int 2)) (.cons (.c (.int 2)) .nil))) .nil)))) (.cons (.op (.mkL false) (.cons (.c (.int 0)) (.cons (.c (.int 1)) (.cons (.c (.int 0)) .nil)))) .nil))) .nil)))) .nil)))
def b61_11 : Mi.St := (.expr (.lm .append (.v 0) (.cons (.op .mkT (.cons (.lamV 78 l10) (.cons (.op (.mkL false) (.cons (.op (.mkL false) (.cons (.op .mkT (.cons (.c (.int 1)) (.cons (.c (.int 1)) .nil))) (.cons (.op .mkT (.cons (.c (.int 2)) (.cons (.c (.int 1)) .nil))) .nil))) .nil)) (.cons (.op (.mkL false) (.cons (.op (.mkL false) (.cons (.op .mkT (.cons (.c (.int 1)) (.cons (.c (.int 1)) .nil))) (.cons (.op .mkT (.cons (.c (.int 2)) (.cons (.c (.int 2)) .nil))) .nil))) .nil)) .nil)))) .nil)))
def b61_12 : Mi.St := (.expr (.lm .append (.v 0) (.cons (.op .mkT (.cons (.lamV 79 l11) (.cons (.op (.mkL false) (.cons (.op (.mkL false) (.cons (.op .mkT (.cons (.c (.int 1)) (.cons (.c (.int 1)) .nil))) (.cons (.op .mkT (.cons (.c (.int 2)) (.cons (.c (.int 2)) .nil))) .nil))) .nil)) (.cons (.op (.mkL false) (.cons (.op (.mkL false) (.cons (.op .mkT (.cons (.c (.int 1)) (.cons (.c (.int 1)) .nil))) (.cons (.op .mkT (.cons (.c (.int 3)) (.cons (.c (.int 3)) .nil))) .nil))) .nil)) .nil)))) .nil)))
def b61_13 : Mi.St := (.ret (.v 0))
def d61 : FDef := ⟨0, 1, 1, (.cons b61_0 (.cons b61_1 (.cons b61_2 (.cons b61_3 (.cons b61_4 (.cons b61_5 (.cons b61_6 (.cons b61_7 (.cons b61_8 (.cons b61_9 (.cons b61_10 (.cons b61_11 (.cons b61_12 (.cons b61_13 .nil))))))))))))))⟩
def b62_0 : Mi.St := (.asg (.nm 0) (.op (.mkL true) .nil))
def b62_1 : Mi.St := (.expr (.lm .append (.v 0) (.cons (.op .mkT (.cons (.lamV 80 l12) (.cons (.op (.mkL false) (.cons (.op (.mkL false) (.cons (.op .mkT (.cons (.c (.int 1)) (.cons (.c (.int 1)) .nil))) (.cons (.op .mkT (.cons (.c (.int 2)) (.cons (.c (.int 2)) .nil))) .nil))) (.cons (.c (.int 0)) .nil))) (.cons (.op (.mkL false) (.cons (.op (.mkL false) (.cons (.op .mkT (.cons (.c (.int 1)) (.cons (.c (.int 1)) .nil))) (.cons (.op .mkT (.cons (.c (.int 2)) (.cons (.c (.int 2)) .nil))) .nil))) (.cons (.c (.int 1)) .nil))) .nil)))) .nil)))
def b62_2 : Mi.St := (.expr (.lm .append (.v 0) (.cons (.op .mkT (.cons (.lamV 81 l13) (.cons (.op (.mkL false) (.cons (.op (.mkL false) (.cons (.op .mkT (.cons (.c (.int 2)) (.cons (.c (.int 1)) .nil))) (.cons (.op .mkT (.cons (.c (.int 5)) (.cons (.c (.int 1)) .nil))) .nil))) (.cons (.op (.mkL false) (.cons (.op .mkT (.cons (.c (.str 11)) (.cons (.c (.int 2)) .nil))) .nil)) (.cons (.op (.mkL false) (.cons (.c (.int 1)) (.cons (.c (.int 1)) .nil))) (.cons (.op (.mkL false) (.cons (.op .mkT (.cons (.c (.str 9)) (.cons (.c (.int 0)) (.cons (.c (.int 0)) .nil)))) .nil)) .nil))))) (.cons (.op (.mkL false) (.cons (.op (.mkL false) (.cons (.op .mkT (.cons (.c (.int 2)) (.cons (.c (.int 1)) .nil))) (.cons (.op .mkT (.cons (.c (.int 5)) (.cons (.c (.int 1)) .nil))) .nil))) (.cons (.op (.mkL false) (.cons (.op .mkT (.cons (.c (.str 11)) (.cons (.c (.int 2)) .nil))) .nil)) (.cons (.op (.mkL false) (.cons (.c (.int 0)) (.cons (.c (.int 1)) .nil))) (.cons (.op (.mkL false) (.cons (.op .mkT (.cons (.c (.str 9)) (.cons (.c (.int 0)) (.cons (.c (.int 0)) .nil)))) .nil)) .nil))))) .nil)))) .nil)))
def b62_3 : Mi.St := (.expr (.lm .append (.v 0) (.cons (.op .mkT (.cons (.lamV 82 l14) (.cons (.op (.mkL false) (.cons (.op (.mkL false) (.cons (.op .mkT (.cons (.c (.int 2)) (.cons (.c (.int 1)) .nil))) (.cons (.op .mkT (.cons (.c (.int 5)) (.cons (.c (.int 1)) .nil))) .nil))) (.cons (.op (.mkL false) (.cons (.op .mkT (.cons (.c (.str 11)) (.cons (.c (.int 2)) .nil))) .nil)) (.cons (.op (.mkL false) (.cons (.c (.int 1)) (.cons (.c (.int 1)) .nil))) (.cons (.op (.mkL false) (.cons (.op .mkT (.cons (.c (.str 9)) (.cons (.c (.int 0)) (.cons (.c (.int 0)) .nil)))) .nil)) .nil))))) (.cons (.op (.mkL false) (.cons (.op (.mkL false) (.cons (.op .mkT (.cons (.c (.int 2)) (.cons (.c (.int 1)) .nil))) (.cons (.op .mkT (.cons (.c (.int 5)) (.cons (.c (.int 1)) .nil))) .nil))) (.cons (.op (.mkL false) (.cons (.op .mkT (.cons (.c (.str 11)) (.cons (.c (.int 2)) .nil))) .nil)) (.cons (.op (.mkL false) (.cons (.c (.int 1)) (.cons (.c (.int 1)) .nil))) (.cons (.op (.mkL false) (.cons (.op .mkT (.cons (.c (.str 9)) (.cons (.c (.int 0)) (.cons (.c (.int 1)) .nil)))) .nil)) .nil))))) .nil)))) .nil)))
def b62_4 : Mi.St := (.expr (.lm .append (.v 0) (.cons (.op .mkT (.cons (.lamV 83 l15) (.cons (.op (.mkL false) (.cons (.op (.mkL false) (.cons (.op .mkT (.cons (.c (.str 11)) (.cons (.c (.int 5)) .nil))) .nil)) (.cons (.op (.mkL false) (.cons (.op .mkT (.cons (.c (.str 11)) (.cons (.c (.int 5)) .nil))) .nil)) .nil))) (.cons (.op (.mkL false) (.cons (.op (.mkL false) (.cons (.op .mkT (.cons (.c (.str 11)) (.cons (.c (.int 5)) .nil))) .nil)) (.cons (.op (.mkL false) (.cons (.op .mkT (.cons (.c (.str 11)) (.cons (.c (.int 6)) .nil))) .nil)) .nil))) .nil)))) .nil)))
def b62_5 : Mi.St := (.expr (.lm .append (.v 0) (.cons (.op .mkT (.cons (.lamV 84 l16) (.cons (.op (.mkL false) (.cons (.op (.mkL false) (.cons (.op .mkT (.cons (.c (.str 11)) (.cons (.c (.int 5)) .nil))) .nil)) (.cons (.op (.mkL false) (.cons (.op .mkT (.cons (.c (.str 11)) (.cons (.c (.int 6)) .nil))) .nil)) .nil))) (.cons (.op (.mkL false) (.cons (.op (.mkL false) (.cons (.op .mkT (.cons (.c (.str 11)) (.cons (.c (.int 6)) .nil))) .nil)) (.cons (.op (.mkL false) (.cons (.op .mkT (.cons (.c (.str 11)) (.cons (.c (.int 6)) .nil))) .nil)) .nil))) .nil)))) .nil)))
def b62_6 : Mi.St := (.expr (.lm .append (.v 0) (.cons (.op .mkT (.cons (.lamV 85 l17) (.cons (.op (.mkL false) (.cons (.op (.mkL false) (.cons (.op .mkT (.cons (.c (.int 2)) (.cons (.c (.int 1)) .nil))) (.cons (.op .mkT (.cons (.c (.int 5)) (.cons (.c (.int 1)) .nil))) .nil))) (.cons (.op (.mkL false) (.cons (.c (.int 0)) (.cons (.c (.int 1)) .nil))) .nil))) (.cons (.op (.mkL false) (.cons (.op (.mkL false) (.cons (.op .mkT (.cons (.c (.int 2)) (.cons (.c (.int 1)) .nil))) (.cons (.op .mkT (.cons (.c (.int 5)) (.cons (.c (.int 1)) .nil))) .nil))) (.cons (.op (.mkL false) (.cons (.c (.int 1)) (.cons (.c (.int 0)) .nil))) .nil))) .nil)))) .nil)))
def b62_7 : Mi.St := (.expr (.lm .append (.v 0) (.cons (.op .mkT (.cons (.lamV 86 l18) (.cons (.op (.mkL false) (.cons (.op (.mkL false) (.cons (.op .mkT (.cons (.c (.int 1)) (.cons (.c (.int 1)) .nil))) (.cons (.op .mkT (.cons (.c (.int 1)) (.cons (.c (.int 2)) .nil))) (.cons (.op .mkT (.cons (.c (.int 2)) (.cons (.c (.int 2)) .nil))) .nil)))) (.cons (.op (.mkL false) (.cons (.c (.int 0)) (.cons (.c (.int 1)) (.cons (.c (.int 1)) .nil)))) .nil))) (.cons (.op (.mkL false) (.cons (.op (.mkL false) (.cons (.op .mkT (.cons (.c (.int 1)) (.cons (.c (.int 1)) .nil))) (.cons (.op .mkT (.cons (.c (.int 1)) (.cons (.c (.int 2)) .nil))) (.cons (.op .mkT (.cons (.c (.int 2)) (.cons (.c (.int 2)) .nil))) .nil)))) (.cons (.op (.mkL false) (.cons (.c (.int 0)) (.cons (.c (.int 1)) (.cons (.c (.int 0)) .nil)))) .nil))) .nil)))) .nil)))
def b62_8 : Mi.St := (.expr (.lm .append (.v 0) (.cons (.op .mkT (.cons (.lamV 87 l19) (.cons (.op (.mkL false) (.cons (.op (.mkL false) (.cons (.op .mkT (.cons (.c (.int 1)) (.cons (.c (.int 1)) .nil))) (.cons (.op .mkT (.cons (.c (.int 1)) (.cons (.c (.int 2)) .nil))) (.cons (.op .mkT (.cons (.c (.int 2)) (.cons (.c (.int 2)) .nil))) .nil)))) (.cons (.op (.mkL false) (.cons (.c (.int 0)) (.cons (.c (.int 1)) (.cons (.c (.int 0)) .nil)))) .nil))) (.cons (.op (.mkL false) (.cons (.op (.mkL false) (.cons (.op .mkT (.cons (.c (.int 1)) (.cons (.c (.int 1)) .nil))) (.cons (.op .mkT (.cons (.c (.int 1)) (.cons (.c (.int 2)) .nil))) (.cons (.op .mkT (.cons (.c (.int 2)) (.cons (.c (.int 2)) .nil))) .nil)))) (.cons (.op (.mkL false) (.cons (.c (.int 0)) (.cons (.c (.int 1)) (.cons (.c (.int 1)) .nil)))) .nil))) .nil)))) .nil)))
def b62_9 : Mi.St := (.expr (.lm .append (.v 0) (.cons (.op .mkT (.cons (.lamV 88 l20) (.cons (.op (.mkL false) (.cons (.op (.mkL false) (.cons (.op .mkT (.cons (.c (.int 2)) (.cons (.c (.int 1)) .nil))) (.cons (.op .mkT (.cons (.c (.int 5)) (.cons (.c (.int 1)) .nil))) .nil))) (.cons (.op (.mkL false) (.cons (.op .mkT (.cons (.c (.str 11)) (.cons (.c (.int 2)) .nil))) .nil)) (.cons (.op (.mkL false) (.cons (.c (.int 3)) (.cons (.c (.int 3)) .nil))) (.cons (.op (.mkL false) (.cons (.c (.int 0)) (.cons (.c (.int 1)) (.cons (.c (.int 0)) .nil)))) .nil))))) (.cons (.op (.mkL false) (.cons (.op (.mkL false) (.cons (.op .mkT (.cons (.c (.int 2)) (.cons (.c (.int 1)) .nil))) (.cons (.op .mkT (.cons (.c (.int 5)) (.cons (.c (.int 1)) .nil))) .nil))) (.cons (.op (.mkL false) (.cons (.op .mkT (.cons (.c (.str 11)) (.cons (.c (.int 5)) .nil))) .nil)) (.cons (.op (.mkL false) (.cons (.c (.int 3)) (.cons (.c (.int 3)) .nil))) (.cons (.op (.mkL false) (.cons (.c (.int 0)) (.cons (.c (.int 1)) (.cons (.c (.int 0)) .nil)))) .nil))))) .nil)))) .nil)))
def b62_10 : Mi.St := (.expr (.lm .append (.v 0) (.cons (.op .mkT (.cons (.lamV 89 l21) (.cons (.op (.mkL false) (.cons (.op (.mkL false) (.cons (.op .mkT (.cons (.c (.int 2)) (.cons (.c (.int 1)) .nil))) (.cons (.op .mkT (.cons (.c (.int 5)) (.cons (.c (.int 1)) .nil))) .nil))) (.cons (.op (.mkL false) (.cons (.op .mkT (.cons (.c (.str 11)) (.cons (.c (.int 2)) .nil))) .nil)) (.cons (.op (.mkL false) (.cons (.c (.int 1)) (.cons (.c (.int 0)) .nil))) (.cons (.op (.mkL false) (.cons (.c (.int 0)) (.cons (.c (.int 1)) .nil))) .nil))))) (.cons (.op (.mkL false) (.cons (.op (.mkL false) (.cons (.op .mkT (.cons (.c (.int 2)) (.cons (.c (.int 1)) .nil))) (.cons (.op .mkT (.cons (.c (.int 5)) (.cons (.c (.int 1)) .nil))) .nil))) (.cons (.op (.mkL false) (.cons (.op .mkT (.cons (.c (.str 11)) (.cons (.c (.int 2)) .nil))) .nil)) (.cons (.op (.mkL false) (.cons (.c (.int 0)) (.cons (.c (.int 1)) .nil))) (.cons (.op (.mkL false) (.cons (.c (.int 0)) (.cons (.c (.int 1)) .nil))) .nil))))) .nil)))) .nil)))
def b62_11 : Mi.St := (.ret (.v 0))
def d62 : FDef := ⟨0, 1, 1, (.cons b62_0 (.cons b62_1 (.cons b62_2 (.cons b62_3 (.cons b62_4 (.cons b62_5 (.cons b62_6 (.cons b62_7 (.cons b62_8 (.cons b62_9 (.cons b62_10 (.cons b62_11 .nil))))))))))))⟩
def b63_0 : Mi.St := (.asg (.nm 0) (.op (.mkL true) .nil))
def b63_1 : Mi.St := (.expr (.lm .append (.v 0) (.cons (.op .mkT (.cons (.lamV 90 l22) (.cons (.op (.mkL false) (.cons (.op (.mkL false) (.cons (.op .mkT (.cons (.c (.int 2)) (.cons (.c (.int 1)) .nil))) (.cons (.op .mkT (.cons (.c (.int 5)) (.cons (.c (.int 1)) .nil))) .nil))) (.cons (.op (.mkL false) (.cons (.op .mkT (.cons (.c (.str 11)) (.cons (.c (.int 2)) .nil))) .nil)) (.cons (.op (.mkL false) (.cons (.c (.int 1)) (.cons (.c (.int 1)) .nil))) (.cons (.op (.mkL false) (.cons (.op .mkT (.cons (.c (.str 9)) (.cons (.c (.int 0)) (.cons (.c (.int 0)) .nil)))) .nil)) .nil))))) (.cons (.op (.mkL false) (.cons (.op (.mkL false) (.cons (.op .mkT (.cons (.c (.int 2)) (.cons (.c (.int 1)) .nil))) (.cons (.op .mkT (.cons (.c (.int 5)) (.cons (.c (.int 1)) .nil))) .nil))) (.cons (.op (.mkL false) (.cons (.op .mkT (.cons (.c (.str 11)) (.cons (.c (.int 2)) .nil))) .nil)) (.cons (.op (.mkL false) (.cons (.c (.int 0)) (.cons (.c (.int 1)) .nil))) (.cons (.op (.mkL false) (.cons (.op .mkT (.cons (.c (.str 9)) (.cons (.c (.int 0)) (.cons (.c (.int 0)) .nil)))) .nil)) .nil))))) .nil)))) .nil)))
def b63_2 : Mi.St := (.expr (.lm .append (.v 0) (.cons (.op .mkT (.cons (.lamV 91 l23) (.cons (.op (.mkL false) (.cons (.op (.mkL false) (.cons (.op .mkT (.cons (.c (.int 2)) (.cons (.c (.int 1)) .nil))) (.cons (.op .mkT (.cons (.c (.int 5)) (.cons (.c (.int 1)) .nil))) .nil))) (.cons (.op (.mkL false) (.cons (.op .mkT (.cons (.c (.str 11)) (.cons (.c (.int 2)) .nil))) .nil)) (.cons (.op (.mkL false) (.cons (.c (.int 0)) (.cons (.c (.int 1)) .nil))) (.cons (.op (.mkL false) (.cons (.op .mkT (.cons (.c (.str 9)) (.cons (.c (.int 0)) (.cons (.c (.int 0)) .nil)))) .nil)) .nil))))) (.cons (.op (.mkL false) (.cons (.op (.mkL false) (.cons (.op .mkT (.cons (.c (.int 2)) (.cons (.c (.int 1)) .nil))) (.cons (.op .mkT (.cons (.c (.int 5)) (.cons (.c (.int 1)) .nil))) .nil))) (.cons (.op (.mkL false) (.cons (.op .mkT (.cons (.c (.str 11)) (.cons (.c (.int 2)) .nil))) .nil)) (.cons (.op (.mkL false) (.cons (.c (.int 1)) (.cons (.c (.int 1)) .nil))) (.cons (.op (.mkL false) (.cons (.op .mkT (.cons (.c (.str 9)) (.cons (.c (.int 0)) (.cons (.c (.int 0)) .nil)))) .nil)) .nil))))) .nil)))) .nil)))
def b63_3 : Mi.St := (.expr (.lm .append (.v 0) (.cons (.op .mkT (.cons (.lamV 92 l24) (.cons (.op (.mkL false) (.cons (.op (.mkL false) (.cons (.op .mkT (.cons (.c (.int 1)) (.cons (.c (.int 1)) .nil))) (.cons (.op .mkT (.cons (.c (.int 2)) (.cons (.c (.int 2)) .nil))) .nil))) (.cons (.op (.mkL false) (.cons (.op .mkT (.cons (.c (.str 11)) (.cons (.c (.int 1)) .nil))) .nil)) .nil))) (.cons (.op (.mkL false) (.cons (.op (.mkL false) (.cons (.op .mkT (.cons (.c (.int 1)) (.cons (.c (.int 1)) .nil))) (.cons (.op .mkT (.cons (.c (.int 2)) (.cons (.c (.int 2)) .nil))) .nil))) (.cons (.op (.mkL false) (.cons (.op .mkT (.cons (.c (.str 5)) (.cons (.c (.int 2)) .nil))) .nil)) .nil))) .nil)))) .nil)))
def b63_4 : Mi.St := (.expr (.lm .append (.v 0) (.cons (.op .mkT (.cons (.lamV 93 l25) (.cons (.op (.mkL false) (.cons (.op (.mkL false) (.cons (.op .mkT (.cons (.c (.int 2)) (.cons (.c (.int 1)) .nil))) (.cons (.op .mkT (.cons (.c (.int 5)) (.cons (.c (.int 1)) .nil))) .nil))) (.cons (.op (.mkL false) (.cons (.c (.int 1)) (.cons (.c (.int 0)) .nil))) .nil))) (.cons (.op (.mkL false) (.cons (.op (.mkL false) (.cons (.op .mkT (.cons (.c (.int 2)) (.cons (.c (.int 1)) .nil))) (.cons (.op .mkT (.cons (.c (.int 5)) (.cons (.c (.int 1)) .nil))) .nil))) (.cons (.op (.mkL false) (.cons (.c (.int 0)) (.cons (.c (.int 1)) .nil))) .nil))) .nil)))) .nil)))
def b63_5 : Mi.St := (.expr (.lm .append (.v 0) (.cons (.op .mkT (.cons (.lamV 94 l26) (.cons (.op (.mkL false) (.cons (.op (.mkL false) (.cons (.op .mkT (.cons (.c (.int 2)) (.cons (.c (.int 1)) .nil))) (.cons (.op .mkT (.cons (.c (.int 5)) (.cons (.c (.int 1)) .nil))) .nil))) (.cons (.op (.mkL false) (.cons (.c (.int 0)) (.cons (.c (.int 1)) .nil))) .nil))) (.cons (.op (.mkL false) (.cons (.op (.mkL false) (.cons (.op .mkT (.cons (.c (.int 2)) (.cons (.c (.int 1)) .nil))) (.cons (.op .mkT (.cons (.c (.int 6)) (.cons (.c (.int 1)) .nil))) .nil))) (.cons (.op (.mkL false) (.cons (.c (.int 0)) (.cons (.c (.int 1)) .nil))) .nil))) .nil)))) .nil)))
def b63_6 : Mi.St := (.ret (.v 0))
def d63 : FDef := ⟨0, 1, 1, (.cons b63_0 (.cons b63_1 (.cons b63_2 (.cons b63_3 (.cons b63_4 (.cons b63_5 (.cons b63_6 .nil)))))))⟩
def b64_0 : Mi.St := (.asg (.nm 0) (.op (.slc false false true) (.cons (.v 0) (.cons (.c (.int 63)) .nil))))
def b64_1 : Mi.St := (.asg (.nm 1) (.op (.add false) (.cons (.op (.add false) (.cons (.call 61 .nil) (.cons (.call 62 .nil) .nil))) (.cons (.call 63 .nil) .nil))))
def b64_2 : Mi.St := (.asg (.nm 2) (.op .mod (.cons (.op .abs (.cons (.call 55 (.cons (.v 0) (.cons (.c (.int 0)) .nil))) .nil)) (.cons (.op .len (.cons (.v 1) .nil)) .nil))))
def b64_3 : Mi.St := (.for_ (.tp (.cons (.nm 3) (.cons (.nm 4) (.cons (.nm 5) .nil)))) (.seq (.op (.add false) (.cons (.op (.slc false true false) (.cons (.v 1) (.cons (.v 2) .nil))) (.cons (.op (.slc false false true) (.cons (.v 1) (.cons (.v 2) .nil))) .nil)))) (.cons (.ite (.not (.call 59 (.cons (.v 3) (.cons (.v 4) (.cons (.v 5) .nil))))) (.cons (.ret (.c (.bl false))) .nil) .nil) .nil))
def b64_4 : Mi.St := (.ret (.c (.bl true)))
def d64 : FDef := ⟨1, 6, 0, (.cons b64_0 (.cons b64_1 (.cons b64_2 (.cons b64_3 (.cons b64_4 .nil)))))⟩
def b65_0 : Mi.St := (.expr (.call 3 (.cons (.v 0) .nil)))
def b65_1 : Mi.St := (.expr (.call 6 (.cons (.v 1) .nil)))
def b65_2 : Mi.St := (.ret (.call 66 (.cons (.v 0) (.cons (.v 1) .nil))))
def d65 : FDef := ⟨2, 2, 0, (.cons b65_0 (.cons b65_1 (.cons b65_2 .nil)))⟩
def b66_0 : Mi.St := (.ret (.comp true [2] (.nm 2) (.seq (.v 0)) .nil (.call 13 (.cons (.v 1) (.cons (.v 2) .nil)))))
def d66 : FDef := ⟨2, 3, 0, (.cons b66_0 .nil)⟩
def b67_0 : Mi.St := (.expr (.call 3 (.cons (.v 0) .nil)))
def b67_1 : Mi.St := (.par [2, 3, 4] (.cons (.call 44 (.cons (.v 0) .nil)) (.cons (.op .tupleR (.cons (.op .len (.cons (.v 0) .nil)) .nil)) (.cons (.op (.mkL true) .nil) .nil))))
def b67_2 : Mi.St := (.ite (.not (.call 1 (.cons (.v 1) (.cons (.c (.int 0)) (.cons (.op .sub (.cons (.op .idx (.cons (.v 2) (.cons (.v 3) .nil))) (.cons (.c (.int 1)) .nil))) .nil))))) (.cons (.raise 5) .nil) .nil)
def b67_3 : Mi.St := (.whl (.op .gt (.cons (.op .len (.cons (.v 3) .nil)) (.cons (.c (.int 1)) .nil))) (.cons (.for_ (.tp (.cons (.nm 5) (.cons (.nm 6) .nil))) (.seq (.call 43 (.cons (.v 0) (.cons (.v 3) .nil)))) (.cons (.ite (.op .lt (.cons (.v 1) (.cons (.op .idx (.cons (.v 2) (.cons (.v 6) .nil))) .nil))) (.cons (.expr (.lm .append (.v 4) (.cons (.v 5) .nil))) (.cons (.asg (.nm 3) (.v 6)) (.cons .brk .nil))) .nil) (.cons (.aug 1 .sub (.op .idx (.cons (.v 2) (.cons (.v 6) .nil)))) .nil))) .nil))
def b67_4 : Mi.St := (.ret (.v 4))
def d67 : FDef := ⟨2, 7, 0, (.cons b67_0 (.cons b67_1 (.cons b67_2 (.cons b67_3 (.cons b67_4 .nil)))))⟩
def d68 : FDef := ⟨1, 1, 0, .cons (.ret l0) .nil⟩
def d69 : FDef := ⟨1, 1, 0, .cons (.ret l1) .nil⟩
def d70 : FDef := ⟨1, 1, 0, .cons (.ret l2) .nil⟩
def d71 : FDef := ⟨1, 1, 0, .cons (.ret l3) .nil⟩
def d72 : FDef := ⟨1, 1, 0, .cons (.ret l4) .nil⟩
def d73 : FDef := ⟨1, 1, 0, .cons (.ret l5) .nil⟩
def d74 : FDef := ⟨1, 1, 0, .cons (.ret l6) .nil⟩
def d75 : FDef := ⟨1, 1, 0, .cons (.ret l7) .nil⟩
def d76 : FDef := ⟨1, 1, 0, .cons (.ret l8) .nil⟩
def d77 : FDef := ⟨1, 1, 0, .cons (.ret l9) .nil⟩
def d78 : FDef := ⟨1, 1, 0, .cons (.ret l10) .nil⟩
def d79 : FDef := ⟨1, 1, 0, .cons (.ret l11) .nil⟩
def d80 : FDef := ⟨1, 1, 0, .cons (.ret l12) .nil⟩
def d81 : FDef := ⟨1, 1, 0, .cons (.ret l13) .nil⟩
def d82 : FDef := ⟨1, 1, 0, .cons (.ret l14) .nil⟩
def d83 : FDef := ⟨1, 1, 0, .cons (.ret l15) .nil⟩
def d84 : FDef := ⟨1, 1, 0, .cons (.ret l16) .nil⟩
def d85 : FDef := ⟨1, 1, 0, .cons (.ret l17) .nil⟩
def d86 : FDef := ⟨1, 1, 0, .cons (.ret l18) .nil⟩
def d87 : FDef := ⟨1, 1, 0, .cons (.ret l19) .nil⟩
def d88 : FDef := ⟨1, 1, 0, .cons (.ret l20) .nil⟩
def d89 : FDef := ⟨1, 1, 0, .cons (.ret l21) .nil⟩
def d90 : FDef := ⟨1, 1, 0, .cons (.ret l22) .nil⟩
def d91 : FDef := ⟨1, 1, 0, .cons (.ret l23) .nil⟩
def d92 : FDef := ⟨1, 1, 0, .cons (.ret l24) .nil⟩
def d93 : FDef := ⟨1, 1, 0, .cons (.ret l25) .nil⟩
def d94 : FDef := ⟨1, 1, 0, .cons (.ret l26) .nil⟩
def cs : List CDef := [⟨none, [], [], [], false, false, false⟩, ⟨none, [], [], [], false, false, true⟩, ⟨none, [], [], [], false, false, true⟩, ⟨none, [], [], [], false, false, true⟩, ⟨none, [], [], [], false, false, true⟩, ⟨none, [], [], [], false, false, true⟩, ⟨none, [], [], [], false, false, true⟩, ⟨none, [], [], [], false, false, true⟩, ⟨none, [], [], [], false, false, true⟩, ⟨none, [], [], [], false, false, true⟩, ⟨none, [], [], [], false, false, false⟩, ⟨none, [(9, 20)], [11], [], true, true, false⟩, ⟨some 21, [(9, 22)], [], [11, 12], true, false, false⟩, ⟨some 23, [(9, 24)], [13], [1], true, true, false⟩, ⟨some 25, [(9, 26)], [], [0, 3, 4, 6, 7], true, false, false⟩, ⟨some 27, [(9, 28)], [15], [1], true, true, false⟩, ⟨some 29, [(9, 30)], [], [10], true, false, false⟩, ⟨some 31, [(9, 32)], [], [2], true, false, false⟩, ⟨some 33, [(9, 34)], [], [8], true, false, false⟩, ⟨none, [(9, 35)], [19], [], true, true, false⟩, ⟨some 36, [(9, 37)], [], [5], true, false, false⟩]
def asks : List (Nat × AskT) := []
def pr : Prog := ⟨[d0, d1, d2, d3, d4, d5, d6, d7, d8, d9, d10, d11, d12, d13, d14, d15, d16, d17, d18, d19, d20, d21, d22, d23, d24, d25, d26, d27, d28, d29, d30, d31, d32, d33, d34, d35, d36, d37, d38, d39, d40, d41, d42, d43, d44, d45, d46, d47, d48, d49, d50, d51, d52, d53, d54, d55, d56, d57, d58, d59, d60, d61, d62, d63, d64, d65, d66, d67, d68, d69, d70, d71, d72, d73, d74, d75, d76, d77, d78, d79, d80, d81, d82, d83, d84, d85, d86, d87, d88, d89, d90, d91, d92, d93, d94], cs, asks⟩
end K15
namespace K15
open PySem L2 Mi
def top (i : Nat) : Stmt := PySem.Challenge.pw_coinchute_k15_whole_handed.main.body.getD i (.Pass ⟨0, 0, 0, 0⟩)
def tx : Tx := ⟨["a box for each kind is due", "a group for each kind is due", "a least chute is due", "a number of a least chute is due", "a room for each box is due", "arm", "at most sixty coins are due", "at most sixty lines are due", "at most two dozen holes and arms are due", "coin", "empty", "hole", "kinds are due", "one to twenty kinds are due", "unlike widths and weights are due"], ["box", "chute", "counts", "last", "later", "line", "one", "other", "place", "shows", "some", "weight", "width"], [some ("is_whole" : Str), some ("is_within" : Str), some ("is_kind" : Str), some ("check_kinds" : Str), some ("is_station" : Str), some ("is_chute" : Str), some ("check_chute" : Str), some ("are_numbers" : Str), some ("check_wish" : Str), some ("check_groups" : Str), some ("check_rooms" : Str), some ("check_row" : Str), some ("falls" : Str), some ("box_of" : Str), some ("boxes_of" : Str), some ("first_wrong" : Str), some ("same_groups" : Str), some ("narrowest" : Str), some ("heaviest" : Str), some ("jam_of" : Str), none, none, none, none, none, none, none, none, none, none, none, none, none, none, none, none, none, none, some ("bounds_of" : Str), some ("coin_apart" : Str), some ("boxes" : Str), some ("compared" : Str), some ("run" : Str), some ("steps_of" : Str), some ("counts_of" : Str), some ("how_many" : Str), some ("chute_by" : Str), some ("is_least" : Str), some ("number_of" : Str), some ("fitting" : Str), some ("drops" : Str), some ("sorting" : Str), some ("fewest" : Str), some ("is_word" : Str), some ("judged" : Str), some ("_law_cell_at" : Str), some ("_law_copy" : Str), some ("_law_into" : Str), some ("_law_spoil" : Str), some ("_law_door_right" : Str), some ("_law_laid_twice" : Str), some ("_law_rows_one" : Str), some ("_law_rows_two" : Str), some ("_law_rows_three" : Str), some ("law" : Str), some ("boxes" : Str), some ("boxes_of" : Str), some ("chute_by" : Str)], ["ChuteError", "BadKinds", "BadChute", "BadWish", "BadGroups", "BadNumber", "BadRooms", "BadRow", "BadTale", "NotOne", "Answer", "Alike", "Apart", "Fit", "Bars", "Sorts", "Knot", "Ran", "Jam", "Right", "Wrong"], [("MOST_KINDS", 20), ("MOST_STATIONS", 24), ("GREATEST", 100), ("MOST_ROOM", 20), ("LONGEST", 60)], [(68, l0), (69, l1), (70, l2), (71, l3), (72, l4), (73, l5), (74, l6), (75, l7), (76, l8), (77, l9), (78, l10), (79, l11), (80, l12), (81, l13), (82, l14), (83, l15), (84, l16), (85, l17), (86, l18), (87, l19), (88, l20), (89, l21), (90, l22), (91, l23), (92, l24), (93, l25), (94, l26)]⟩
def f0 : FAt := ⟨("is_whole", none), ⟨"is_whole", "is_whole", top 17, ["thing"], ["thing"]⟩⟩
def f1 : FAt := ⟨("is_within", none), ⟨"is_within", "is_within", top 18, ["thing", "low", "high"], ["thing", "low", "high"]⟩⟩
def f2 : FAt := ⟨("is_kind", none), ⟨"is_kind", "is_kind", top 19, ["thing"], ["thing", "one"]⟩⟩
def f3 : FAt := ⟨("check_kinds", none), ⟨"check_kinds", "check_kinds", top 20, ["kinds"], ["kinds", "kind"]⟩⟩
def f4 : FAt := ⟨("is_station", none), ⟨"is_station", "is_station", top 21, ["thing"], ["thing"]⟩⟩
def f5 : FAt := ⟨("is_chute", none), ⟨"is_chute", "is_chute", top 22, ["thing"], ["thing", "one"]⟩⟩
def f6 : FAt := ⟨("check_chute", none), ⟨"check_chute", "check_chute", top 23, ["chute"], ["chute"]⟩⟩
def f7 : FAt := ⟨("are_numbers", none), ⟨"are_numbers", "are_numbers", top 24, ["thing", "many", "greatest"], ["thing", "many", "greatest", "one"]⟩⟩
def f8 : FAt := ⟨("check_wish", none), ⟨"check_wish", "check_wish", top 25, ["kinds", "wish"], ["kinds", "wish"]⟩⟩
def f9 : FAt := ⟨("check_groups", none), ⟨"check_groups", "check_groups", top 26, ["kinds", "groups"], ["kinds", "groups"]⟩⟩
def f10 : FAt := ⟨("check_rooms", none), ⟨"check_rooms", "check_rooms", top 27, ["chute", "rooms"], ["chute", "rooms"]⟩⟩
def f11 : FAt := ⟨("check_row", none), ⟨"check_row", "check_row", top 28, ["kinds", "row"], ["kinds", "row", "kind"]⟩⟩
def f12 : FAt := ⟨("falls", none), ⟨"falls", "falls", top 29, ["station", "coin"], ["station", "coin"]⟩⟩
def f13 : FAt := ⟨("box_of", none), ⟨"box_of", "box_of", top 30, ["chute", "coin"], ["chute", "coin", "box", "station"]⟩⟩
def f14 : FAt := ⟨("boxes_of", none), ⟨"boxes_of", "boxes_of", top 31, ["kinds", "chute"], ["kinds", "chute", "kind"]⟩⟩
def f15 : FAt := ⟨("first_wrong", none), ⟨"first_wrong", "first_wrong", top 33, ["kinds", "chute", "rooms", "tale"], ["kinds", "chute", "rooms", "tale", "counts", "found", "line", "text", "first", "second"]⟩⟩
def f16 : FAt := ⟨("same_groups", none), ⟨"same_groups", "same_groups", top 35, ["groups", "some"], ["groups", "some", "kind"]⟩⟩
def f17 : FAt := ⟨("narrowest", none), ⟨"narrowest", "narrowest", top 36, ["kinds", "some"], ["kinds", "some", "least", "kind"]⟩⟩
def f18 : FAt := ⟨("heaviest", none), ⟨"heaviest", "heaviest", top 37, ["kinds", "some"], ["kinds", "some", "most", "kind"]⟩⟩
def f19 : FAt := ⟨("jam_of", none), ⟨"jam_of", "jam_of", top 38, ["kinds", "chute", "rooms", "row"], ["kinds", "chute", "rooms", "row", "counts", "found", "place", "kind", "box"]⟩⟩
def f20 : FAt := ⟨("Alike", some "shows"), ⟨"shows", "Alike.shows", inClass (top 40) 0, ["self", "one", "other"], ["self", "one", "other"]⟩⟩
def f21 : FAt := ⟨("Apart", some "__init__"), ⟨"__init__", "Apart.__init__", inClass (top 41) 0, ["self", "width", "weight"], ["self", "width", "weight"]⟩⟩
def f22 : FAt := ⟨("Apart", some "shows"), ⟨"shows", "Apart.shows", inClass (top 41) 1, ["self", "one", "other"], ["self", "one", "other", "coin"]⟩⟩
def f23 : FAt := ⟨("Fit", some "__init__"), ⟨"__init__", "Fit.__init__", inClass (top 42) 0, ["self", "chute"], ["self", "chute"]⟩⟩
def f24 : FAt := ⟨("Fit", some "shows"), ⟨"shows", "Fit.shows", inClass (top 42) 1, ["self", "kinds", "wish"], ["self", "kinds", "wish"]⟩⟩
def f25 : FAt := ⟨("Bars", some "__init__"), ⟨"__init__", "Bars.__init__", inClass (top 43) 0, ["self", "box", "one", "later", "other", "last"], ["self", "box", "one", "later", "other", "last"]⟩⟩
def f26 : FAt := ⟨("Bars", some "shows"), ⟨"shows", "Bars.shows", inClass (top 43) 1, ["self", "kinds", "wish"], ["self", "kinds", "wish", "some", "kind"]⟩⟩
def f27 : FAt := ⟨("Sorts", some "__init__"), ⟨"__init__", "Sorts.__init__", inClass (top 44) 0, ["self", "chute"], ["self", "chute"]⟩⟩
def f28 : FAt := ⟨("Sorts", some "shows"), ⟨"shows", "Sorts.shows", inClass (top 44) 1, ["self", "kinds", "groups"], ["self", "kinds", "groups", "found", "one", "kind", "box"]⟩⟩
def f29 : FAt := ⟨("Knot", some "__init__"), ⟨"__init__", "Knot.__init__", inClass (top 45) 0, ["self", "some"], ["self", "some"]⟩⟩
def f30 : FAt := ⟨("Knot", some "shows"), ⟨"shows", "Knot.shows", inClass (top 45) 1, ["self", "kinds", "groups"], ["self", "kinds", "groups", "some", "one", "other", "kind"]⟩⟩
def f31 : FAt := ⟨("Ran", some "__init__"), ⟨"__init__", "Ran.__init__", inClass (top 46) 0, ["self", "counts"], ["self", "counts"]⟩⟩
def f32 : FAt := ⟨("Ran", some "shows"), ⟨"shows", "Ran.shows", inClass (top 46) 1, ["self", "kinds", "chute", "rooms", "row"], ["self", "kinds", "chute", "rooms", "row", "counts", "place"]⟩⟩
def f33 : FAt := ⟨("Jam", some "__init__"), ⟨"__init__", "Jam.__init__", inClass (top 47) 0, ["self", "place"], ["self", "place"]⟩⟩
def f34 : FAt := ⟨("Jam", some "shows"), ⟨"shows", "Jam.shows", inClass (top 47) 1, ["self", "kinds", "chute", "rooms", "row"], ["self", "kinds", "chute", "rooms", "row"]⟩⟩
def f35 : FAt := ⟨("Right", some "shows"), ⟨"shows", "Right.shows", inClass (top 48) 0, ["self", "kinds", "chute", "rooms", "tale"], ["self", "kinds", "chute", "rooms", "tale"]⟩⟩
def f36 : FAt := ⟨("Wrong", some "__init__"), ⟨"__init__", "Wrong.__init__", inClass (top 49) 0, ["self", "line"], ["self", "line"]⟩⟩
def f37 : FAt := ⟨("Wrong", some "shows"), ⟨"shows", "Wrong.shows", inClass (top 49) 1, ["self", "kinds", "chute", "rooms", "tale"], ["self", "kinds", "chute", "rooms", "tale"]⟩⟩
def f38 : FAt := ⟨("bounds_of", none), ⟨"bounds_of", "bounds_of", top 50, ["chutes", "text", "more"], ["chutes", "text", "more", "found", "chute", "sort", "size", "one"]⟩⟩
def f39 : FAt := ⟨("coin_apart", none), ⟨"coin_apart", "coin_apart", top 51, ["one", "other"], ["one", "other", "width", "weight"]⟩⟩
def f40 : FAt := ⟨("boxes", none), ⟨"boxes", "boxes", top 53, ["kinds", "chute"], ["kinds", "chute"]⟩⟩
def f41 : FAt := ⟨("compared", none), ⟨"compared", "compared", top 54, ["one", "other"], ["one", "other", "found"]⟩⟩
def f42 : FAt := ⟨("run", none), ⟨"run", "run", top 55, ["kinds", "chute", "rooms", "row"], ["kinds", "chute", "rooms", "row", "counts", "place"]⟩⟩
def f43 : FAt := ⟨("steps_of", none), ⟨"steps_of", "steps_of", top 57, ["kinds", "some"], ["kinds", "some", "found", "text", "ends", "gone", "size", "kind"]⟩⟩
def f44 : FAt := ⟨("counts_of", none), ⟨"counts_of", "counts_of", top 58, ["kinds"], ["kinds", "found", "line", "some", "lefts", "station", "left"]⟩⟩
def f45 : FAt := ⟨("how_many", none), ⟨"how_many", "how_many", top 59, ["kinds"], ["kinds"]⟩⟩
def f46 : FAt := ⟨("chute_by", none), ⟨"chute_by", "chute_by", top 60, ["kinds", "number"], ["kinds", "number", "counts", "some", "found", "station", "left"]⟩⟩
def f47 : FAt := ⟨("is_least", none), ⟨"is_least", "is_least", top 61, ["kinds", "chute"], ["kinds", "chute", "some", "station", "lefts", "one", "left"]⟩⟩
def f48 : FAt := ⟨("number_of", none), ⟨"number_of", "number_of", top 62, ["kinds", "chute"], ["kinds", "chute", "station", "counts", "some", "found", "one", "left", "there"]⟩⟩
def f49 : FAt := ⟨("fitting", none), ⟨"fitting", "fitting", top 64, ["kinds", "wish"], ["kinds", "wish", "chute", "box", "here", "later", "widest", "narrow", "lightest", "heavy", "kind"]⟩⟩
def f50 : FAt := ⟨("drops", none), ⟨"drops", "drops", top 65, ["kinds", "groups", "some"], ["kinds", "groups", "some", "found", "text", "ends", "left", "size", "gone", "kind"]⟩⟩
def f51 : FAt := ⟨("sorting", none), ⟨"sorting", "sorting", top 66, ["kinds", "groups"], ["kinds", "groups", "some", "chute", "found"]⟩⟩
def f52 : FAt := ⟨("fewest", none), ⟨"fewest", "fewest", top 67, ["kinds", "groups"], ["kinds", "groups", "line", "met", "many", "later", "some", "station", "left"]⟩⟩
def f53 : FAt := ⟨("is_word", none), ⟨"is_word", "is_word", top 69, ["thing"], ["thing"]⟩⟩
def f54 : FAt := ⟨("judged", none), ⟨"judged", "judged", top 70, ["kinds", "chute", "rooms", "tale"], ["kinds", "chute", "rooms", "tale", "line", "word"]⟩⟩
def f55 : FAt := ⟨("_law_cell_at", none), ⟨"_law_cell_at", "_law_cell_at", top 72, ["_law_script", "_law_k"], ["_law_script", "_law_k"]⟩⟩
def f56 : FAt := ⟨("_law_copy", none), ⟨"_law_copy", "_law_copy", top 73, ["_law_thing"], ["_law_thing", "_law_one"]⟩⟩
def f57 : FAt := ⟨("_law_into", none), ⟨"_law_into", "_law_into", top 74, ["_law_handed", "_law_new"], ["_law_handed", "_law_new", "_law_at", "_law_one"]⟩⟩
def f58 : FAt := ⟨("_law_spoil", none), ⟨"_law_spoil", "_law_spoil", top 75, ["_law_found"], ["_law_found", "_law_one"]⟩⟩
def f59 : FAt := ⟨("_law_door_right", none), ⟨"_law_door_right", "_law_door_right", top 76, ["_law_ask", "_law_first", "_law_second"], ["_law_ask", "_law_first", "_law_second", "_law_some", "_law_handed", "_law_dues", "_law_due", "_law_again", "_law_found"]⟩⟩
def f60 : FAt := ⟨("_law_laid_twice", none), ⟨"_law_laid_twice", "_law_laid_twice", top 77, ["_law_some"], ["_law_some", "_law_kept", "_law_one", "_law_other"]⟩⟩
def f61 : FAt := ⟨("_law_rows_one", none), ⟨"_law_rows_one", "_law_rows_one", top 78, [], ["_law_rows"]⟩⟩
def f62 : FAt := ⟨("_law_rows_two", none), ⟨"_law_rows_two", "_law_rows_two", top 79, [], ["_law_rows"]⟩⟩
def f63 : FAt := ⟨("_law_rows_three", none), ⟨"_law_rows_three", "_law_rows_three", top 80, [], ["_law_rows"]⟩⟩
def f64 : FAt := ⟨("law", none), ⟨"law", "law", top 81, ["_law_script"], ["_law_script", "_law_rows", "_law_begin", "_law_ask", "_law_first", "_law_second"]⟩⟩
def f65 : FAt := ⟨("boxes", none), ⟨"boxes", "boxes", top 53, ["kinds", "chute"], ["kinds", "chute"]⟩⟩
def f66 : FAt := ⟨("boxes_of", none), ⟨"boxes_of", "boxes_of", top 31, ["kinds", "chute"], ["kinds", "chute", "kind"]⟩⟩
def f67 : FAt := ⟨("chute_by", none), ⟨"chute_by", "chute_by", top 60, ["kinds", "number"], ["kinds", "number", "counts", "some", "found", "station", "left"]⟩⟩
def fs : List FAt := [f0, f1, f2, f3, f4, f5, f6, f7, f8, f9, f10, f11, f12, f13, f14, f15, f16, f17, f18, f19, f20, f21, f22, f23, f24, f25, f26, f27, f28, f29, f30, f31, f32, f33, f34, f35, f36, f37, f38, f39, f40, f41, f42, f43, f44, f45, f46, f47, f48, f49, f50, f51, f52, f53, f54, f55, f56, f57, f58, f59, f60, f61, f62, f63, f64, f65, f66, f67]
end K15
namespace K15
open PySem PySem.W PySem.Calls PyProof.Rows Mi
abbrev Rw : OpenRow := OpenLaw.row PySem.Challenge.rw_coinchute_k15_whole_handed
abbrev qv : Program := view Rw.prog [81]
def loose0 : List PySem.Str := ["__name__", "ChuteError", "BadKinds", "BadChute", "BadWish", "BadGroups", "BadNumber", "BadRooms", "BadRow", "BadTale", "NotOne", "MOST_KINDS", "MOST_STATIONS", "GREATEST", "MOST_ROOM", "LONGEST", "is_whole", "is_within", "is_kind", "check_kinds", "is_station", "is_chute", "check_chute", "are_numbers", "check_wish", "check_groups", "check_rooms", "check_row", "falls", "box_of"]
def loose1 : List PySem.Str := ["boxes_of", "first_wrong", "same_groups", "narrowest", "heaviest", "jam_of", "Answer", "Alike", "Apart", "Fit", "Bars", "Sorts", "Knot", "Ran", "Jam", "Right", "Wrong", "bounds_of", "coin_apart", "boxes", "compared", "run", "steps_of", "counts_of", "how_many", "chute_by", "is_least", "number_of", "fitting", "drops"]
def loose2 : List PySem.Str := ["sorting", "fewest", "is_word", "judged", "_law_cell_at", "_law_copy", "_law_into", "_law_spoil", "_law_door_right", "_law_laid_twice", "_law_rows_one", "_law_rows_two", "_law_rows_three"]
def loose : List PySem.Str := loose0 ++ loose1 ++ loose2
noncomputable abbrev oo (w : World) (os : OsState) := HandSHeadRun.endF (HandSHeadRun.stepQ (HandSHeadRun.denQ HandSHeadRun.tabQ) Rw.prog w) 8000 Rw.prog w os
theorem topA (w : World) (os : OsState) : (oo w os).map (fun s => HandSHeadRun.looksF Rw.prog (boot_heap w.params) s.abs) = some true := by kernel_rfl
theorem topB (w : World) (os : OsState) : (oo w os).map (fun s => HandSHeadRun.seenQ qv loose (importedModules Rw.prog.main.body) (fun s => xlAt qv [] s && recOk Rw.toRowW.records s) s.abs) = some (openGood qv loose) := by kernel_rfl
abbrev kf (s : SharedT) : PySem.W.Frag := frT (HandSHeadRun.getT s) 4
theorem two {σ : Type} {o : Option σ} {f g h : σ → Bool} (e : ∀ s, h s = (f s && g s)) (hf : o.map f = some true) (hg : o.map g = some true) : o.map h = some true := by
  cases o with
  | none => cases hf
  | some s =>
    simp only [Option.map_some, Option.some.injEq] at hf hg ⊢
    rw [e, hf, hg]; rfl
theorem all_cut {α : Type} (n : Nat) (l : List α) (p : α → Bool) : l.all p = ((l.take n).all p && (l.drop n).all p) := by
  rw [← List.all_append, List.take_append_drop]
theorem topC1 (w : World) (os : OsState) : (oo w os).map (fun s => (fs.take 47).all (tabF (HandSHeadRun.getT s) (kf s))) = some true := by kernel_rfl
theorem topC2 (w : World) (os : OsState) : (oo w os).map (fun s => (fs.drop 47).all (tabF (HandSHeadRun.getT s) (kf s)) && (decide ((nubP fs).map (tOf (kf s))).Nodup && fs.all fun F => decide (F.ft.qual = qualOf F.pl))) = some true := by kernel_rfl
theorem topC (w : World) (os : OsState) : (oo w os).map (fun s => (obM 4 tx pr fs s).1) = some true := by
  refine two (fun s => ?_) (topC1 w os) (topC2 w os)
  unfold obM obsMG tabsG
  dsimp only
  rw [all_cut 47 fs, Bool.and_assoc]
def facA (K : PySem.W.Frag) : Bool := (biN.all fun x => (He.Fa.free x).ok K) && (tx.nums.all fun p => (He.Fa.int p.1 p.2).ok K) && (tx.fns.all fun o => match o with
    | some x => (He.Fa.glo x).ok K
    | none => true) && ((List.range tx.cls.length).take 10).all (clsAt K tx pr fs) && (pr.asks_.isEmpty || (He.Fa.free "ValueError").ok K)
theorem topD1 (w : World) (os : OsState) : (oo w os).map (fun s => facA (kf s)) = some true := by kernel_rfl
theorem topD2 (w : World) (os : OsState) : (oo w os).map (fun s => ((List.range tx.cls.length).drop 10).all (clsAt (kf s) tx pr fs)) = some true := by kernel_rfl
theorem topD3 (w : World) (os : OsState) : (oo w os).map (fun s => fs.all (defOkB (kf s))) = some true := by kernel_rfl
theorem topD (w : World) (os : OsState) : (oo w os).map (fun s => (obM 4 tx pr fs s).2.1) = some true := by
  refine two (fun s => ?_) (two (fun s => rfl) (topD1 w os) (topD2 w os)) (topD3 w os)
  unfold obM obsMG obsM factsB facA
  dsimp only
  rw [all_cut 10 (List.range tx.cls.length)]
  ac_rfl
theorem topE (w : World) (os : OsState) : (oo w os).map (fun s => (obM 4 tx pr fs s).2.2) = some (valM fs).2 := by kernel_rfl
theorem five {σ α β γ : Type} {o : Option σ} {f1 : σ → α} {f2 : σ → β} {g : σ → Bool × (Bool × γ)} {a : α} {b : β} {c : γ} (h1 : o.map f1 = some a) (h2 : o.map f2 = some b) (h3 : o.map (fun s => (g s).1) = some true) (h4 : o.map (fun s => (g s).2.1) = some true) (h5 : o.map (fun s => (g s).2.2) = some c) : o.map (fun s => (f1 s, f2 s, g s)) = some (a, b, (true, (true, c))) := by
  cases o with
  | none => cases h1
  | some s =>
    simp only [Option.map_some, Option.some.injEq] at h1 h2 h3 h4 h5 ⊢
    rw [h1, h2, ← h3, ← h5]
    refine congrArg _ (congrArg _ ?_)
    conv => lhs; rw [show g s = ((g s).1, (g s).2.1, (g s).2.2) from rfl, h4]
    rw [h3]
theorem top_run (w : World) : HandSHeadRun.RunEq Rw qv (hookM 4 tx pr fs) (obM 4 tx pr fs) 8000 loose w := by
  intro os
  exact five (topA w os) (topB w os) (topC w os) (topD w os) (topE w os)
end K15
namespace Mi
open PySem L2 HandSPX

def spF (r : Rx) (np : Nat) (f : List D → M D) : Sp := fun vs H Q E => vs.length = np ∧ ∃ ms xs S ds, Sim r ms xs H S ∧ RelDs r ms xs H ds vs ∧
  Good r xs ms H (f ds S) (fun d _ ms' H' => ∀ v, RelD r ms' xs H' d v → Q v H') (fun c _ _ H' => ∀ a, r.ca c = some a → E (.ref a) none H')

def LamFn (P : Program) (w : World) (K : PySem.W.Frag) (mg : Str → Option Value) (base : Heap) (k : Nat) (r : Rx) (f : Nat) (Φ : List D → M D) : Prop :=
  ∀ (A : Around) (outer : List PySem.Env) (s : Shared) (H : Hp) (a c : Addr) (q : Str) (prm : Arguments) (body : Expr) (scope : Scope) (us : List Value) (vs : List V) (Q : VK), r.lam f q prm body scope → Room k A → Env0 P w K mg base A outer s H → H a = some (LmO q prm body scope c a) → H c = some (LamX.CodeO c q) → Vals vs us →
    spF r 1 (fun ds => noX (Φ ds)) vs H Q (fun _ _ _ => False) → codeAny (model P w) A (.call (.ref a) ⟨us, []⟩) (CR (L2.CX P w) outer P w H s Q (fun _ _ _ => False)) s
structure InsOk (K : PySem.W.Frag) (C : Addr) : Prop where
  cl : Cls K C
  ha : PySem.W.findIn K (.ref C) "__class__" = some (some (.builtin "object.__class__"))
  hn : PySem.W.specialIn K (.builtin "object.__class__") "__get__" = some (some (.builtin "getset_descriptor.__get__"))
  htk : PySem.W.takesIn K (.builtin "object.__class__") = some true
  hm : PySem.W.mroIn K C (.type "object") = some true
structure Mk0 (K : PySem.W.Frag) (C : Addr) : Prop where
  makes : PySem.W.makesIn K C = true
  init : PySem.W.findIn K (.ref C) "__init__" = some (some (.builtin "object.__init__"))
  kp : PySem.W.keepIn K (.ref C) = true
structure ExcOk (K : PySem.W.Frag) (C : Addr) : Prop where
  ex : PySem.W.excIn K C veTail "ValueError.__new__" = true
  kp : PySem.W.keepIn K (.ref C) = true
  sub : PySem.W.subIn K (.ref C) (.type "BaseException") = some true
  ty : PySem.W.typeIn K (.ref C) = some (.type "type")
def LamOk (base : Heap) (mg : Str → Option Value) (r : Rx) (cdv : Value) (q : Str) : Prop := ∃ c P, cdv = .ref c ∧ LamX.TabB base mg c P ∧ (P, q ++ "<lambda>") ∈ r.T ∧ ∀ p ∈ r.T, p.1 = P → p.2 = q ++ "<lambda>"
def nmOk (sg : Scope) (x : Str) : Prop := sg.names.lookup x = some .globalImplicit ∧ (x == ("__debug__" : Str)) = false
def lcOk (sg : Scope) (x : Str) : Prop := sg.names.lookup x = some .local ∧ (x == ("__debug__" : Str)) = false ∧ (x == ("__classdict__" : Str)) = false
def yK : List Str := ["BadKinds", "BadChute", "BadWish", "BadGroups", "BadNumber", "BadRooms", "BadRow", "BadKind", "BadBox", "BadTale", "NotOne", "Full"]
inductive AskSh (tx : Tx) (st : Stmt) (ps : List Str) (Ng : List Str) : AskT → Prop
  | full {cl ca cb j : Nat} {a fn en cn yA yB : Str} {p1 p2 p3 p4 p5 p6 p7 p8 p9 p10 p11 p12 p13 p14 p15 p16 p17 p18 p19 p20 p21 p22 p23 : Pos} (hp : ps = [a]) (h1 : tx.cls[cl]? = some cn) (h2 : tx.cls[ca]? = some yA) (h3 : tx.cls[cb]? = some yB)
      (hb : defBody st = [.Assign [.Name fn p1] (.Constant (.bool false) j p2) p3,
      .Try [.Expr (.Call (.Name a p4) [] [] p5) p6] [.ExceptHandler (some (.Name cn p7)) (some en) [.Assign [.Name fn p8] (.BoolOp .And [.Call (.Name "isinstance" p9) [.Name en p10, .Name yA p11] [] p12, .UnaryOp .Not (.Call (.Name "isinstance" p13) [.Name en p14, .Name yB p15] [] p16) p17] p18) p19] p20] [] [] p21,
      .Return (some (.Name fn p22)) p23])
      (sc : FnScope Ng [a] (defScope st)) (hN : Ng = [a, fn, en]) (ha : lcOk (defScope st) a) (hfn : lcOk (defScope st) fn) (hen : lcOk (defScope st) en) (hcn : nmOk (defScope st) cn) (hA : nmOk (defScope st) yA) (hB : nmOk (defScope st) yB) (hi : nmOk (defScope st) "isinstance") : AskSh tx st ps Ng (.full cl ca cb)
  | kinds {cl : Nat} {cs : List Nat} {a fn en cn : Str} {p1 p2 p3 p4 p5 p6 p7 p20 p21 p22 p23 s0 s1 s2 s6 s7 s8 s9 s10 s12 s13 s14 s15 s16 s18 s19 s20 s21 s22 s24 s25 s26 s27 q0 q1 q2 q3 q4 q5 q6 q7 q8 q9 q10 q11 q12 q13 q14 q15 q16 q17 q18 q19 q20 q21 q22 q23 q24 q25 q26 q27 q28 q29 q30 q31 q32 q33 q34 q35 q36 q37 q38 q39 q40 q41 q42 q43 q44 q45 q46 q47 q48 q49 q50 q51 : Pos} (hp : ps = [a]) (h1 : tx.cls[cl]? = some cn) (h2 : cs.map (fun c => tx.cls[c]?) = yK.map some)
      (hb : defBody st = [.Assign [.Name fn p1] (.List [] p2) p3,
      .Try [.Expr (.Call (.Name a p4) [] [] p5) p6] [.ExceptHandler (some (.Name cn p7)) (some en) [.Assign [.Name fn s0] (.List [.Call (.Name "isinstance" q0) [.Name en q1, .Name "BadKinds" q2] [] q3, .Call (.Name "isinstance" q4) [.Name en q5, .Name "BadChute" q6] [] q7, .Call (.Name "isinstance" q8) [.Name en q9, .Name "BadWish" q10] [] q11] s1) s2,
        .Assign [.Name fn s6] (.BinOp (.Name fn s7) .Add (.List [.Call (.Name "isinstance" q12) [.Name en q13, .Name "BadGroups" q14] [] q15, .Call (.Name "isinstance" q16) [.Name en q17, .Name "BadNumber" q18] [] q19, .Call (.Name "isinstance" q20) [.Name en q21, .Name "BadRooms" q22] [] q23] s8) s9) s10,
        .Assign [.Name fn s12] (.BinOp (.Name fn s13) .Add (.List [.Call (.Name "isinstance" q24) [.Name en q25, .Name "BadRow" q26] [] q27, .Call (.Name "isinstance" q28) [.Name en q29, .Name "BadKind" q30] [] q31, .Call (.Name "isinstance" q32) [.Name en q33, .Name "BadBox" q34] [] q35] s14) s15) s16,
        .Assign [.Name fn s18] (.BinOp (.Name fn s19) .Add (.List [.Call (.Name "isinstance" q36) [.Name en q37, .Name "BadTale" q38] [] q39, .Call (.Name "isinstance" q40) [.Name en q41, .Name "NotOne" q42] [] q43, .Call (.Name "isinstance" q44) [.Name en q45, .Name "Full" q46] [] q47] s20) s21) s22,
        .Expr (.Call (.Attribute (.Name fn s24) "append" s25) [.Call (.Name "isinstance" q48) [.Name en q49, .Name "ValueError" q50] [] q51] [] s26) s27] p20] [] [] p21,
      .Return (some (.Name fn p22)) p23])
      (sc : FnScope Ng [a] (defScope st)) (hN : Ng = [a, fn, en]) (ha : lcOk (defScope st) a) (hfn : lcOk (defScope st) fn) (hen : lcOk (defScope st) en) (hcn : nmOk (defScope st) cn) (hA : ∀ y ∈ yK, nmOk (defScope st) y) (hV : nmOk (defScope st) "ValueError") (hi : nmOk (defScope st) "isinstance") (hl : (s25.endLine == s26.line) = true) : AskSh tx st ps Ng (.kinds cl cs)
  | text {cl ca cb t0 ta tb j j1 j2 : Nat} {a b fn en cn yA yB w0 wA wB : Str} {p1 p2 p3 p4 p5 p6 p7 p20 p21 p22 p23 p24 p25 q0 q1 q2 q3 q4 q5 q6 q7 q8 q9 q10 q11 q12 q13 q14 q15 q16 q17 : Pos} (hp : ps = [a, b]) (h1 : tx.cls[cl]? = some cn) (h2 : tx.cls[ca]? = some yA) (h3 : tx.cls[cb]? = some yB)
      (k0 : tx.txts[t0]? = some w0) (k1 : tx.txts[ta]? = some wA) (k2 : tx.txts[tb]? = some wB) (k3 : w0 ++ wB = wB) (k4 : w0.length + wB.length ≤ 1000)
      (hb : defBody st = [.Assign [.Name fn p1] (.Constant (.str w0) j p2) p3,
      .Try [.Expr (.Call (.Name a p4) [] [] p5) p6] [.ExceptHandler (some (.Name cn p7)) (some en) [.If (.Call (.Name "isinstance" q0) [.Name en q1, .Name yA q2] [] q3) [.Assign [.Name fn q4] (.Constant (.str wA) j1 q5) q6] [] q7,
        .If (.Call (.Name "isinstance" q8) [.Name en q9, .Name yB q10] [] q11) [.Assign [.Name fn q12] (.BinOp (.Name fn q13) .Add (.Constant (.str wB) j2 q14) q15) q16] [] q17] p20] [] [] p21,
      .Return (some (.Compare (.Name fn p22) [.Eq] [.Name b p23] p24)) p25])
      (sc : FnScope Ng [a, b] (defScope st)) (hN : Ng = [a, b, fn, en]) (ha : lcOk (defScope st) a) (hbb : lcOk (defScope st) b) (hfn : lcOk (defScope st) fn) (hen : lcOk (defScope st) en) (hcn : nmOk (defScope st) cn) (hA : nmOk (defScope st) yA) (hB : nmOk (defScope st) yB) (hi : nmOk (defScope st) "isinstance") : AskSh tx st ps Ng (.text cl ca cb t0 ta tb)
def Txs (l : List Str) : Prop := l.Nodup ∧ l.Pairwise fun a b => a.cps.toList < b.cps.toList ∧ ¬ b.cps.toList < a.cps.toList
instance (l : List Str) : Decidable (Txs l) := by unfold Txs; infer_instance
structure Cxt (X : Cx) (r : Rx) (C : Cf) (tx : Tx) (k : Nat) : Prop where
  calm : X.calm = true
  nd : X.N.Nodup
  room : Room (k + 1) X.A
  kk : X.K = r.K
  txts : r.txts = tx.txts
  attrs : r.attrs = tx.attrs
  tnd : Txs tx.txts
  tok : tx.txts.all PyData.strOk = true
  and_ : tx.attrs.Nodup
  bi : ∀ x ∈ (["len", "isinstance", "int", "bool", "list", "tuple", "str", "all", "any", "sum", "max", "min", "abs", "sorted", "set", "range", "enumerate", "zip"] : List Str), X.mg x = none
  nums : ∀ x i, tx.nums.lookup x = some i → ∃ t, X.mg x = some (.int i t)
  fns : ∀ (f : Nat) x, tx.fns[f]? = some (some x) → ∃ a, r.fa f = some a ∧ X.mg x = some (.ref a)
  ins : ∀ (c : Nat) a, r.ca c = some a → C.pr.makes c = true → InsOk X.K a
  noat : ∀ (c n : Nat) a f, r.ca c = some a → C.pr.hasF c n = true → tx.attrs[n]? = some f → NoAttr X.K a f
  kit : ∀ (c d : Nat) a b, r.ca c = some a → r.ca d = some b → C.pr.makes c = true → C.pr.asks d = true → PySem.W.kitOne X.K (.ref a) (.ref b) = some (C.pr.sub c d)
  kitB : ∀ (d : Nat) b, r.ca d = some b → C.pr.asks d = true → ∀ t ∈ (["NoneType", "bool", "int", "str", "list", "tuple", "dict"] : List String), PySem.W.kitOne X.K (.type t) (.ref b) = some false
  kitO : ∀ (c : Nat) a, r.ca c = some a → C.pr.makes c = true → ∀ t ∈ (["bool", "int", "str", "list", "tuple"] : List String), PySem.W.kitOne X.K (.ref a) (.type t) = some false
  clsN : ∀ (c : Nat) x, tx.cls[c]? = some x → ∃ a, r.ca c = some a ∧ X.mg x = some (.ref a)
  exc : ∀ (c : Nat) a x, r.ca c = some a → tx.cls[c]? = some x → C.pr.raises c = true → ExcOk X.K a
  cdb : ∀ x ∈ tx.cls, (x == ("__debug__" : Str)) = false
  call : ∀ (f : Nat) a, r.fa f = some a → ∃ fd ps, FnOk X.prog X.w X.K X.mg X.base (L2.CX X.prog X.w) k a fd ps (spF r ps.length (C.Φ f)) ∧ Binds X.K fd ps [] ∧ PySem.W.keepIn X.K (.ref a) = true ∧ ∀ ds S, C.Φ f ds S ≠ .stuck → ds.length = ps.length
  meth : ∀ (c m f : Nat) a x, r.ca c = some a → C.pr.meth c m = some f → tx.attrs[m]? = some x → C.pr.makes c = true ∧ ∃ g, r.fa f = some g ∧ Meth X.K a x g
  init : ∀ (c f : Nat) a d, r.ca c = some a → C.pr.cls[c]? = some d → d.init = some f → ∃ g, r.fa f = some g ∧ Mk X.K a g
  init0 : ∀ (c : Nat) a d, r.ca c = some a → C.pr.cls[c]? = some d → d.init = none → d.inst = true → Mk0 X.K a
  kitX : ∀ (c d : Nat) a b, r.ca c = some a → r.ca d = some b → C.pr.raises c = true → C.pr.asks d = true → PySem.W.kitOne X.K (.ref a) (.ref b) = some (C.pr.sub c d)
  excX : ∀ (c : Nat) a, r.ca c = some a → C.pr.raises c = true → C.pr.asks_ ≠ [] → ExcC X.K a ∧ PySem.W.kitOne X.K (.ref a) (.type "ValueError") = some true
  vx : C.pr.asks_ ≠ [] → X.mg "ValueError" = none
  exmX : ∀ (c g : Nat) (t : AskT) a b, r.ca c = some a → r.ca t.cl = some b → C.pr.raises c = true → lookN g C.pr.asks_ = some t → (∀ d ∈ t.cs, C.pr.asks d = true) ∧ PySem.W.exmOne X.K (.ref a) (.ref b) = some (C.pr.sub c t.cl)
  askF : ∀ (g : Nat) (t : AskT) x, lookN g C.pr.asks_ = some t → tx.fns[g]? = some (some x) → ∃ A st fd ps Ng, r.fa g = some A ∧ X.mg x = some (.ref A) ∧ Fun X.K x x st A fd ∧ Binds X.K fd ps [] ∧ AskSh tx st ps Ng t
  lamc : ∀ f, LamFn X.prog X.w X.K X.mg X.base k r f (C.Φ f)
  lamI : ∀ f q prm body scope, LamGood tx f q prm body scope → r.lam f q prm body scope
  laml : ∀ f q prm body scope, r.lam f q prm body scope → ∀ ds S, C.Φ f ds S ≠ .stuck → ds.length = 1

section
variable (r : Rx) (C : Cf) (W : WX)
def exW (σ : L2.St) : Nat → Store → List Addr → Hp → Prop := fun c _ _ H' => ∀ a, r.ca c = some a → W (.ref a) none σ H'
def tE (i : E) : TE := fun σ H Q => ∃ ms xs S ρ, Sim r ms xs H S ∧ REnv r ms xs H ρ σ ∧
  Good r xs ms H (evE C i ρ S) (fun d _ ms' H' => ∀ v, RelD r ms' xs H' d v → Q v H') (exW r W σ)
def tEs (is : Es) : TA := fun σ H Q => ∃ ms xs S ρ, Sim r ms xs H S ∧ REnv r ms xs H ρ σ ∧
  Good r xs ms H (evEs C is ρ S) (fun ds _ ms' H' => ∀ vs, RelDs r ms' xs H' ds vs → Q vs H') (exW r W σ)
def tT (i : E) : TT := fun σ H Q => ∃ ms xs S ρ, Sim r ms xs H S ∧ REnv r ms xs H ρ σ ∧
  Good r xs ms H (tst (evE C i ρ) S) (fun b _ _ H' => Q b H') (exW r W σ)
end

theorem PE.imp {X : Cx} {e : Expr} {t t' : TE} (h : PE X e t) (f : ∀ σ H Q, t' σ H Q → t σ H Q) : PE X e t' := ⟨fun pins s σ H Q I q => h.run pins s σ H Q I (f σ H Q q)⟩
theorem PT.imp {X : Cx} {e : Expr} {t t' : TT} (h : PT X e t) (f : ∀ σ H Q, t' σ H Q → t σ H Q) : PT X e t' := ⟨fun pins s σ H Q I q => h.run pins s σ H Q I (f σ H Q q)⟩
theorem PW.imp {X : Cx} {e : Expr} {t t' : TT} (h : PW X e t) (f : ∀ σ H Q, t' σ H Q → t σ H Q) : PW X e t' := ⟨fun wh pins s σ H Q I q => h.run wh pins s σ H Q I (f σ H Q q)⟩
theorem PA.imp {X : Cx} {e : List Expr} {t t' : TA} (h : PA X e t) (f : ∀ σ H Q, t' σ H Q → t σ H Q) : PA X e t' := ⟨fun pos pins s σ H Q I q => h.run pos pins s σ H Q I (f σ H Q q)⟩
theorem PS.imp {X : Cx} {e : Stmt} {t t' : TS} (h : PS X e t) (f : ∀ D σ H, t' D σ H → t D σ H) : PS X e t' := ⟨fun pins s σ H D I q => h.run pins s σ H D I (f D σ H q)⟩
theorem PSs.imp {X : Cx} {e : List Stmt} {t t' : TS} (h : PSs X e t) (f : ∀ D σ H, t' D σ H → t D σ H) : PSs X e t' := ⟨fun pins s σ H D I q => h.run pins s σ H D I (f D σ H q)⟩

inductive All2 (P : E → Expr → Prop) : Es → List Expr → Prop where
  | nil : All2 P .nil []
  | cons {i : E} {is : Es} {e : Expr} {es : List Expr} : noStar e = true → P i e → All2 P is es → All2 P (.cons i is) (e :: es)
theorem All2.star {P : E → Expr → Prop} : ∀ {is : Es} {es : List Expr}, All2 P is es → es.all noStar = true
  | _, _, .nil => rfl
  | _, _, .cons h _ t => by simp only [List.all_cons, Bool.and_eq_true]; exact ⟨h, t.star⟩

section
variable {X : Cx} {r : Rx} {C : Cf} {W : WX} {ms xs : List Addr} {H : Hp} {σ : L2.St} {ρ : Env} {S : Store}

theorem Good.ret {α : Type} {a : α} {ok : α → Store → List Addr → Hp → Prop} {ex : Nat → Store → List Addr → Hp → Prop} (h : Good r xs ms H (ret a S) ok ex) (s : Sim r ms xs H S) : ok a S ms H := h ms H .refl s
theorem tE_of {i : E} {Q : VK} {β : Type} {f : D → M β} {ok : β → Store → List Addr → Hp → Prop} (s : Sim r ms xs H S) (e : REnv r ms xs H ρ σ) (h : Good r xs ms H (bnd (evE C i ρ) f S) ok (exW r W σ))
    (q : ∀ d v S' ms' H', Ext ms H ms' H' → Sim r ms' xs H' S' → REnv r ms' xs H' ρ σ → RelD r ms' xs H' d v → Good r xs ms' H' (f d S') ok (exW r W σ) → Q v H') : tE r C W i σ H Q :=
  ⟨ms, xs, S, ρ, s, e, h.bind.mono (fun d S' ms' H' x s' g v rv => q d v S' ms' H' x s' (e.mono x) rv g) fun _ _ _ _ _ _ g => g⟩
theorem tEs_of {is : Es} {Q : List V → Hp → Prop} {β : Type} {f : List D → M β} {ok : β → Store → List Addr → Hp → Prop} (s : Sim r ms xs H S) (e : REnv r ms xs H ρ σ) (h : Good r xs ms H (bnd (evEs C is ρ) f S) ok (exW r W σ))
    (q : ∀ ds vs S' ms' H', Ext ms H ms' H' → Sim r ms' xs H' S' → REnv r ms' xs H' ρ σ → RelDs r ms' xs H' ds vs → Good r xs ms' H' (f ds S') ok (exW r W σ) → Q vs H') : tEs r C W is σ H Q :=
  ⟨ms, xs, S, ρ, s, e, h.bind.mono (fun d S' ms' H' x s' g v rv => q d v S' ms' H' x s' (e.mono x) rv g) fun _ _ _ _ _ _ g => g⟩
theorem tT_of {i : E} {Q : Bool → Hp → Prop} {β : Type} {f : Bool → M β} {ok : β → Store → List Addr → Hp → Prop} (s : Sim r ms xs H S) (e : REnv r ms xs H ρ σ) (h : Good r xs ms H (bnd (tst (evE C i ρ)) f S) ok (exW r W σ))
    (q : ∀ b S' ms' H', Ext ms H ms' H' → Sim r ms' xs H' S' → REnv r ms' xs H' ρ σ → Good r xs ms' H' (f b S') ok (exW r W σ) → Q b H') : tT r C W i σ H Q :=
  ⟨ms, xs, S, ρ, s, e, h.bind.mono (fun d S' ms' H' x s' g => q d S' ms' H' x s' (e.mono x) g) fun _ _ _ _ _ _ g => g⟩
theorem bnd_assoc {α β γ : Type} (m : M α) (f : α → M β) (g : β → M γ) : bnd (bnd m f) g = bnd m fun a => bnd (f a) g := by
  funext S
  unfold bnd
  cases m S <;> rfl
theorem bnd_ret {α β : Type} (a : α) (f : α → M β) : bnd (ret a) f = f a := rfl
theorem asB_some {d : D} {b : Bool} (h : asB d = some b) : d = .bl b := by
  cases d <;> simp [asB] at h
  rw [h]
theorem asI_some {d : D} {i : Int} (h : asI d = some i) : d = .int i := by
  cases d <;> simp [asI] at h
  rw [h]
theorem RelD.bl_eq {b : Bool} {v : V} (h : RelD r ms xs H (.bl b) v) : v = .bl b := by simpa only [RelD] using h
theorem RelD.int_eq {b : Int} {v : V} (h : RelD r ms xs H (.int b) v) : v = .int b := by simpa only [RelD] using h
theorem RelD.non_eq {v : V} (h : RelD r ms xs H .non v) : v = .non := by simpa only [RelD] using h
theorem RelD.of_bl {b : Bool} : RelD r ms xs H (.bl b) (.bl b) := by simp only [RelD]
theorem RelD.of_int {b : Int} : RelD r ms xs H (.int b) (.int b) := by simp only [RelD]
theorem RelD.of_non : RelD r ms xs H .non .non := by simp only [RelD]

theorem pa_all {is : Es} {es : List Expr} (h : All2 (fun i e => PE X e (tE r C W i)) is es) : PA X es (tEs r C W is) := by
  induction h with
  | nil =>
    refine PA.imp pa_nil fun σ H Q q => ?_
    obtain ⟨ms, xs, S, ρ, s, e, g⟩ := q
    simp only [evEs] at g
    exact g.ret s [] (by simp only [RelDs])
  | cons hs hp _ ih =>
    refine PA.imp (pa_cons hp ih (star_of hs)) fun σ H Q q => ?_
    obtain ⟨ms, xs, S, ρ, s, e, g⟩ := q
    simp only [evEs] at g
    refine tE_of s e g fun d v S1 m1 H1 x1 s1 e1 r1 g1 => ?_
    refine tEs_of s1 e1 g1 fun ds vs S2 m2 H2 x2 s2 e2 r2 g2 => ?_
    exact g2.ret s2 (v :: vs) (.cons (r1.mono x2) r2)
theorem pe_two {o : Op} {is : Es} {a b e : Expr} {rr : R2} (h : All2 (fun i e => PE X e (tE r C W i)) is [a, b]) (hp : ∀ ta tb, PE X a ta → PE X b tb → PE X e (tOp rr ta tb))
    (hv : ∀ ms xs H S x y dx dy Q, Sim r ms xs H S → RelD r ms xs H dx x → RelD r ms xs H dy y → Good r xs ms H (opD C.pr o [dx, dy] S) (fun d _ ms' H' => ∀ v, RelD r ms' xs H' d v → Q v H') (fun _ _ _ _ => True) → rr x y H Q) :
    PE X e (tE r C W (.op o is)) := by
  cases h with
  | cons _ ha t =>
    cases t with
    | cons _ hb t =>
      cases t
      refine PE.imp (hp _ _ ha hb) fun σ H Q q => ?_
      obtain ⟨ms, xs, S, ρ, s, e, g⟩ := q
      simp only [evE, evEs, bnd_assoc, bnd_ret] at g
      refine tE_of s e g fun d v S1 m1 H1 x1 s1 e1 r1 g1 => ?_
      refine tE_of s1 e1 g1 fun d2 v2 S2 m2 H2 x2 s2 e2 r2 g2 => ?_
      exact hv m2 xs H2 S2 v v2 d d2 Q s2 (r1.mono x2) r2 (g2.mono (fun _ _ _ _ _ _ z => z) fun _ _ _ _ _ _ _ => True.intro)
theorem pe_one1 {o : Op} {is : Es} {a e : Expr} {rr : V → Hp → VK → Prop} (h : All2 (fun i e => PE X e (tE r C W i)) is [a]) (hp : ∀ ta, PE X a ta → PE X e (tUn rr ta))
    (hv : ∀ ms xs H S x dx Q, Sim r ms xs H S → RelD r ms xs H dx x → Good r xs ms H (opD C.pr o [dx] S) (fun d _ ms' H' => ∀ v, RelD r ms' xs H' d v → Q v H') (fun _ _ _ _ => True) → rr x H Q) :
    PE X e (tE r C W (.op o is)) := by
  cases h with
  | cons _ ha t =>
    cases t
    refine PE.imp (hp _ ha) fun σ H Q q => ?_
    obtain ⟨ms, xs, S, ρ, s, e, g⟩ := q
    simp only [evE, evEs, bnd_assoc, bnd_ret] at g
    refine tE_of s e g fun d v S1 m1 H1 x1 s1 e1 r1 g1 => ?_
    exact hv m1 xs H1 S1 v d Q s1 r1 (g1.mono (fun _ _ _ _ _ _ z => z) fun _ _ _ _ _ _ _ => True.intro)
theorem pe_many {o : Op} {is : Es} {es : List Expr} {e : Expr} {rr : List V → Hp → VK → Prop} (h : All2 (fun i e => PE X e (tE r C W i)) is es) (hp : ∀ t, PA X es t → PE X e (tCB rr t))
    (hv : ∀ ms xs H S vs ds Q, Sim r ms xs H S → RelDs r ms xs H ds vs → Good r xs ms H (opD C.pr o ds S) (fun d _ ms' H' => ∀ v, RelD r ms' xs H' d v → Q v H') (fun _ _ _ _ => True) → rr vs H Q) :
    PE X e (tE r C W (.op o is)) := by
  refine PE.imp (hp _ (pa_all h)) fun σ H Q q => ?_
  obtain ⟨ms, xs, S, ρ, s, e, g⟩ := q
  simp only [evE] at g
  refine tEs_of s e g fun ds vs S1 m1 H1 x1 s1 e1 r1 g1 => ?_
  exact hv m1 xs H1 S1 vs ds Q s1 r1 (g1.mono (fun _ _ _ _ _ _ z => z) fun _ _ _ _ _ _ _ => True.intro)

abbrev VG (r : Rx) (xs ms : List Addr) (H : Hp) (q : R D) (Q : VK) : Prop := Good r xs ms H q (fun d _ ms' H' => ∀ v, RelD r ms' xs H' d v → Q v H') (fun _ _ _ _ => True)
variable {pr : Prog} {x y : V} {dx dy : D} {Q : VK}
theorem VG.val {d : D} {v : V} (h : VG r xs ms H (.ok d S) Q) (s : Sim r ms xs H S) (q : RelD r ms xs H d v) : Q v H := h ms H .refl s v q
theorem onI2_inv {f : Int → Int → Option D} (h : VG r xs ms H (onI2 dx dy f S) Q) : ∃ i j d, dx = .int i ∧ dy = .int j ∧ f i j = some d ∧ VG r xs ms H (.ok d S) Q := by
  unfold onI2 at h
  split at h
  · rename_i i j
    cases q : f i j with
    | none => rw [q] at h; exact h.elim
    | some d => rw [q] at h; exact ⟨i, j, d, rfl, rfl, q, h⟩
  · exact h.elim
theorem v_i2 {g : Int → Int → V} {f : Int → Int → Option D} {Cc : Int → Int → Prop} (hf : ∀ i j d, f i j = some d → Cc i j ∧ ∀ ms xs H, RelD r ms xs H d (g i j)) (s : Sim r ms xs H S) (rx : RelD r ms xs H dx x) (ry : RelD r ms xs H dy y)
    (h : VG r xs ms H (onI2 dx dy f S) Q) : rI Cc g x y H Q := by
  obtain ⟨i, j, d, rfl, rfl, e, h⟩ := onI2_inv h
  obtain ⟨c, q⟩ := hf i j d e
  exact ⟨i, j, rx.int_eq, ry.int_eq, c, h.val s (q _ _ _)⟩
theorem v_i20 {g : Int → Int → V} {f : Int → Int → Option D} (hf : ∀ i j d, f i j = some d → ∀ ms xs H, RelD r ms xs H d (g i j)) (s : Sim r ms xs H S) (rx : RelD r ms xs H dx x) (ry : RelD r ms xs H dy y)
    (h : VG r xs ms H (onI2 dx dy f S) Q) : rI0 g x y H Q := by
  obtain ⟨i, j, d, rfl, rfl, e, h⟩ := onI2_inv h
  exact ⟨i, j, rx.int_eq, ry.int_eq, h.val s (hf i j d e _ _ _)⟩
theorem asL_rel {d : D} {ds : List D} {v : V} (s : Sim r ms xs H S) (q : RelD r ms xs H d v) (h : asL S d = some ds) : ∃ a vs, v = .ref a ∧ H a = some (.lst vs) ∧ RelDs r ms xs H ds vs := by
  unfold asL at h
  split at h
  · cases h
    simp only [RelD] at q
    obtain ⟨a, vs, rfl, ha, _, _, q⟩ := q
    exact ⟨a, vs, rfl, ha, q⟩
  · split at h
    · rename_i hn
      cases h
      simp only [RelD] at q
      obtain ⟨a, ha, rfl⟩ := q
      obtain ⟨vs, e, q⟩ := s.obj _ _ a hn ha
      exact ⟨a, vs, rfl, e, q⟩
    · cases h
  · cases h
theorem asQ_rel {d : D} {ds : List D} {v : V} (s : Sim r ms xs H S) (q : RelD r ms xs H d v) (h : asQ S d = some ds) : ∃ a vs, v = .ref a ∧ (H a = some (.lst vs) ∨ H a = some (.tup vs)) ∧ RelDs r ms xs H ds vs := by
  unfold asQ at h
  split at h
  · cases h
    simp only [RelD] at q
    obtain ⟨a, vs, rfl, ha, _, _, q⟩ := q
    exact ⟨a, vs, rfl, .inr ha, q⟩
  · obtain ⟨a, vs, e, h1, h2⟩ := asL_rel s q h
    exact ⟨a, vs, e, .inl h1, h2⟩
theorem sz_of {n : Nat} (h : n ≤ 1000000) : n ≤ sizeLine := by rw [sizeLine_eq]; omega
theorem newL_inv {m : Bool} {ds : List D} (s : Sim r ms xs H S) (h : VG r xs ms H (newL m ds S) Q) {p : Addr} {vs : List V} (hp : H p = none) (hr : RelDs r ms xs H ds vs) (hz : vs.length ≤ sizeLine) : Q (.ref p) (upd H p (.lst vs)) := by
  have hl : ∀ ws, HO.lst vs = .lst ws → ws.length ≤ sizeLine := fun ws e => by cases e; exact hz
  have ht : ∀ ws, HO.lst vs = .tup ws → ws.length ≤ sizeLine := fun ws e => by cases e
  unfold newL at h
  cases m with
  | true =>
    have hc := Ext.cell (o := .lst vs) s hp
    refine h (ms ++ [p]) (upd H p (.lst vs)) hc (s.cell hp ⟨vs, rfl, hr.mono hc⟩ hl ht) (.ref p) ?_
    simp only [RelD]
    exact ⟨p, by rw [← s.len]; simp, rfl⟩
  | false =>
    have hc : Ext ms H ms (upd H p (.lst vs)) := Ext.new hp
    refine h ms (upd H p (.lst vs)) hc (s.new hp hl ht) (.ref p) ?_
    simp only [RelD]
    exact ⟨p, vs, rfl, upd_same, (s.fresh hp).1, (s.fresh hp).2, hr.mono hc⟩
theorem newT_inv {ds : List D} (s : Sim r ms xs H S) (h : VG r xs ms H (.ok (.tup ds) S) Q) {p : Addr} {vs : List V} (hp : H p = none) (hr : RelDs r ms xs H ds vs) (hz : vs.length ≤ sizeLine) : Q (.ref p) (upd H p (.tup vs)) := by
  have hl : ∀ ws, HO.tup vs = .lst ws → ws.length ≤ sizeLine := fun ws e => by cases e
  have ht : ∀ ws, HO.tup vs = .tup ws → ws.length ≤ sizeLine := fun ws e => by cases e; exact hz
  have hc : Ext ms H ms (upd H p (.tup vs)) := Ext.new hp
  refine h ms (upd H p (.tup vs)) hc (s.new hp hl ht) (.ref p) ?_
  simp only [RelD]
  exact ⟨p, vs, rfl, upd_same, (s.fresh hp).1, (s.fresh hp).2, hr.mono hc⟩
end
end Mi
namespace Mi
open PySem L2
section
variable {X : Cx} {r : Rx} {C : Cf} {W : WX} {tx : Tx} {k : Nat} {ck : Ck} {e : Expr} {es : List Expr} {is : Es}
theorem smalls_le {n : Nat} (h : smalls n = true) : n ≤ 1000000 := of_decide_eq_true h
abbrev AllE (X : Cx) (r : Rx) (C : Cf) (W : WX) : Es → List Expr → Prop := All2 (fun i e => PE X e (tE r C W i))

theorem pe_bin {o : Op} {op : Operator} {rr : R2} (h : binE op e = some es) (a : AllE X r C W is es) (ho : OpR X (binaryOp op) rr)
    (hv : ∀ ms xs H S x y dx dy Q, Sim r ms xs H S → RelD r ms xs H dx x → RelD r ms xs H dy y → VG r xs ms H (opD C.pr o [dx, dy] S) Q → rr x y H Q) : PE X e (tE r C W (.op o is)) := by
  obtain ⟨x, y, pos, rfl, rfl⟩ := binE_inv h
  exact pe_two a (fun ta tb ha hb => pe_op ho ha hb) hv
theorem so_add {m : Bool} (h : binE .Add e = some es) (a : AllE X r C W is es) : PE X e (tE r C W (.op (.add m) is)) := by
  refine pe_bin h a (op_add.or op_cat) fun ms xs H S x y dx dy Q s rx ry g => ?_
  simp only [opD] at g
  split at g
  · rw [rx.int_eq, ry.int_eq]
    exact .inl ⟨_, _, rfl, rfl, g.val s .of_int⟩
  · split at g
    · rename_i ex ey
      split at g
      · rename_i hz
        obtain ⟨l, vs, rfl, hl, ql⟩ := asL_rel s rx ex
        obtain ⟨b, us, rfl, hb, qb⟩ := asL_rel s ry ey
        have hz' : vs.length + us.length ≤ sizeLine := by
          rw [ql.length, qb.length]
          exact sz_of (smalls_le hz)
        exact .inr ⟨l, b, vs, us, rfl, rfl, hl, hb, hz', fun p hp => newL_inv s g hp (ql.append qb) (by rw [List.length_append]; exact hz')⟩
      · exact g.elim
    · exact g.elim
theorem so_sub (h : binE .Sub e = some es) (a : AllE X r C W is es) : PE X e (tE r C W (.op .sub is)) :=
  pe_bin h a op_sub fun ms xs H S x y dx dy Q s rx ry g => v_i20 (f := fun i j => some (.int (i - j))) (fun i j d e ms xs H => by cases e; exact .of_int) s rx ry g
theorem so_fdiv (h : binE .FloorDiv e = some es) (a : AllE X r C W is es) : PE X e (tE r C W (.op .fdiv is)) :=
  pe_bin h a op_fdiv fun ms xs H S x y dx dy Q s rx ry g => v_i2 (f := fun i j => if 0 < j ∧ j < 1073741824 then some (.int (i / j)) else none) (fun i j d e => by
    split at e
    · rename_i hc
      cases e
      exact ⟨hc, fun _ _ _ => .of_int⟩
    · cases e) s rx ry g
theorem so_mod (h : binE .Mod e = some es) (a : AllE X r C W is es) : PE X e (tE r C W (.op .mod is)) :=
  pe_bin h a op_mod fun ms xs H S x y dx dy Q s rx ry g => v_i2 (f := fun i j => if 0 < j then some (.int (i % j)) else none) (fun i j d e => by
    split at e
    · rename_i hc
      cases e
      exact ⟨hc, fun _ _ _ => .of_int⟩
    · cases e) s rx ry g
theorem cpow_of {i j : Int} (h : 0 ≤ j ∧ j ≤ 1000 ∧ -big < i ∧ i < big) : CPow i j := by
  obtain ⟨h1, h2, h3, h4⟩ := h
  unfold big at h3 h4
  refine ⟨h1, by omega, ?_⟩
  show i.natAbs < 18446744073709551616
  omega
theorem so_pow (h : binE .Pow e = some es) (a : AllE X r C W is es) : PE X e (tE r C W (.op .pow is)) :=
  pe_bin h a op_pow fun ms xs H S x y dx dy Q s rx ry g => v_i2 (f := fun i j => if 0 ≤ j ∧ j ≤ 1000 ∧ -big < i ∧ i < big then some (.int (i ^ j.toNat)) else none) (fun i j d e => by
    split at e
    · rename_i hc
      cases e
      exact ⟨cpow_of hc, fun _ _ _ => .of_int⟩
    · cases e) s rx ry g
theorem so_shl (h : binE .LShift e = some es) (a : AllE X r C W is es) : PE X e (tE r C W (.op .shl is)) :=
  pe_bin h a op_shl fun ms xs H S x y dx dy Q s rx ry g => v_i2 (f := fun i j => if 0 ≤ j ∧ j ≤ 1000 ∧ -big < i ∧ i < big then some (.int (i * 2 ^ j.toNat)) else none) (fun i j d e => by
    split at e
    · rename_i hc
      cases e
      exact ⟨cpow_of hc, fun _ _ _ => .of_int⟩
    · cases e) s rx ry g
theorem so_shr (h : binE .RShift e = some es) (a : AllE X r C W is es) : PE X e (tE r C W (.op .shr is)) :=
  pe_bin h a op_shr fun ms xs H S x y dx dy Q s rx ry g => v_i2 (f := fun i j => if 0 ≤ j then some (.int (i / 2 ^ j.toNat)) else none) (fun i j d e => by
    split at e
    · rename_i hc
      cases e
      exact ⟨hc, fun _ _ _ => .of_int⟩
    · cases e) s rx ry g
theorem so_band (h : binE .BitAnd e = some es) (a : AllE X r C W is es) : PE X e (tE r C W (.op .band is)) :=
  pe_bin h a op_and fun ms xs H S x y dx dy Q s rx ry g => v_i20 (f := fun i j => some (.int (PySem.Builtin.bitAnd i j))) (fun i j d e ms xs H => by cases e; exact .of_int) s rx ry g
theorem cmul_of {i j : Int} (h : (-big < i ∧ i < big) ∨ (-big < j ∧ j < big)) : CMul i j := h
theorem so_mul {m : Bool} (h : binE .Mult e = some es) (a : AllE X r C W is es) : PE X e (tE r C W (.op (.mul m) is)) := by
  refine pe_bin h a (op_mul.or (op_repT.or op_rep)) fun ms xs H S x y dx dy Q s rx ry g => ?_
  simp only [opD] at g
  split at g
  · split at g
    · rename_i hc
      rw [rx.int_eq, ry.int_eq]
      exact .inl ⟨_, _, rfl, rfl, cmul_of hc, g.val s .of_int⟩
    · exact g.elim
  · split at g
    · rename_i kk hc
      obtain ⟨h1, h2, h3, h4⟩ := hc
      rw [ry.int_eq]
      simp only [RelD] at rx
      obtain ⟨l, vs, rfl, hp, _, _, q⟩ := rx
      have hl := q.length
      have ne : vs ≠ [] := fun z => by
        subst z
        simp at hl
        have := List.eq_nil_of_length_eq_zero hl.symm
        rw [this] at h1
        simp at h1
      refine .inr (.inl ⟨l, kk, vs, rfl, rfl, .of hp, ne, h2, h3, by omega, fun p hp => newT_inv s g hp (q.rep _) ?_⟩)
      rw [(q.rep _).length]
      simp only [List.length_flatten, List.map_replicate, List.sum_replicate_nat]
      refine sz_of ?_
      have : kk.toNat ≤ 1000 := by omega
      calc kk.toNat * _ ≤ 1000 * 1000 := Nat.mul_le_mul this h4
        _ = 1000000 := rfl
    · exact g.elim
  · rename_i dy' kk hn1 hn2
    split at g
    · rename_i ds ex
      split at g
      · rename_i hc
        obtain ⟨h1, h2, h3⟩ := hc
        rw [ry.int_eq]
        obtain ⟨l, vs, rfl, hl, ql⟩ := asL_rel s rx ex
        unfold big at h1 h2
        have h3' : vs.length * kk.toNat ≤ sizeLine := by rw [ql.length]; exact sz_of (smalls_le h3)
        refine .inr (.inr ⟨l, kk, vs, rfl, rfl, hl, by omega, by omega, h3', fun p hp => newL_inv s g hp (ql.rep _) ?_⟩)
        simp only [List.length_flatten, List.map_replicate, List.sum_replicate_nat]
        rw [Nat.mul_comm]; exact h3'
      · exact g.elim
    · exact g.elim
  · exact g.elim
end
end Mi
namespace Mi
open PySem L2
inductive TL : List Value → List Value → Bool → Prop
  | nil : TL [] [] false
  | int (a : Int) (t : Tok) (c : Int) (u : Tok) {xs ys : List Value} {b : Bool} : TL xs ys b → TL (.int a t :: xs) (.int c u :: ys) (if a = c then b else decide (a < c))
  | str (a : Str) (t : Tok) (c : Str) (u : Tok) {xs ys : List Value} {b : Bool} : TL xs ys b → TL (.str a t :: xs) (.str c u :: ys) (if a = c then b else decide (a.cps.toList < c.cps.toList))
section
open PySem.SeqAt
open PySem.AutoSeq1 (wpAny_loadPart')
open PySem.MeetsSeq PySem.MeetsSeq2 PySem.MeetsSeq3 PyProof.Rows
theorem TL.len {xs ys : List Value} {b : Bool} (h : TL xs ys b) : xs.length = ys.length := by
  induction h with
  | nil => rfl
  | int _ _ _ _ _ ih => simp [ih]
  | str _ _ _ _ _ ih => simp [ih]
theorem rcLt_str (A : Around) (s : Shared) (a : Str) (t : Tok) (c : Str) (u : Tok) (prog : Program) (w : World) (E : Value → Shared → Prop) (Q : Value → Shared → Prop) (h : Q (.bool (decide (a.cps.toList < c.cps.toList))) s) :
    wpAny (model prog w) A (richCompare .Lt (.str a t) (.str c u)) Q E s :=
  (PyProof.Rows.lt_str h : wpAny (model prog w) A (compareOp .Lt (.str a t) (.str c u)) Q E s)
theorem tuple_lt_TL (l b : Addr) (items items2 : Array Value) (n n2 : Nat) (dd dd2 : Option Addr) (sl sl2 : Array (Option Value)) (o : Bool) (hT : TL items.toList items2.toList o) :
    Meets (Builtin.«tuple.__lt__» ⟨[.ref l, .ref b], []⟩)
      (fun _ R s => s.heap.get? l = some { cls := .type "tuple", dict := dd, data := .seq items n, slots := sl } ∧ s.heap.get? b = some { cls := .type "tuple", dict := dd2, data := .seq items2 n2, slots := sl2 } ∧
        R (.ok (.ret (.bool o))) s) :=
  .of_wp fun prog w A R s h => by
    obtain ⟨hp, g, d, tk, os⟩ := s; obtain ⟨hl, hb, h⟩ := h
    have f2 := AutoSeq1.sub_tuple_tuple
    have z1 : items.size = items2.size := by have := hT.len; simpa using this
    wp_walk using wpAny_loadPart' hl, wpAny_loadPart' hb, wpAny_forIn_list _ (fun rest b s' => b.1 = none ∧ s' = ⟨hp, g, d, tk, os⟩ ∧ ∃ (vs ws : List Value) (o' : Bool), rest = vs.zip ws ∧
      TL vs ws o' ∧ R (.ok (.ret (.bool o'))) ⟨hp, g, d, tk, os⟩) _
    case turn =>
      rintro ⟨y, x⟩ rest b s' ⟨hb', rfl, vs, ws, o', hz, hv, hR⟩
      cases hv with
      | nil => rw [List.zip_nil_left] at hz; cases hz
      | int a t c u hv' =>
        rw [List.zip_cons_cons] at hz
        injection hz with hyx hrest
        injection hyx with hy hx
        subst hy hx
        have he : EqAt A.in1 ⟨hp, g, d, tk, os⟩ (.int a t) (.int c u) (a == c) := SeqAt.EqAt.int_int a t c u
        refine wpAny_bind (he prog w _ _ ?_)
        by_cases q : a = c
        · rw [if_pos q] at hR
          rw [beq_iff_eq.mpr q]
          wp_walk
          exact ⟨rfl, rfl, _, _, _, hrest, hv', hR⟩
        · rw [if_neg q] at hR
          rw [beq_eq_false_iff_ne.mpr q]
          have hri := HT.rcLt_int A.in1 ⟨hp, g, d, tk, os⟩ a t c u prog w
          wp_walk using hri
          exact ⟨_, rfl, by simpa using hR⟩
      | str a t c u hv' =>
        rw [List.zip_cons_cons] at hz
        injection hz with hyx hrest
        injection hyx with hy hx
        subst hy hx
        have he : EqAt A.in1 ⟨hp, g, d, tk, os⟩ (.str a t) (.str c u) (a == c) := SeqAt.EqAt.str_str a t c u
        refine wpAny_bind (he prog w _ _ ?_)
        by_cases q : a = c
        · rw [if_pos q] at hR
          rw [beq_iff_eq.mpr q]
          wp_walk
          exact ⟨rfl, rfl, _, _, _, hrest, hv', hR⟩
        · rw [if_neg q] at hR
          rw [beq_eq_false_iff_ne.mpr q]
          have hri := rcLt_str A.in1 ⟨hp, g, d, tk, os⟩ a t c u prog w
          wp_walk using hri
          exact ⟨_, rfl, by simpa using hR⟩
    case fin =>
      rintro ⟨b1, b2⟩ s' ⟨hb', rfl, vs, ws, o', hz, hv, hR⟩
      simp only at hb'
      subst hb'
      have ho : o' = decide (items.size < items2.size) := by
        cases hv with
        | nil => exact (decide_eq_false (by omega)).symm
        | int _ _ _ _ _ => rw [List.zip_cons_cons] at hz; cases hz
        | str _ _ _ _ _ => rw [List.zip_cons_cons] at hz; cases hz
      rw [ho] at hR
      wp_walk
      exact ⟨_, rfl, by simpa [Builtin.Tuple.tupleCompareSizes] using hR⟩
    case h =>
      exact ⟨rfl, rfl, items.toList, items2.toList, o, rfl, hT, h⟩
end
section
variable {prog : Program} {w : World} {A : Around} {E : Value → Shared → Prop} {s : Shared}
theorem lt_tupTL {l b : Addr} {items items2 : Array Value} {o : Bool} {Q : Value → Shared → Prop} (hl : PyProof.Rows.IsTup s.heap l items) (hb : PyProof.Rows.IsTup s.heap b items2) (hT : TL items.toList items2.toList o)
    (hu : A.units < cLine) (h : Q (.bool o) s) : wpAny (model prog w) A (compareOp .Lt (.ref l) (.ref b)) Q E s := by
  obtain ⟨⟨cls, dd, data, sl⟩, ho, hc, n, hd⟩ := id hl
  obtain ⟨⟨cls2, dd2, data2, sl2⟩, ho2, hc2, n2, hd2⟩ := id hb
  simp only at hc hd hc2 hd2
  subst hc hd hc2 hd2
  exact richCompare_meets_room (op := .Lt) ⟨_, ho, rfl⟩ ⟨_, ho2, rfl⟩ PySem.F.slot_tuple_lt PySem.F.entry_tuple_lt (PySem.F.args_tuple_lt_2 _ _) (tuple_lt_TL l b items items2 n n2 dd dd2 sl sl2 o hT)
    ⟨ho, ho2, show Value.bool o ≠ Value.notImplemented ∧ Q (.bool o) s from ⟨(fun x => nomatch x), h⟩⟩ hu
end
def rLtS (K : PySem.W.Frag) : R2 := fun x y H Q => (∃ i j, x = .int i ∧ y = .int j ∧ Q (.bl (decide (i < j))) H) ∨
  ∃ a b p q i j, x = .ref a ∧ y = .ref b ∧ SqT K H a [.str p, .int i] ∧ SqT K H b [.str q, .int j] ∧ Q (.bl (if p = q then decide (i < j) else decide (p.cps.toList < q.cps.toList))) H
theorem op_ltS {X : Cx} (hu : X.A.units < cLine) : OpR X (compareOp .Lt) (rLtS X.K) := by
  intro pins s σ H x y v u Q I rx ry h
  rcases h with h | ⟨a, b, p, q, i, j, rfl, rfl, ha, hb, k⟩
  · exact op_lt pins s σ H x y v u Q I rx ry h
  · cases rx
    cases ry
    obtain ⟨its, r1, p1, _⟩ := I.tuple ha
    obtain ⟨its2, r2, p2, _⟩ := I.tuple hb
    have hT : TL its.toArray.toList its2.toArray.toList (if p = q then decide (i < j) else decide (p.cps.toList < q.cps.toList)) := by
      cases r1 with
      | cons e1 r1 =>
        cases r1 with
        | cons e2 r1 =>
          cases r1
          cases r2 with
          | cons f1 r2 =>
            cases r2 with
            | cons f2 r2 =>
              cases r2
              obtain ⟨t1, rfl⟩ := e1
              obtain ⟨t2, rfl⟩ := e2
              obtain ⟨t3, rfl⟩ := f1
              obtain ⟨t4, rfl⟩ := f2
              have z := TL.str p t1 q t3 (TL.int i t2 j t4 TL.nil)
              rw [show (if i = j then false else decide (i < j)) = decide (i < j) from by
                split
                · rename_i e; exact (decide_eq_false (by omega)).symm
                · rfl] at z
              exact z
    exact lt_tupTL p1 p2 hT hu ⟨.bl _, H, I, rfl, k⟩
end Mi
namespace Mi
open PySem L2
section
variable (tt : List Str)
mutual
def PyOf : D → PyData → Prop
  | .non, p => p = .none
  | .bl b, p => p = .bool b
  | .int i, p => p = .int i
  | .str t, p => ∃ s, tt[t]? = some s ∧ p = .str s
  | .tup ds, p => ∃ ps, p = .tuple ps ∧ PyOfs ds ps
  | .fz ds, p => ∃ ps, p = .list ps ∧ PyOfs ds ps
  | _, _ => False
def PyOfs : List D → List PyData → Prop
  | [], ps => ps = []
  | d :: ds, ps => ∃ q qs, ps = q :: qs ∧ PyOf d q ∧ PyOfs ds qs
end
end
variable {tt : List Str}
mutual
theorem eqv_eqP (nd : tt.Nodup) : ∀ {x y : D} {p q : PyData}, PyOf tt x p → PyOf tt y q → PyData.eqv p q = eqP x y
  | .non, y, p, q, hx, hy => by
    simp only [PyOf] at hx; subst hx
    cases y <;> simp only [PyOf] at hy <;> (first | exact hy.elim | (obtain ⟨_, rfl, _⟩ := hy; simp only [PyData.eqv, eqP]) | (obtain ⟨_, _, rfl⟩ := hy; simp only [PyData.eqv, eqP]) | (subst hy; simp only [PyData.eqv, eqP]))
  | .bl b, y, p, q, hx, hy => by
    simp only [PyOf] at hx; subst hx
    cases y <;> simp only [PyOf] at hy <;> (first | exact hy.elim | (obtain ⟨_, rfl, _⟩ := hy; simp only [PyData.eqv, eqP]) | (obtain ⟨_, _, rfl⟩ := hy; simp only [PyData.eqv, eqP]) | (subst hy; simp only [PyData.eqv, eqP]))
  | .int b, y, p, q, hx, hy => by
    simp only [PyOf] at hx; subst hx
    cases y <;> simp only [PyOf] at hy <;> (first | exact hy.elim | (obtain ⟨_, rfl, _⟩ := hy; simp only [PyData.eqv, eqP]) | (obtain ⟨_, _, rfl⟩ := hy; simp only [PyData.eqv, eqP]) | (subst hy; simp only [PyData.eqv, eqP]))
  | .str t, y, p, q, hx, hy => by
    simp only [PyOf] at hx; obtain ⟨s, hs, rfl⟩ := hx
    cases y with
    | str t2 =>
      simp only [PyOf] at hy; obtain ⟨s2, hs2, rfl⟩ := hy
      simp only [PyData.eqv, eqP]
      by_cases e : t = t2
      · subst e
        rw [hs] at hs2; cases hs2
        simp
      · have : s ≠ s2 := fun z => by
          subst z
          exact e ((List.getElem?_inj (List.getElem?_eq_some_iff.mp hs).1 nd).mp (hs.trans hs2.symm))
        rw [beq_eq_false_iff_ne.mpr this, beq_eq_false_iff_ne.mpr e]
    | _ => simp only [PyOf] at hy <;> (first | exact hy.elim | (obtain ⟨_, rfl, _⟩ := hy; simp only [PyData.eqv, eqP]) | (obtain ⟨_, _, rfl⟩ := hy; simp only [PyData.eqv, eqP]) | (subst hy; simp only [PyData.eqv, eqP]))
  | .tup ds, y, p, q, hx, hy => by
    simp only [PyOf] at hx; obtain ⟨ps, rfl, hx⟩ := hx
    cases y with
    | tup es =>
      simp only [PyOf] at hy; obtain ⟨qs, rfl, hy⟩ := hy
      simp only [PyData.eqv, eqP]
      exact eqv_eqPs nd hx hy
    | _ => simp only [PyOf] at hy <;> (first | exact hy.elim | (obtain ⟨_, rfl, _⟩ := hy; simp only [PyData.eqv, eqP]) | (obtain ⟨_, _, rfl⟩ := hy; simp only [PyData.eqv, eqP]) | (subst hy; simp only [PyData.eqv, eqP]))
  | .fz ds, y, p, q, hx, hy => by
    simp only [PyOf] at hx; obtain ⟨ps, rfl, hx⟩ := hx
    cases y with
    | fz es =>
      simp only [PyOf] at hy; obtain ⟨qs, rfl, hy⟩ := hy
      simp only [PyData.eqv, eqP]
      exact eqv_eqPs nd hx hy
    | _ => simp only [PyOf] at hy <;> (first | exact hy.elim | (obtain ⟨_, rfl, _⟩ := hy; simp only [PyData.eqv, eqP]) | (obtain ⟨_, _, rfl⟩ := hy; simp only [PyData.eqv, eqP]) | (subst hy; simp only [PyData.eqv, eqP]))
  | .scr _, _, _, _, hx, _ => by simp only [PyOf] at hx
  | .ref _, _, _, _, hx, _ => by simp only [PyOf] at hx
  | .fn _, _, _, _, hx, _ => by simp only [PyOf] at hx
  | .cls _, _, _, _, hx, _ => by simp only [PyOf] at hx
  | .lam _, _, _, _, hx, _ => by simp only [PyOf] at hx
  | .dz, _, _, _, hx, _ => by simp only [PyOf] at hx
theorem eqv_eqPs (nd : tt.Nodup) : ∀ {xs ys : List D} {ps qs : List PyData}, PyOfs tt xs ps → PyOfs tt ys qs → PyData.eqvAll ps qs = eqPs xs ys
  | [], [], ps, qs, hx, hy => by simp only [PyOfs] at hx hy; subst hx hy; simp [PyData.eqvAll, eqPs]
  | [], y :: ys, ps, qs, hx, hy => by simp only [PyOfs] at hx hy; obtain ⟨_, _, rfl, _⟩ := hy; subst hx; simp [PyData.eqvAll, eqPs]
  | x :: xs, [], ps, qs, hx, hy => by simp only [PyOfs] at hx hy; obtain ⟨_, _, rfl, _⟩ := hx; subst hy; simp [PyData.eqvAll, eqPs]
  | x :: xs, y :: ys, ps, qs, hx, hy => by
    simp only [PyOfs] at hx hy
    obtain ⟨p, ps, rfl, h1, h2⟩ := hx
    obtain ⟨q, qs, rfl, h3, h4⟩ := hy
    simp only [PyData.eqvAll, eqPs]
    rw [eqv_eqP nd h1 h3, eqv_eqPs nd h2 h4]
end
theorem mapO_nil {α β : Type} {f : α → Option β} {ys : List β} (h : mapO f [] = some ys) : ys = [] := by simp [mapO] at h; exact h
theorem mapO_cons {α β : Type} {f : α → Option β} {x : α} {xs : List α} {ys : List β} (h : mapO f (x :: xs) = some ys) : ∃ y zs, f x = some y ∧ mapO f xs = some zs ∧ ys = y :: zs := by
  simp only [mapO] at h
  split at h
  · rename_i y zs h1 h2
    cases h
    exact ⟨y, zs, h1, h2, rfl⟩
  · cases h

section
variable {r : Rx} {ms xs : List Addr} {H : Hp} {S : Store}
structure Read (r : Rx) (H : Hp) (n : Nat) (v : V) (p : D) (pd : PyData) : Prop where
  of : PyOf r.txts p pd
  dp : Dp r.K H v pd
  depth : pd.depth ≤ n
  lay : pd.canLay0 = true
structure Reads (r : Rx) (H : Hp) (n : Nat) (vs : List V) (ps : List D) (pds : List PyData) : Prop where
  of : PyOfs r.txts ps pds
  dp : DpAll r.K H vs pds
  depth : PyData.depthAll pds ≤ n
  lay : PyData.canLayAll0 pds = true
theorem reads_of (f : D → Option D) (n : Nat) (hf : ∀ d v p, RelD r ms xs H d v → f d = some p → ∃ pd, Read r H n v p pd) : ∀ {ds : List D} {vs : List V} {ps : List D}, RelDs r ms xs H ds vs → mapO f ds = some ps → ∃ pds, Reads r H n vs ps pds
  | [], vs, ps, h, e => by
    have := h.nil_eq; subst this
    have := mapO_nil e; subst this
    exact ⟨[], by simp only [PyOfs], .nil, by simp [PyData.depthAll], by simp [PyData.canLayAll0]⟩
  | d :: ds, vs, ps, h, e => by
    obtain ⟨v, us, rfl, h1, h2⟩ := h.uncons
    obtain ⟨p, qs, e1, e2, rfl⟩ := mapO_cons e
    obtain ⟨pd, R⟩ := hf d v p h1 e1
    obtain ⟨pds, Rs⟩ := reads_of f n hf h2 e2
    refine ⟨pd :: pds, ?_, .cons R.dp Rs.dp, ?_, ?_⟩
    · simp only [PyOfs]; exact ⟨pd, pds, rfl, R.of, Rs.of⟩
    · simp only [PyData.depthAll]; exact Nat.max_le.mpr ⟨R.depth, Rs.depth⟩
    · simp only [PyData.canLayAll0, R.lay, Rs.lay, Bool.and_self]
theorem read_of (s : Sim r ms xs H S) (tok : r.txts.all PyData.strOk = true) : ∀ (n : Nat) (d : D) (v : V) (p : D), RelD r ms xs H d v → res S n d = some p → ∃ pd, Read r H n v p pd
  | 0, d, v, p, h, e => by simp [res] at e
  | n + 1, d, v, p, h, e => by
    have ih := read_of s tok n
    unfold res at e
    cases d with
    | non => simp only [Option.some.injEq] at e; subst e; cases h.non_eq; exact ⟨.none, by simp only [PyOf], .non, by simp [PyData.depth], rfl⟩
    | bl b => simp only [Option.some.injEq] at e; subst e; cases h.bl_eq; exact ⟨.bool b, by simp only [PyOf], .bl b, by simp [PyData.depth], rfl⟩
    | int i => simp only [Option.some.injEq] at e; subst e; cases h.int_eq; exact ⟨.int i, by simp only [PyOf], .int i, by simp [PyData.depth], rfl⟩
    | str t =>
      simp only [Option.some.injEq] at e; subst e
      simp only [RelD] at h
      obtain ⟨x, hx, rfl⟩ := h
      refine ⟨.str x, by simp only [PyOf]; exact ⟨x, hx, rfl⟩, .str x, by simp [PyData.depth], ?_⟩
      simp only [PyData.canLay0]
      exact List.all_eq_true.mp tok x (List.mem_of_getElem? hx)
    | tup ds =>
      dsimp only at e
      obtain ⟨ps, e1, rfl⟩ := Option.map_eq_some_iff.mp e
      simp only [RelD] at h
      obtain ⟨a, vs, rfl, ha, _, _, q⟩ := h
      obtain ⟨pds, R⟩ := reads_of _ n ih q e1
      refine ⟨.tuple pds, by simp only [PyOf]; exact ⟨pds, rfl, R.of⟩, .tup (.of ha) R.dp, ?_, ?_⟩
      · simp only [PyData.depth]; exact Nat.succ_le_succ R.depth
      · simp only [PyData.canLay0]; exact R.lay
    | fz ds =>
      dsimp only at e
      obtain ⟨ps, e1, rfl⟩ := Option.map_eq_some_iff.mp e
      simp only [RelD] at h
      obtain ⟨a, vs, rfl, ha, _, _, q⟩ := h
      obtain ⟨pds, R⟩ := reads_of _ n ih q e1
      refine ⟨.list pds, by simp only [PyOf]; exact ⟨pds, rfl, R.of⟩, .lst (.of ha) R.dp, ?_, ?_⟩
      · simp only [PyData.depth]; exact Nat.succ_le_succ R.depth
      · simp only [PyData.canLay0]; exact R.lay
    | ref m =>
      dsimp only at e
      split at e
      · rename_i ds hm
        obtain ⟨ps, e1, rfl⟩ := Option.map_eq_some_iff.mp e
        simp only [RelD] at h
        obtain ⟨a, ha, rfl⟩ := h
        obtain ⟨vs, hl, q⟩ := s.obj _ _ a hm ha
        obtain ⟨pds, R⟩ := reads_of _ n ih q e1
        refine ⟨.list pds, by simp only [PyOf]; exact ⟨pds, rfl, R.of⟩, .lst (.of hl) R.dp, ?_, ?_⟩
        · simp only [PyData.depth]; exact Nat.succ_le_succ R.depth
        · simp only [PyData.canLay0]; exact R.lay
      · cases e
    | fn f => simp at e
    | cls f => simp at e
    | lam f => simp at e
    | dz => simp at e
    | scr f => simp at e
theorem Read.shaped {n : Nat} {v : V} {p : D} {pd : PyData} (R : Read r H n v p pd) (h : n ≤ 64) : SeqAt.shaped pd = true := by
  unfold SeqAt.shaped
  rw [R.lay, Bool.true_and, decide_eq_true_eq]
  exact Nat.le_trans R.depth h
end

section
variable {X : Cx} {r : Rx} {C : Cf} {W : WX} {tx : Tx} {k : Nat} {e : Expr} {es : List Expr} {is : Es}
def CmpV (X : Cx) (r : Rx) (C : Cf) (o : Op) (op : CmpOp) : Prop := ∃ rr : R2, OpR X (compareOp op) rr ∧ ∀ ms xs H S x y dx dy Q, Sim r ms xs H S → RelD r ms xs H dx x → RelD r ms xs H dy y → VG r xs ms H (opD C.pr o [dx, dy] S) Q → rr x y H Q
theorem pe_cmp2 {o : Op} {op : CmpOp} {rr : R2} (h : cmpE op e = some es) (a : AllE X r C W is es) (ho : OpR X (compareOp op) rr)
    (hv : ∀ ms xs H S x y dx dy Q, Sim r ms xs H S → RelD r ms xs H dx x → RelD r ms xs H dy y → VG r xs ms H (opD C.pr o [dx, dy] S) Q → rr x y H Q) : PE X e (tE r C W (.op o is)) := by
  obtain ⟨x, y, pos, rfl, rfl, hn⟩ := cmpE_inv h
  exact pe_two a (fun ta tb ha hb => pe_cmpR ho ha hb (mark_of hn)) hv
theorem eqD_rel (cx : Cxt X r C tx k) {ms xs : List Addr} {H : Hp} {S : Store} {x y : V} {dx dy : D} {b : Bool} (s : Sim r ms xs H S) (rx : RelD r ms xs H dx x) (ry : RelD r ms xs H dy y) (h : eqD S dx dy = some b) :
    ∃ d e, Dp r.K H x d ∧ Dp r.K H y e ∧ SeqAt.shaped d = true ∧ SeqAt.shaped e = true ∧ PyData.eqv d e = b := by
  unfold eqD at h
  split at h
  · rename_i p q h1 h2
    cases h
    have tok : r.txts.all PyData.strOk = true := by rw [cx.txts]; exact cx.tok
    obtain ⟨pd, R1⟩ := read_of s tok _ _ _ _ rx h1
    obtain ⟨qd, R2⟩ := read_of s tok _ _ _ _ ry h2
    exact ⟨pd, qd, R1.dp, R2.dp, R1.shaped (by decide), R2.shaped (by decide), eqv_eqP (by rw [cx.txts]; exact cx.tnd.1) R1.of R2.of⟩
  · cases h
theorem v_eq (cx : Cxt X r C tx k) {ms xs : List Addr} {H : Hp} {S : Store} {x y : V} {dx dy : D} {Q : VK} (s : Sim r ms xs H S) (rx : RelD r ms xs H dx x) (ry : RelD r ms xs H dy y) (g : VG r xs ms H (opD C.pr .eq [dx, dy] S) Q) : rEqD X.K x y H Q := by
  simp only [opD] at g
  split at g
  · rename_i b hb
    obtain ⟨d, e, h1, h2, h3, h4, h5⟩ := eqD_rel cx s rx ry hb
    rw [cx.kk]
    exact ⟨d, e, h1, h2, h3, h4, by rw [h5]; exact g.val s .of_bl⟩
  · exact g.elim
theorem v_ne (cx : Cxt X r C tx k) {ms xs : List Addr} {H : Hp} {S : Store} {x y : V} {dx dy : D} {Q : VK} (s : Sim r ms xs H S) (rx : RelD r ms xs H dx x) (ry : RelD r ms xs H dy y) (g : VG r xs ms H (opD C.pr .ne [dx, dy] S) Q) : rNeD X.K x y H Q := by
  simp only [opD] at g
  split at g
  · rename_i b hb
    obtain ⟨d, e, h1, h2, h3, h4, h5⟩ := eqD_rel cx s rx ry hb
    rw [cx.kk]
    exact ⟨d, e, h1, h2, h3, h4, by rw [h5]; exact g.val s .of_bl⟩
  · exact g.elim
theorem cv_eq (cx : Cxt X r C tx k) : CmpV X r C .eq .Eq := ⟨_, (op_eqD cx.room.units), fun ms xs H S x y dx dy Q s rx ry g => v_eq cx s rx ry g⟩
theorem cv_ne (cx : Cxt X r C tx k) : CmpV X r C .ne .NotEq := ⟨_, (op_neD cx.room.units), fun ms xs H S x y dx dy Q s rx ry g => v_ne cx s rx ry g⟩
theorem txt_lt {l : List Str} (h : Txs l) {t u : Nat} {p q : Str} (hp : l[t]? = some p) (hq : l[u]? = some q) {i j : Int} : (if p = q then decide (i < j) else decide (p.cps.toList < q.cps.toList)) = (if t = u then decide (i < j) else decide (t < u)) := by
  obtain ⟨nd, sr⟩ := h
  obtain ⟨h1, rfl⟩ := List.getElem?_eq_some_iff.mp hp
  obtain ⟨h2, rfl⟩ := List.getElem?_eq_some_iff.mp hq
  by_cases e : t = u
  · subst e; rw [if_pos rfl, if_pos rfl]
  · have ne : ¬ l[t] = l[u] := fun z => e ((List.getElem?_inj h1 nd).mp (by rw [hp, hq, z]))
    rw [if_neg ne, if_neg e]
    rw [List.pairwise_iff_getElem] at sr
    by_cases c : t < u
    · have := (sr t u h1 h2 c).1
      rw [decide_eq_true this, decide_eq_true c]
    · have := (sr u t h2 h1 (by omega)).2
      rw [decide_eq_false this, decide_eq_false c]
section
variable {ms xs : List Addr} {H : Hp} {S : Store} {x y : V} {dx dy : D} {Q : VK} {pr : Prog}
theorem v_lt (cx : Cxt X r C tx k) (s : Sim r ms xs H S) (rx : RelD r ms xs H dx x) (ry : RelD r ms xs H dy y) (g : VG r xs ms H (opD pr .lt [dx, dy] S) Q) : rLtS X.K x y H Q := by
  have g' : VG r xs ms H (ltD dx dy S) Q := g
  unfold ltD at g'
  split at g'
  · rename_i t i u j
    simp only [RelD, RelDs] at rx ry
    obtain ⟨a, vs, rfl, ha, _, _, v1, w1, rfl, ⟨p, hp, rfl⟩, v2, w2, rfl, rfl, rfl⟩ := rx
    obtain ⟨b, vs, rfl, hb, _, _, v1, w1, rfl, ⟨q, hq, rfl⟩, v2, w2, rfl, rfl, rfl⟩ := ry
    refine .inr ⟨a, b, p, q, i, j, rfl, rfl, .inl (.of ha), .inl (.of hb), ?_⟩
    have z := g'.val s (v := .bl (if p = q then decide (i < j) else decide (p.cps.toList < q.cps.toList))) (by
      rw [cx.txts] at hp hq
      rw [txt_lt cx.tnd hp hq]
      exact .of_bl)
    exact z
  · exact .inl (v_i20 (f := fun i j => some (.bl (decide (i < j)))) (fun i j d e ms xs H => by cases e; exact .of_bl) s rx ry g')
theorem v_le (s : Sim r ms xs H S) (rx : RelD r ms xs H dx x) (ry : RelD r ms xs H dy y) (g : VG r xs ms H (opD pr .le [dx, dy] S) Q) : rI0 (fun i j => .bl (decide (i ≤ j))) x y H Q :=
  v_i20 (f := fun i j => some (.bl (decide (i ≤ j)))) (fun i j d e ms xs H => by cases e; exact .of_bl) s rx ry g
theorem v_gt (s : Sim r ms xs H S) (rx : RelD r ms xs H dx x) (ry : RelD r ms xs H dy y) (g : VG r xs ms H (opD pr .gt [dx, dy] S) Q) : rI0 (fun i j => .bl (decide (j < i))) x y H Q :=
  v_i20 (f := fun i j => some (.bl (decide (j < i)))) (fun i j d e ms xs H => by cases e; exact .of_bl) s rx ry g
theorem v_ge (s : Sim r ms xs H S) (rx : RelD r ms xs H dx x) (ry : RelD r ms xs H dy y) (g : VG r xs ms H (opD pr .ge [dx, dy] S) Q) : rI0 (fun i j => .bl (decide (j ≤ i))) x y H Q :=
  v_i20 (f := fun i j => some (.bl (decide (j ≤ i)))) (fun i j d e ms xs H => by cases e; exact .of_bl) s rx ry g
end
theorem cv_lt (cx : Cxt X r C tx k) : CmpV X r C .lt .Lt := ⟨_, op_ltS (by have := cx.room.units; omega), fun ms xs H S x y dx dy Q s rx ry g => v_lt cx s rx ry g⟩
theorem cv_le : CmpV X r C .le .LtE := ⟨_, op_le, fun ms xs H S x y dx dy Q s rx ry g => v_le s rx ry g⟩
theorem cv_gt : CmpV X r C .gt .Gt := ⟨_, op_gt, fun ms xs H S x y dx dy Q s rx ry g => v_gt s rx ry g⟩
theorem cv_ge : CmpV X r C .ge .GtE := ⟨_, op_ge, fun ms xs H S x y dx dy Q s rx ry g => v_ge s rx ry g⟩
theorem RelD.ne_non {ms xs : List Addr} {H : Hp} {d : D} {v : V} (h : RelD r ms xs H d v) (n : d ≠ .non) : v ≠ .non := by
  cases d <;> simp only [RelD] at h
  · exact absurd rfl n
  · obtain ⟨_, rfl, _⟩ := h; intro q; cases q
  · subst h; intro q; cases q
  · subst h; intro q; cases q
  · obtain ⟨_, _, rfl⟩ := h; intro q; cases q
  · obtain ⟨_, _, rfl, _⟩ := h; intro q; cases q
  · obtain ⟨_, _, rfl, _⟩ := h; intro q; cases q
  · obtain ⟨_, _, rfl, _⟩ := h; intro q; cases q
  · obtain ⟨_, _, rfl⟩ := h; intro q; cases q
  · obtain ⟨_, _, rfl⟩ := h; intro q; cases q
  · obtain ⟨_, _, rfl⟩ := h; intro q; cases q
  · obtain ⟨_, _, _, _, _, _, rfl, _⟩ := h; intro q; cases q
theorem cv_is : CmpV X r C .is .Is := by
  refine ⟨_, (op_isBl.or op_isN), fun ms xs H S x y dx dy Q s rx ry g => ?_⟩
  simp only [opD] at g
  split at g
  · rw [rx.bl_eq, ry.bl_eq]
    exact .inl ⟨_, _, rfl, rfl, g.val s .of_bl⟩
  · rw [rx.non_eq, ry.non_eq]
    refine .inr ⟨rfl, ?_⟩
    have := g.val s .of_bl
    simpa using this
  all_goals first
    | exact g.elim
    | (have ny := rx.ne_non (by intro q; cases q)
       refine .inr ⟨ry.non_eq, ?_⟩
       rw [decide_eq_false ny]
       exact g.val s .of_bl)
theorem cv_isnot : CmpV X r C .isnot .IsNot := by
  refine ⟨_, (op_notBl.or op_notN), fun ms xs H S x y dx dy Q s rx ry g => ?_⟩
  simp only [opD] at g
  split at g
  · rw [rx.bl_eq, ry.bl_eq]
    exact .inl ⟨_, _, rfl, rfl, g.val s .of_bl⟩
  · rw [rx.non_eq, ry.non_eq]
    refine .inr ⟨rfl, ?_⟩
    have := g.val s .of_bl
    simpa using this
  all_goals first
    | exact g.elim
    | (have ny := rx.ne_non (by intro q; cases q)
       refine .inr ⟨ry.non_eq, ?_⟩
       rw [decide_eq_false ny]
       exact g.val s .of_bl)
theorem any_eqv (nd : tt.Nodup) {d : D} {pd : PyData} (h : PyOf tt d pd) : ∀ {ds : List D} {pds : List PyData}, PyOfs tt ds pds → (pds.any fun z => PyData.eqv z pd) = ds.any fun z => eqP z d
  | [], pds, q => by simp only [PyOfs] at q; subst q; rfl
  | x :: xs, pds, q => by
    simp only [PyOfs] at q
    obtain ⟨p, ps, rfl, q1, q2⟩ := q
    simp only [List.any_cons]
    rw [eqv_eqP nd q1 h, any_eqv nd h q2]
theorem in_rel (cx : Cxt X r C tx k) {ms xs : List Addr} {H : Hp} {S : Store} {x : V} {a : Addr} {dx : D} {ds qs : List D} {vs : List V} {p : D} (s : Sim r ms xs H S) (rx : RelD r ms xs H dx x) (hl : H a = some (.lst vs)) (ry : RelDs r ms xs H ds vs)
    (h1 : res S deep dx = some p) (h2 : mapO (res S deep) ds = some qs) : ∃ d es, Dp r.K H x d ∧ Dp r.K H (.ref a) (.list es) ∧ SeqAt.shaped d = true ∧ SeqAt.shaped (.list es) = true ∧ (es.any fun z => PyData.eqv z d) = qs.any fun q => eqP q p := by
  have tok : r.txts.all PyData.strOk = true := by rw [cx.txts]; exact cx.tok
  obtain ⟨pd, R1⟩ := read_of s tok _ _ _ _ rx h1
  obtain ⟨qd, R2⟩ := reads_of _ deep (read_of s tok deep) ry h2
  refine ⟨pd, qd, R1.dp, .lst (.of hl) R2.dp, R1.shaped (by decide), ?_, any_eqv (by rw [cx.txts]; exact cx.tnd.1) R1.of R2.of⟩
  unfold SeqAt.shaped
  rw [Bool.and_eq_true, decide_eq_true_eq]
  refine ⟨by simp only [PyData.canLay0]; exact R2.lay, ?_⟩
  simp only [PyData.depth]
  have := R2.depth
  unfold deep at this
  omega
end
end Mi
namespace Mi
open PySem L2 PyProof.Rows
section
variable {P : Program} {w : World} {A : Around} {E : Value → Shared → Prop} {s : Shared}
abbrev set0 (w : World) : Obj := { cls := .type "set", dict := none, data := .set #[] 0 (.fresh 0 0 (!w.params.followText "set-order")) }
theorem set_of_ints {l : Addr} {items : Array Value} (ns : List Int) {Q : Value → Shared → Prop} (hh : A.handled = none) (hl : s.heap.IsList l items) (hit : IntsAre items.toList ns) (hb : ns.length + 1 < scanBound)
    (h : ∀ (h' : Heap) (tk c : Nat), SetR w h' s.heap.objs.size (fun j => decide (j ∈ ns)) c → (∀ b o, s.heap.get? b = some o → h'.get? b = some o) → Q (.ref s.heap.objs.size) { s with heap := h', toks := tk }) :
    wpAny (model P w) A (call (.type "set") [.ref l]) Q E s := by
  have hsz : items.size = ns.length := by simpa using IntsAre.length hit
  obtain ⟨c, tl, hmro⟩ := F.called_set.mro
  have g1 := F.called_set.made
  have g2 := F.called_set.sub
  have g3 := F.called_set.notType
  have g4 := F.called_set.canCreate
  have g5 := F.typeCall_set_1 (.ref l)
  refine wpAny_call (codeAny_of_tree ?_)
  show wpAny _ _ (callAny (.type "set") _) _ _ _
  refine wpAny_pure ⟨Code.quiet_builtin _ (by decide +kernel), codeAny_builtin F.entry_type_call ?_⟩
  rw [Around.under_plain (weight_type_call_type "set" [.ref l] []) rfl]
  repeat (any_goals (first | assumption | wp_step))
  refine codeAny_mono (code_set_led1 (.ref l) (E := E) (Q₁ := fun obj s1 => obj = .ref s.heap.objs.size ∧ s1 = { s with heap := s.heap.push (set0 w) }) ⟨rfl, rfl⟩) fun r s1 hr => ?_
  cases r with
  | error e => exact hr
  | ok fl =>
    cases fl with
    | ret obj =>
      obtain ⟨rfl, rfl⟩ := hr
      have hS : (s.heap.push (set0 w)).get? s.heap.objs.size = some (set0 w) := Heap.get?_push_size _ rfl
      have hT : Shared.TypeIs { s with heap := s.heap.push (set0 w) } (.ref s.heap.objs.size) "set" := ⟨_, hS, rfl⟩
      have k1 := F.called_set.init.lookup
      have k2 := F.called_set.init.bind (.ref s.heap.objs.size)
      repeat (any_goals (first | assumption | wp_step))
      refine codeAny_mono (codeAny_call_builtin (R := wants (fun r s2 => r = .none ∧ ∃ h' tk c, s2 = { s with heap := h', toks := tk } ∧ SetR w h' s.heap.objs.size (fun j => decide (j ∈ ns)) c ∧
          (∀ b o, s.heap.get? b = some o → h'.get? b = some o)) E) F.called_set.init.plain F.entry_set_init (check_set_init_1 hT ?_)) fun r2 s2 hr2 => ?_
      · obtain ⟨⟨ocls, odict, odata, oslots⟩, hol, hcl, nl, hdl⟩ := hl
        simp only at hcl hdl
        subst hcl hdl
        have hol' : (s.heap.push (set0 w)).get? l = some { cls := .type "list", dict := odict, data := .seq items nl, slots := oslots } := Heap.get?_push_of_some _ hol
        have j1 := F.sub_list_set
        have j2 := F.sub_list_frozenset
        have j3 : (Value.type "list" == Value.type "dict") = false := by decide
        have hl1 : (s.heap.push (set0 w)).IsList l items := ⟨_, hol', rfl, nl, rfl⟩
        unfold Builtin.«set.__init__» noKeywords Builtin.Frozenset.updateFrom
        generalize hPI : pyIter = PI
        wp_walk
        subst hPI
        refine wpAny_pyIter_list hl1 (wpAny_bind (wpAny_runValue ?_))
        have hlS : l < s.heap.objs.size := Heap.lt_size hol
        have hh3 : A.in1.in1.in1.handled = none := by simp [hh]
        have hneI : l ≠ (s.heap.push (set0 w)).objs.size := by rw [Heap.size_push]; exact Nat.ne_of_lt (Nat.lt_succ_of_lt hlS)
        have hSf : s.heap.objs.size ∉ [(s.heap.push (set0 w)).objs.size, l] := by
          rw [Heap.size_push]
          intro q
          rcases List.mem_cons.mp q with q | q
          · exact absurd q (Nat.ne_of_lt (Nat.lt_succ_self _))
          · exact absurd (List.mem_singleton.mp q) (Nat.ne_of_gt hlS)
        have hval : ∀ (i : Nat) (v : Value), items[i]? = some v → ∃ k t, ns[i]? = some k ∧ v = .int k t := fun i v hv => by
          have hi : i < ns.length := by rw [← hsz]; exact (Array.getElem?_eq_some_iff.mp hv).1
          obtain ⟨t, e⟩ := IntsAre.int_at hit i v (by rw [Array.getElem?_toList]; exact hv)
          exact ⟨ns[i], t, List.getElem?_eq_getElem hi, by rw [e]; simp [hi]⟩
        refine set_update_ints ((Walks.list hh3 _ l hneI items).toS) s.heap.objs.size hSf ns hsz hb hval (items.size - 0) 0 _ (by omega) (Nat.zero_le _)
          ⟨⟨_, Heap.get?_push_size _ rfl, rfl, rfl⟩, (hl1.push _)⟩ ⟨0, Nat.le_refl 0, setR_new_at (Heap.get?_push_of_some _ hS)⟩ ?_
        intro s' c' hm hc' hS'
        obtain ⟨h', g', d', tk', os'⟩ := s'
        have eg : g' = s.gens := hm.gens
        have ed : d' = s.drawn := hm.drawn
        have eo : os' = s.os := hm.os
        subst eg ed eo
        show wpAny _ _ _ _ _ _
        refine wpAny_pure ?_
        show wpAny _ _ (PySem.ret Value.none) _ _ _
        refine wpAny_pure ⟨rfl, h', tk', c', rfl, hS', fun b o e => ?_⟩
        have hb0 : b < s.heap.objs.size := Heap.lt_size e
        refine hm.heap b o (fun q => ?_) (Heap.get?_push_of_some _ (Heap.get?_push_of_some _ e))
        rcases List.mem_cons.mp q with q | q
        · exact absurd q (Nat.ne_of_lt hb0)
        · have z := List.mem_singleton.mp q
          rw [Heap.size_push] at z
          exact absurd z (Nat.ne_of_lt (Nat.lt_succ_of_lt hb0))
      · cases r2 with
        | error e => exact hr2
        | ok fl2 =>
          cases fl2 with
          | ret r =>
            obtain ⟨rfl, h', tk, c, rfl, hS', hk'⟩ := hr2
            repeat (any_goals (first | assumption | wp_step))
            exact h _ _ _ hS' hk'
          | _ => exact hr2.elim
    | _ => exact hr.elim
end

theorem mem_nubI {x : Int} : ∀ {xs : List Int}, x ∈ nubI xs ↔ x ∈ xs
  | [] => by simp [nubI]
  | y :: ys => by
    unfold nubI
    split
    · rename_i h
      rw [mem_nubI, List.mem_cons]
      exact ⟨.inr, fun q => q.elim (fun e => by rw [e]; exact h) id⟩
    · rw [List.mem_cons, List.mem_cons, mem_nubI]
theorem nodup_nubI : ∀ xs : List Int, (nubI xs).Nodup
  | [] => by simp [nubI]
  | y :: ys => by
    unfold nubI
    split
    · exact nodup_nubI ys
    · rename_i h
      exact List.nodup_cons.mpr ⟨fun q => h (mem_nubI.mp q), nodup_nubI ys⟩
theorem mem_insI {x y : Int} : ∀ {xs : List Int}, y ∈ insI x xs ↔ y = x ∨ y ∈ xs
  | [] => by simp [insI]
  | z :: zs => by
    unfold insI
    split
    · simp
    · rw [List.mem_cons, mem_insI, List.mem_cons]
      constructor
      · rintro (h | h | h)
        · exact .inr (.inl h)
        · exact .inl h
        · exact .inr (.inr h)
      · rintro (h | h | h)
        · exact .inr (.inl h)
        · exact .inl h
        · exact .inr (.inr h)
theorem mem_sortI {y : Int} : ∀ {xs : List Int}, y ∈ sortI xs ↔ y ∈ xs
  | [] => by simp [sortI]
  | z :: zs => by unfold sortI; rw [mem_insI, mem_sortI, List.mem_cons]
theorem insI_perm (x : Int) : ∀ xs : List Int, (insI x xs).Perm (x :: xs)
  | [] => List.Perm.refl _
  | z :: zs => by
    unfold insI
    split
    · exact List.Perm.refl _
    · exact ((insI_perm x zs).cons z).trans (List.Perm.swap x z zs)
theorem sortI_perm : ∀ xs : List Int, (sortI xs).Perm xs
  | [] => List.Perm.refl _
  | z :: zs => (insI_perm z (sortI zs)).trans ((sortI_perm zs).cons z)
theorem insI_le {x : Int} : ∀ {xs : List Int}, xs.Pairwise (· ≤ ·) → (insI x xs).Pairwise (· ≤ ·)
  | [], _ => by simp [insI]
  | z :: zs, h => by
    obtain ⟨h1, h2⟩ := List.pairwise_cons.mp h
    unfold insI
    split
    · rename_i hx
      refine List.pairwise_cons.mpr ⟨fun y hy => ?_, h⟩
      rcases List.mem_cons.mp hy with e | e
      · omega
      · have := h1 y e; omega
    · rename_i hx
      refine List.pairwise_cons.mpr ⟨fun y hy => ?_, insI_le h2⟩
      rcases mem_insI.mp hy with e | e
      · omega
      · exact h1 y e
theorem sortI_le : ∀ xs : List Int, (sortI xs).Pairwise (· ≤ ·)
  | [] => List.Pairwise.nil
  | z :: zs => insI_le (sortI_le zs)
theorem eq_of_lt_mem : ∀ {xs ys : List Int}, xs.Pairwise (· < ·) → ys.Pairwise (· < ·) → (∀ k, k ∈ xs ↔ k ∈ ys) → xs = ys
  | [], [], _, _, _ => rfl
  | [], y :: ys, _, _, h => by have := (h y).mpr List.mem_cons_self; cases this
  | x :: xs, [], _, _, h => by have := (h x).mp List.mem_cons_self; cases this
  | x :: xs, y :: ys, h1, h2, h => by
    obtain ⟨a1, a2⟩ := List.pairwise_cons.mp h1
    obtain ⟨b1, b2⟩ := List.pairwise_cons.mp h2
    have e : x = y := by
      rcases List.mem_cons.mp ((h x).mp List.mem_cons_self) with q | q
      · exact q
      · rcases List.mem_cons.mp ((h y).mpr List.mem_cons_self) with q' | q'
        · exact q'.symm
        · have := b1 x q; have := a1 y q'; omega
    subst e
    have : xs = ys := eq_of_lt_mem a2 b2 fun k => by
      constructor
      · intro hk
        rcases List.mem_cons.mp ((h k).mp (List.mem_cons_of_mem _ hk)) with q | q
        · have := a1 k hk; omega
        · exact q
      · intro hk
        rcases List.mem_cons.mp ((h k).mpr (List.mem_cons_of_mem _ hk)) with q | q
        · have := b1 k hk; omega
        · exact q
    rw [this]
theorem eq_of_le_perm : ∀ {xs ys : List Int}, xs.Pairwise (· ≤ ·) → ys.Pairwise (· ≤ ·) → xs.Perm ys → xs = ys
  | [], ys, _, _, h => by rw [h.nil_eq]
  | x :: xs, [], _, _, h => by have := h.length_eq; simp at this
  | x :: xs, y :: ys, h1, h2, h => by
    obtain ⟨a1, a2⟩ := List.pairwise_cons.mp h1
    obtain ⟨b1, b2⟩ := List.pairwise_cons.mp h2
    have e : x = y := by
      rcases List.mem_cons.mp (h.mem_iff.mp (List.mem_cons_self (a := x))) with q | q
      · exact q
      · rcases List.mem_cons.mp (h.mem_iff.mpr (List.mem_cons_self (a := y))) with q' | q'
        · exact q'.symm
        · have := b1 x q; have := a1 y q'; omega
    subst e
    rw [eq_of_le_perm a2 b2 (List.perm_cons x |>.mp h)]
theorem sort_nub_lt (ns : List Int) : (sortI (nubI ns)).Pairwise (· < ·) := lt_of_le_nodup _ (sortI_le _) ((sortI_perm _).nodup_iff.mpr (nodup_nubI ns))
theorem len_of_nodup {α : Type} [DecidableEq α] {xs ys : List α} (h1 : xs.Nodup) (h2 : ys.Nodup) (h : ∀ k, k ∈ xs ↔ k ∈ ys) : xs.length = ys.length := ((List.perm_ext_iff_of_nodup h1 h2).mpr h).length_eq
theorem mem_nubT {x : List Int} : ∀ {xs : List (List Int)}, x ∈ nubT xs ↔ x ∈ xs
  | [] => by simp [nubT]
  | y :: ys => by
    unfold nubT
    split
    · rename_i h
      rw [mem_nubT, List.mem_cons]
      exact ⟨.inr, fun q => q.elim (fun e => by rw [e]; exact h) id⟩
    · rw [List.mem_cons, List.mem_cons, mem_nubT]
theorem nodup_nubT : ∀ xs : List (List Int), (nubT xs).Nodup
  | [] => by simp [nubT]
  | y :: ys => by
    unfold nubT
    split
    · exact nodup_nubT ys
    · rename_i h
      exact List.nodup_cons.mpr ⟨fun q => h (mem_nubT.mp q), nodup_nubT ys⟩
end Mi
namespace Mi
open PySem L2
section
variable {X : Cx} {r : Rx} {C : Cf} {W : WX} {tx : Tx} {k : Nat} {ck : Ck} {e : Expr} {es : List Expr} {is : Es}
theorem str_of {ms xs : List Addr} {H : Hp} {t : Nat} {v : V} (h : RelD r ms xs H (.str t) v) : ∃ s, r.txts[t]? = some s ∧ v = .str s := by simpa only [RelD] using h
theorem str_eq (cx : Cxt X r C tx k) {t t' : Nat} {s s' : Str} (h : r.txts[t]? = some s) (h' : r.txts[t']? = some s') : (s == s') = decide (t = t') := by
  by_cases e : t = t'
  · subst e
    rw [h] at h'; cases h'
    simp
  · rw [decide_eq_false e]
    refine beq_eq_false_iff_ne.mpr fun z => e ?_
    subst z
    have nd : r.txts.Nodup := by rw [cx.txts]; exact cx.tnd.1
    exact (List.getElem?_inj (List.getElem?_eq_some_iff.mp h).1 nd).mp (h.trans h'.symm)
theorem tupI_rel {ms xs : List Addr} {H : Hp} {d : D} {v : V} {ns : List Int} (q : RelD r ms xs H d v) (h : tupI d = some ns) : ∃ b, v = .ref b ∧ H b = some (.tup ((ns.map Sum.inl : List Key).map kV)) := by
  cases d <;> simp only [tupI] at h <;> try cases h
  rename_i ds
  simp only [RelD] at q
  obtain ⟨a, vs, rfl, ha, _, _, q⟩ := q
  refine ⟨a, rfl, ?_⟩
  have e : vs = (ns.map Sum.inl : List Key).map kV := by
    clear ha
    induction ds generalizing vs ns with
    | nil => have := mapO_nil h; subst this; exact q.nil_eq
    | cons d ds ih =>
      obtain ⟨y, zs, h1, h2, rfl⟩ := mapO_cons h
      obtain ⟨v, us, rfl, q1, q2⟩ := q.uncons
      have := asI_some h1; subst this
      rw [q1.int_eq, ih h2 us q2] <;> rfl
  rw [← e]; exact ha
theorem key_inj {j k : List Int} (h : (j.map Sum.inl : List Key) = k.map Sum.inl) : j = k := by
  induction j generalizing k with
  | nil => cases k with
    | nil => rfl
    | cons a b => cases h
  | cons x xs ih => cases k with
    | nil => cases h
    | cons a b =>
      rw [List.map_cons, List.map_cons] at h
      injection h with h1 h2
      injection h1 with h1
      rw [h1, ih h2]
theorem look_rel {ms xs : List Addr} {H : Hp} {k : List Int} : ∀ {kvs : List (List Int × D)} {ps : List (List Key × V)}, RelK r ms xs H kvs ps →
    (lookT k kvs = none ∧ valV ps (k.map Sum.inl) = none) ∨ ∃ d v, lookT k kvs = some d ∧ valV ps (k.map Sum.inl) = some v ∧ RelD r ms xs H d v
  | [], ps, h => by cases (show ps = [] from h); exact .inl ⟨rfl, rfl⟩
  | (j, d) :: kvs, ps, h => by
    obtain ⟨v, us, rfl, q, h⟩ := h
    by_cases e : j = k
    · subst e
      exact .inr ⟨d, v, by simp [lookT], valV_pos rfl, q⟩
    · have e' : ¬ (j.map Sum.inl : List Key) = k.map Sum.inl := fun z => e (key_inj z)
      rw [valV_neg (p := (j.map Sum.inl, v)) e']
      have e3 : lookT k ((j, d) :: kvs) = lookT k kvs := by simp [lookT, e]
      rw [e3]
      exact look_rel h
def rIxDc : R2 := fun x y H Q => ∃ a v, x = .ref a ∧ DGet H a y (some v) ∧ Q v H
theorem ix_dic (hu : X.A.units + 1 < cLine) : IxR X rIxDc := by
  intro value slice pins s σ H x y v u Q I rx ry h hs
  obtain ⟨a, z, rfl, g, q⟩ := h
  obtain rfl : v = Value.ref a := rx
  exact PyProof.Rows.tail_any (dict_typeIs I g) PySem.F.slot_dict_getitem.lookup (d_getItem hu I g ry fun w' s' I' rw' => ⟨z, H, I', rw', q⟩) hs
theorem op_inDc (hu : X.A.units + 1 < cLine) : OpR X (compareOp .In) (fun x y H Q => ∃ a o, y = .ref a ∧ DGet H a x o ∧ Q (.bl o.isSome) H) := by
  intro pins s σ H x y v u Q I rx ry h
  obtain ⟨a, o, rfl, g, q⟩ := h
  obtain rfl : u = Value.ref a := ry
  exact d_in hu I g rx fun s' I' => ⟨.bl o.isSome, H, I', rfl, q⟩
theorem op_notInDc (hu : X.A.units + 1 < cLine) : OpR X (compareOp .NotIn) (fun x y H Q => ∃ a o, y = .ref a ∧ DGet H a x o ∧ Q (.bl (!o.isSome)) H) := by
  intro pins s σ H x y v u Q I rx ry h
  obtain ⟨a, o, rfl, g, q⟩ := h
  obtain rfl : u = Value.ref a := ry
  exact d_notIn hu I g rx fun s' I' => ⟨.bl (!o.isSome), H, I', rfl, q⟩
theorem dget_rel {ms xs : List Addr} {H : Hp} {S : Store} {n : Nat} {kvs : List (List Int × D)} {x y : V} {dy : D} {k : List Int} (s : Sim r ms xs H S) (rx : RelD r ms xs H (.ref n) x) (ry : RelD r ms xs H dy y) (hd : S[n]? = some (.dic kvs)) (hk : tupI dy = some k) :
    ∃ a o, x = .ref a ∧ DGet H a y o ∧ o.isSome = (lookT k kvs).isSome ∧ ∀ d, lookT k kvs = some d → ∃ v, o = some v ∧ RelD r ms xs H d v := by
  simp only [RelD] at rx
  obtain ⟨a, ha, rfl⟩ := rx
  obtain ⟨ps, hp, q⟩ := s.obj _ _ a hd ha
  obtain ⟨b, rfl, hb⟩ := tupI_rel ry hk
  refine ⟨a, valV ps (k.map Sum.inl), rfl, DGet.t hp hb, ?_⟩
  rcases look_rel (k := k) q with ⟨h1, h2⟩ | ⟨d, v, h1, h2, h3⟩
  · rw [h1, h2]
    exact ⟨rfl, fun d e => by cases e⟩
  · rw [h1, h2]
    exact ⟨rfl, fun d' e => by cases e; exact ⟨v, rfl, h3⟩⟩
theorem VG.no {ms xs : List Addr} {H : Hp} {Q : VK} (h : VG r xs ms H .stuck Q) : False := h
theorem cv_isin (cx : Cxt X r C tx k) : CmpV X r C .isin .In := by
  have hu : X.A.units + 65 < cLine := by have := cx.room.un; omega
  refine ⟨_, (op_in_seq.or ((op_inD hu).or (op_inDc (by omega)))), fun ms xs H S x y dx dy Q s rx ry g => ?_⟩
  simp only [opD] at g
  split at g
  · rename_i t1 t2
    split at g
    · rename_i t
      obtain ⟨sx, hx, rfl⟩ := str_of rx
      simp only [RelD] at ry
      obtain ⟨p, vs, rfl, hp, _, _, q⟩ := ry
      obtain ⟨v1, us, rfl, q1, q2⟩ := q.uncons
      obtain ⟨v2, us2, rfl, q3, q4⟩ := q2.uncons
      have := q4.nil_eq; subst this
      obtain ⟨s1, h1, rfl⟩ := str_of q1
      obtain ⟨s2, h2, rfl⟩ := str_of q3
      refine .inl ⟨p, _, rfl, .inr (.of hp), rfl, rfl, ?_⟩
      have e0 : inV (V.str sx) [V.str s1, V.str s2] = (decide (t1 = t) || decide (t2 = t)) := by
        show ((s1 == sx) || ((s2 == sx) || false)) = _
        rw [str_eq cx h1 hx, str_eq cx h2 hx, Bool.or_false]
      show Q (.bl (inV (V.str sx) [V.str s1, V.str s2])) H
      rw [e0]
      exact g.val s .of_bl
    · exact g.elim
  · split at g
    · rename_i kvs hd
      split at g
      · rename_i k' hk
        obtain ⟨a, o, rfl, g1, g2, _⟩ := dget_rel s ry rx hd hk
        exact .inr (.inr ⟨a, o, rfl, g1, by rw [g2]; exact VG.val g s .of_bl⟩)
      · exact (VG.no g).elim
    · rename_i ds hd
      split at g
      · rename_i p qs h1 h2
        simp only [RelD] at ry
        obtain ⟨a, ha, rfl⟩ := ry
        obtain ⟨vs, hl, q⟩ := s.obj _ _ a hd ha
        obtain ⟨d, es, d1, d2, d3, d4, d5⟩ := in_rel cx s rx hl q h1 h2
        refine .inr (.inl ⟨d, es, cx.kk ▸ d1, cx.kk ▸ d2, d3, d4, ?_⟩)
        rw [d5]
        exact g.val s .of_bl
      · exact g.elim
    · exact g.elim
  · rename_i ds
    split at g
    · rename_i p qs h1 h2
      simp only [RelD] at ry
      obtain ⟨a, vs, rfl, hl, _, _, q⟩ := ry
      obtain ⟨d, es, d1, d2, d3, d4, d5⟩ := in_rel cx s rx hl q h1 h2
      refine .inr (.inl ⟨d, es, cx.kk ▸ d1, cx.kk ▸ d2, d3, d4, ?_⟩)
      rw [d5]
      exact g.val s .of_bl
    · exact g.elim
  · exact g.elim
theorem cv_notin (cx : Cxt X r C tx k) : CmpV X r C .notin .NotIn := by
  have hu : X.A.units + 65 < cLine := by have := cx.room.un; omega
  refine ⟨_, (op_notIn_seq.or ((op_notInD hu).or (op_notInDc (by omega)))), fun ms xs H S x y dx dy Q s rx ry g => ?_⟩
  simp only [opD] at g
  split at g
  · rename_i t1 t2
    split at g
    · rename_i t
      obtain ⟨sx, hx, rfl⟩ := str_of rx
      simp only [RelD] at ry
      obtain ⟨p, vs, rfl, hp, _, _, q⟩ := ry
      obtain ⟨v1, us, rfl, q1, q2⟩ := q.uncons
      obtain ⟨v2, us2, rfl, q3, q4⟩ := q2.uncons
      have := q4.nil_eq; subst this
      obtain ⟨s1, h1, rfl⟩ := str_of q1
      obtain ⟨s2, h2, rfl⟩ := str_of q3
      refine .inl ⟨p, _, rfl, .inr (.of hp), rfl, rfl, ?_⟩
      have e0 : inV (V.str sx) [V.str s1, V.str s2] = (decide (t1 = t) || decide (t2 = t)) := by
        show ((s1 == sx) || ((s2 == sx) || false)) = _
        rw [str_eq cx h1 hx, str_eq cx h2 hx, Bool.or_false]
      show Q (.bl (!(inV (V.str sx) [V.str s1, V.str s2]))) H
      rw [e0]
      exact g.val s .of_bl
    · exact g.elim
  · split at g
    · rename_i kvs hd
      split at g
      · rename_i k' hk
        obtain ⟨a, o, rfl, g1, g2, _⟩ := dget_rel s ry rx hd hk
        exact .inr (.inr ⟨a, o, rfl, g1, by rw [g2]; exact VG.val g s .of_bl⟩)
      · exact (VG.no g).elim
    · rename_i ds hd
      split at g
      · rename_i p qs h1 h2
        simp only [RelD] at ry
        obtain ⟨a, ha, rfl⟩ := ry
        obtain ⟨vs, hl, q⟩ := s.obj _ _ a hd ha
        obtain ⟨d, es, d1, d2, d3, d4, d5⟩ := in_rel cx s rx hl q h1 h2
        refine .inr (.inl ⟨d, es, cx.kk ▸ d1, cx.kk ▸ d2, d3, d4, ?_⟩)
        rw [d5]
        exact g.val s .of_bl
      · exact g.elim
    · exact g.elim
  · rename_i ds
    split at g
    · rename_i p qs h1 h2
      simp only [RelD] at ry
      obtain ⟨a, vs, rfl, hl, _, _, q⟩ := ry
      obtain ⟨d, es, d1, d2, d3, d4, d5⟩ := in_rel cx s rx hl q h1 h2
      refine .inr (.inl ⟨d, es, cx.kk ▸ d1, cx.kk ▸ d2, d3, d4, ?_⟩)
      rw [d5]
      exact g.val s .of_bl
    · exact g.elim
  · exact g.elim

theorem atI_rel {ms xs : List Addr} {H : Hp} {ds : List D} {vs : List V} {i : Int} {d : D} (q : RelDs r ms xs H ds vs) (h : atI ds i = some d) : ∃ v, atI vs i = some v ∧ RelD r ms xs H d v := by
  unfold atI at h ⊢
  rw [q.length]
  cases e : ixN ds.length i with
  | none => rw [e] at h; cases h
  | some j =>
    rw [e] at h
    exact q.get h
theorem so_idx (cx : Cxt X r C tx k) (h : opOf ck .idx e = some es) (a : AllE X r C W is es) : PE X e (tE r C W (.op .idx is)) := by
  simp only [opOf] at h
  split at h
  · rename_i x y pos
    split at h
    · rename_i hn
      cases h
      have hu : X.A.units + 1 < cLine := by have := cx.room.un; omega
      refine pe_two a (fun ta tb ha hb => pe_ix (ix_seq.or (ix_dic hu)) ha hb (plainIx_of hn)) fun ms xs H S x y dx dy Q s rx ry g => ?_
      simp only [opD] at g
      split at g
      · rename_i i
        split at g
        · rename_i ds hd
          obtain ⟨p, vs, rfl, hp, q⟩ := asQ_rel s rx hd
          cases ed : atI ds i with
          | none => rw [ed] at g; exact g.elim
          | some d =>
            rw [ed] at g
            obtain ⟨v, hv, rv⟩ := atI_rel q ed
            have := VG.val g s rv
            rw [ry.int_eq]
            rcases hp with hp | hp
            · exact .inl (.inl ⟨p, vs, i, v, rfl, rfl, .of hp, hv, this⟩)
            · exact .inl (.inr (.inl ⟨p, vs, i, v, rfl, rfl, .of hp, hv, this⟩))
        · exact g.elim
      · split at g
        · split at g
          · rename_i hd
            split at g
            · rename_i k' hk
              obtain ⟨a, o, rfl, g1, _, g3⟩ := dget_rel s rx ry hd hk
              cases ed : lookT k' _ with
              | none => rw [ed] at g; exact (VG.no g).elim
              | some d =>
                rw [ed] at g
                obtain ⟨v, rfl, rv⟩ := g3 d ed
                exact .inr ⟨a, v, rfl, g1, VG.val g s rv⟩
            · exact (VG.no g).elim
          · exact (VG.no g).elim
        · exact (VG.no g).elim
    · cases h
  · cases h
theorem asR_rel {ms xs : List Addr} {H : Hp} {S : Store} {d : D} {ds : List D} {v : V} (s : Sim r ms xs H S) (q : RelD r ms xs H d v) (h : asR S d = some ds) : ∃ a vs, v = .ref a ∧ SqL r.K H a vs ∧ RelDs r ms xs H ds vs ∧ vs.length ≤ sizeLine := by
  unfold asR at h
  split at h
  · cases h
    simp only [RelD] at q
    obtain ⟨a, vs, rfl, hz, ha, q⟩ := q
    refine ⟨a, vs, rfl, ?_, q, sz_of (by omega)⟩
    rcases ha with ha | ha
    · exact .inr ha
    · exact .inl ha.1
  · obtain ⟨a, vs, e, h1, h2⟩ := asL_rel s q h
    exact ⟨a, vs, e, .of h1, h2, s.szl a vs h1⟩
theorem cut_rel {ms xs : List Addr} {H : Hp} {ds : List D} {vs : List V} (q : RelDs r ms xs H ds vs) (lo hi : Option Int) : RelDs r ms xs H (cut ds lo hi) (cutV vs lo hi) := by
  unfold cut cutV
  rw [q.length]
  exact (q.drop _).take _
theorem v_slc (cx : Cxt X r C tx k) {m : Bool} {ms xs : List Addr} {H : Hp} {S : Store} {x : V} {dx : D} {Q : VK} {ys : List D} {i j : Option Int} (s : Sim r ms xs H S) (rx : RelD r ms xs H dx x) (hy : asR S dx = some ys) (g : VG r xs ms H (newL m (cut ys i j) S) Q) : rSlL X.K x i j H Q := by
  obtain ⟨p, vs, rfl, hp, q, hz⟩ := asR_rel s rx hy
  exact ⟨p, vs, rfl, cx.kk ▸ hp, fun l hl => newL_inv s g hl (cut_rel q i j) (Nat.le_trans (cutV_length vs i j) hz)⟩
theorem so_slc {m lo hi : Bool} (cx : Cxt X r C tx k) (h : opOf ck (.slc m lo hi) e = some es) (a : AllE X r C W is es) : PE X e (tE r C W (.op (.slc m lo hi) is)) := by
  simp only [opOf] at h
  split at h
  · rename_i x l u p pos
    split at h
    · rename_i hc
      cases h
      obtain ⟨h1, h2, h3⟩ := hc
      cases l with
      | none =>
        cases u with
        | none =>
          simp at h1 h2; subst h1 h2
          cases a with
          | cons _ ha t =>
            cases t
            refine PE.imp (pe_slice sl_list ha po_none po_none) fun σ H Q q => ?_
            obtain ⟨ms, xs, S, ρ, s, e, g⟩ := q
            simp only [evE, evEs, bnd_assoc, bnd_ret] at g
            refine tE_of s e g fun d v S1 m1 H1 x1 s1 e1 r1 g1 => ?_
            simp only [opD] at g1
            split at g1
            · rename_i hy
              exact v_slc cx s1 r1 hy (Good.mono g1 (fun _ _ _ _ _ _ z => z) fun _ _ _ _ _ _ _ => True.intro)
            · exact (show False from g1).elim
        | some y =>
          simp at h1 h2; subst h1 h2
          cases a with
          | cons _ ha t =>
            cases t with
            | cons _ hb t =>
              cases t
              refine PE.imp (pe_slice sl_list ha po_none (po_some hb)) fun σ H Q q => ?_
              obtain ⟨ms, xs, S, ρ, s, e, g⟩ := q
              simp only [evE, evEs, bnd_assoc, bnd_ret] at g
              refine tE_of s e g fun d v S1 m1 H1 x1 s1 e1 r1 g1 => ?_
              refine tE_of s1 e1 g1 fun d2 v2 S2 m2 H2 x2 s2 e2 r2 g2 => ?_
              simp only [opD] at g2
              cases hy : asR S2 d with
              | none => rw [hy] at g2; exact (show False from g2).elim
              | some ys =>
                rw [hy] at g2
                cases d2 with
                | int i => exact ⟨_, r2.int_eq, v_slc cx s2 (r1.mono x2) hy (Good.mono g2 (fun _ _ _ _ _ _ z => z) fun _ _ _ _ _ _ _ => True.intro)⟩
                | _ => exact (show False from g2).elim
      | some y =>
        cases u with
        | none =>
          simp at h1 h2; subst h1 h2
          cases a with
          | cons _ ha t =>
            cases t with
            | cons _ hb t =>
              cases t
              refine PE.imp (pe_slice sl_list ha (po_some hb) po_none) fun σ H Q q => ?_
              obtain ⟨ms, xs, S, ρ, s, e, g⟩ := q
              simp only [evE, evEs, bnd_assoc, bnd_ret] at g
              refine tE_of s e g fun d v S1 m1 H1 x1 s1 e1 r1 g1 => ?_
              refine tE_of s1 e1 g1 fun d2 v2 S2 m2 H2 x2 s2 e2 r2 g2 => ?_
              simp only [opD] at g2
              cases hy : asR S2 d with
              | none => rw [hy] at g2; exact (show False from g2).elim
              | some ys =>
                rw [hy] at g2
                cases d2 with
                | int i => exact ⟨_, r2.int_eq, v_slc cx s2 (r1.mono x2) hy (Good.mono g2 (fun _ _ _ _ _ _ z => z) fun _ _ _ _ _ _ _ => True.intro)⟩
                | _ => exact (show False from g2).elim
        | some z => simp at h1 h2; subst h1 h2; simp at h3
    · cases h
  · cases h
end
end Mi
namespace Mi
open PySem L2
section
variable {X : Cx} {r : Rx} {C : Cf} {W : WX} {tx : Tx} {k : Nat} {ck : Ck} {e : Expr} {es : List Expr} {is : Es}
theorem so_neg (h : opOf ck .neg e = some es) (a : AllE X r C W is es) : PE X e (tE r C W (.op .neg is)) := by
  simp only [opOf] at h
  split at h
  · cases h
    refine pe_one1 a (fun ta ha => pe_un un_neg ha) fun ms xs H S x dx Q s rx g => ?_
    simp only [opD] at g
    split at g
    · exact ⟨_, rx.int_eq, VG.val g s .of_int⟩
    · exact (VG.no g).elim
  · cases h
theorem so_rev {m : Bool} (cx : Cxt X r C tx k) (h : opOf ck (.rev m) e = some es) (a : AllE X r C W is es) : PE X e (tE r C W (.op (.rev m) is)) := by
  simp only [opOf] at h
  split at h
  · cases h
    refine pe_one1 (rr := fun x H1 Q => ∃ a xs, x = .ref a ∧ SqL X.K H1 a xs ∧ ∀ p, H1 p = none → Q (.ref p) (upd H1 p (.lst xs.reverse))) a (fun ta ha => pe_revL ha) fun ms xs H S x dx Q s rx g => ?_
    simp only [opD] at g
    split at g
    · rename_i hy
      obtain ⟨p, vs, rfl, hp, q⟩ := asL_rel s rx hy
      exact ⟨p, vs, rfl, .of hp, fun l hl => newL_inv s g hl q.reverse (by rw [List.length_reverse]; exact s.szl p vs hp)⟩
    · exact (VG.no g).elim
  · cases h
theorem so_mkL {m : Bool} (h : opOf ck (.mkL m) e = some es) (a : AllE X r C W is es) : PE X e (tE r C W (.op (.mkL m) is)) := by
  simp only [opOf] at h
  split at h
  · cases h
    refine pe_many (rr := fun vs H1 Q => vs.length ≤ sizeLine ∧ ∀ p, H1 p = none → Q (.ref p) (upd H1 p (.lst vs))) a (fun t ht => pe_lst ht) fun ms xs H S vs ds Q s rx g => ?_
    simp only [opD] at g
    split at g
    · rename_i hz
      have hz' : vs.length ≤ sizeLine := by rw [rx.length]; exact sz_of (smalls_le hz)
      exact ⟨hz', fun p hp => newL_inv s g hp rx hz'⟩
    · exact (VG.no g).elim
  · cases h
theorem so_mkT (h : opOf ck .mkT e = some es) (a : AllE X r C W is es) : PE X e (tE r C W (.op .mkT is)) := by
  simp only [opOf] at h
  split at h
  · cases h
    refine pe_many (rr := fun vs H1 Q => vs.length ≤ sizeLine ∧ ∀ p, H1 p = none → Q (.ref p) (upd H1 p (.tup vs))) a (fun t ht => pe_tup ht) fun ms xs H S vs ds Q s rx g => ?_
    simp only [opD] at g
    split at g
    · rename_i hz
      have hz' : vs.length ≤ sizeLine := by rw [rx.length]; exact sz_of (smalls_le hz)
      exact ⟨hz', fun p hp => newT_inv s g hp rx hz'⟩
    · exact (VG.no g).elim
  · cases h
theorem so_mkD (h : opOf ck .mkD e = some es) (a : AllE X r C W is es) : PE X e (tE r C W (.op .mkD is)) := by
  simp only [opOf] at h
  split at h
  · cases h
    cases a
    refine PE.imp pe_dnewT fun σ H Q q => ?_
    obtain ⟨ms, xs, S, ρ, s, e, g⟩ := q
    simp only [evE, evEs, bnd_ret, opD] at g
    intro p hp
    have hc := Ext.cell (o := .dT []) s hp
    refine g (ms ++ [p]) (upd H p (.dT [])) hc (s.cell hp ⟨[], rfl, rfl⟩ (fun vs e => by cases e) (fun vs e => by cases e)) (.ref p) ?_
    simp only [RelD]
    exact ⟨p, by rw [← s.len]; simp, rfl⟩
  · cases h

def rMulS : R2 := fun x y H Q => ∃ (a b : Str) (k : Nat), x = .str a ∧ y = .int (k : Nat) ∧ 2 ≤ k ∧ k ≤ 1000 ∧ a.length = 1 ∧ b.length ≤ 1000 ∧ b = ⟨(List.replicate k a.cps).foldl (· ++ ·) #[]⟩ ∧ Q (.str b) H
theorem op_mulS : OpR X (binaryOp .Mult) rMulS := by
  intro pins s σ H x y v u Q I rx ry h
  obtain ⟨a, b, k, rfl, rfl, k2, k3, ha, hb, e, q⟩ := h
  obtain ⟨t, rfl⟩ := rx
  obtain ⟨t', rfl⟩ := ry
  have n1 : ¬ (k : Int) < 1 := by omega
  have n2 : ((k : Int) == 1 || a.length == 0) = false := by
    rw [ha]
    have : ¬ (k : Int) = 1 := by omega
    simp [this]
  refine PySem.P.mul_str ?_ (fun _ _ => ?_) (fun _ _ => ?_) ?_
  · have h1 : ¬ (k : Int) < -(2 ^ 63 : Int) := by omega
    have h2 : ¬ (k : Int) ≥ 2 ^ 63 := by omega
    rw [decide_eq_false h1, decide_eq_false h2]; rfl
  · rw [ha]
    have : (1 : Int) ≤ (2 ^ 63 - 1) / (k : Int) := Int.le_ediv_of_mul_le (by omega) (by omega)
    show ¬ (1 : Int) > (2 ^ 63 - 1) / (k : Int)
    omega
  · rw [ha]
    unfold PySem.Builtin.Str.tooLong
    exact decide_eq_false (by rw [sizeLine_eq]; omega)
  · rw [if_neg n1, if_neg (by rw [n2]; decide)]
    have : (k : Int).toNat = k := by omega
    rw [this, ← e]
    exact ⟨by rw [sizeLine_eq]; omega, ⟨.str b, H, I.tok _, ⟨_, rfl⟩, q⟩⟩
theorem so_txm {k0 t : Nat} (cx : Cxt X r C ck.tx k) (h : opOf ck (.txm k0 t) e = some es) (a : AllE X r C W is es) : PE X e (tE r C W (.op (.txm k0 t) is)) := by
  simp only [opOf] at h
  split at h
  · split at h
    · rename_i b hb
      split at h
      · rename_i q
        obtain ⟨rfl, q2, q3, q4, q5, q6⟩ := q
        cases h
        cases a
        refine PE.imp (pe_op op_mulS pe_str pe_int) fun σ H Q q => ?_
        obtain ⟨ms, xs, S, ρ, s, e, g⟩ := q
        simp only [evE, evEs, bnd_ret, opD] at g
        refine ⟨_, b, k0, rfl, rfl, q2, q3, q4, q5, q6, g ms H .refl s (.str b) ?_⟩
        simp only [RelD]
        exact ⟨b, by rw [cx.txts]; exact hb, rfl⟩
      · cases h
    · cases h
  · cases h
theorem so_mkZ (h : opOf ck .mkZ e = some es) (a : AllE X r C W is es) : PE X e (tE r C W (.op .mkZ is)) := by
  simp only [opOf] at h
  split at h
  · cases h
    cases a
    refine PE.imp pe_dnewT fun σ H Q q => ?_
    obtain ⟨ms, xs, S, ρ, s, e, g⟩ := q
    simp only [evE, evEs, bnd_ret, opD] at g
    intro p hp
    refine g ms (upd H p (.dT [])) (Ext.new hp) (s.new hp (fun vs e => by cases e) (fun vs e => by cases e)) (.ref p) ?_
    simp only [RelD]
    exact ⟨p, rfl, upd_same, (s.fresh hp).1, (s.fresh hp).2⟩
  · cases h

theorem gl_of (hs : X.env.scope = ck.sc) {x : Str} (h : ck.sc.names.lookup x = some .globalImplicit) : Gl X x := by
  show X.env.scope.names.lookup x = some .globalImplicit
  rw [hs]; exact h
theorem pe_bi {o : Op} {x : Str} {id : String} {n : Nat} {rr : List V → Hp → VK → Prop} (hs : X.env.scope = ck.sc) (h : biE ck.sc x (n + 1) e = some es) (a : AllE X r C W is es) (hc : CallR X (.builtin id) rr) (hm : X.mg x = none) (hb : bootBuiltins x = some (.builtin id))
    (hn : x ≠ "__name__") (hd : (x == ("__debug__" : Str)) = false)
    (hv : ∀ ms xs H S vs ds Q, Sim r ms xs H S → RelDs r ms xs H ds vs → VG r xs ms H (opD C.pr o ds S) Q → rr vs H Q) : PE X e (tE r C W (.op o is)) := by
  obtain ⟨p, pos, rfl, hg, hl⟩ := biE_inv h
  cases es with
  | nil => simp at hl
  | cons y ys =>
    have st := a.star
    simp only [List.all_cons, Bool.and_eq_true] at st
    exact pe_many a (fun t ht => pe_callB hc (gl_of hs hg) hm hb ht hn hd (star_of st.1) (noStars st.2)) hv
theorem pe_bT {o : Op} {x : Str} {id : String} {n : Nat} {rr : List V → Hp → VK → Prop} (hs : X.env.scope = ck.sc) (h : biE ck.sc x (n + 1) e = some es) (a : AllE X r C W is es) (hc : CallR X (.type id) rr) (hm : X.mg x = none) (hb : bootBuiltins x = some (.type id))
    (hn : x ≠ "__name__") (hd : (x == ("__debug__" : Str)) = false)
    (hv : ∀ ms xs H S vs ds Q, Sim r ms xs H S → RelDs r ms xs H ds vs → VG r xs ms H (opD C.pr o ds S) Q → rr vs H Q) : PE X e (tE r C W (.op o is)) := by
  obtain ⟨p, pos, rfl, hg, hl⟩ := biE_inv h
  cases es with
  | nil => simp at hl
  | cons y ys =>
    have st := a.star
    simp only [List.all_cons, Bool.and_eq_true] at st
    exact pe_many a (fun t ht => pe_callTy hc (gl_of hs hg) hm hb ht hn hd (star_of st.1) (noStars st.2)) hv
section
variable {ms xs : List Addr} {H : Hp} {S : Store} {vs : List V} {ds : List D} {Q : VK} {pr : Prog}
theorem one_of {o : Op} (h : VG r xs ms H (opD pr o ds S) Q) (q : RelDs r ms xs H ds vs) (n : ∀ d, ds = [d] → ∀ v, vs = [v] → RelD r ms xs H d v → VG r xs ms H (opD pr o [d] S) Q → False) (m : (∀ d, ds ≠ [d]) → VG r xs ms H (opD pr o ds S) Q → False) : False := by
  cases ds with
  | nil => exact m (fun d e => by cases e) h
  | cons d t =>
    cases t with
    | nil =>
      obtain ⟨v, us, rfl, q1, q2⟩ := q.uncons
      have := q2.nil_eq; subst this
      exact n d rfl v rfl q1 h
    | cons d' t' => exact m (fun d e => by cases e) h
end
theorem RelDs.one_inv {ms xs : List Addr} {H : Hp} {d : D} {vs : List V} (q : RelDs r ms xs H [d] vs) : ∃ v, vs = [v] ∧ RelD r ms xs H d v := by
  obtain ⟨v, us, rfl, q1, q2⟩ := q.uncons
  have := q2.nil_eq; subst this
  exact ⟨v, rfl, q1⟩
theorem RelDs.two_inv {ms xs : List Addr} {H : Hp} {d d' : D} {vs : List V} (q : RelDs r ms xs H [d, d'] vs) : ∃ v v', vs = [v, v'] ∧ RelD r ms xs H d v ∧ RelD r ms xs H d' v' := by
  obtain ⟨v, us, rfl, q1, q2⟩ := q.uncons
  obtain ⟨v', rfl, q3⟩ := q2.one_inv
  exact ⟨v, v', rfl, q1, q3⟩
theorem ints_rel {ms xs : List Addr} {H : Hp} : ∀ {ds : List D} {vs : List V} {ns : List Int}, RelDs r ms xs H ds vs → intsO ds = some ns → vs = ns.map V.int
  | [], vs, ns, q, h => by have := mapO_nil h; subst this; exact q.nil_eq
  | d :: ds, vs, ns, q, h => by
    obtain ⟨y, zs, h1, h2, rfl⟩ := mapO_cons h
    obtain ⟨v, us, rfl, q1, q2⟩ := q.uncons
    have := asI_some h1; subst this
    rw [q1.int_eq, ints_rel q2 h2] <;> rfl
theorem bools_rel {ms xs : List Addr} {H : Hp} : ∀ {ds : List D} {vs : List V} {ns : List Bool}, RelDs r ms xs H ds vs → boolsO ds = some ns → vs = ns.map V.bl
  | [], vs, ns, q, h => by have := mapO_nil h; subst this; exact q.nil_eq
  | d :: ds, vs, ns, q, h => by
    obtain ⟨y, zs, h1, h2, rfl⟩ := mapO_cons h
    obtain ⟨v, us, rfl, q1, q2⟩ := q.uncons
    have := asB_some h1; subst this
    rw [q1.bl_eq, bools_rel q2 h2] <;> rfl
theorem rel_ints {ms xs : List Addr} {H : Hp} : ∀ ns : List Int, RelDs r ms xs H (ns.map .int) (ns.map V.int)
  | [] => by simp only [List.map_nil, RelDs]
  | n :: ns => .cons .of_int (rel_ints ns)
theorem bi_bind {α : Type} {o : Option (List D)} {f : List D → Option α} {a : α} (h : o.bind f = some a) : ∃ ds, o = some ds ∧ f ds = some a := by
  cases o with
  | none => cases h
  | some ds => exact ⟨ds, rfl, h⟩
theorem nonm {x : Str} (cx : Cxt X r C tx k) (h : x ∈ (["len", "isinstance", "int", "bool", "list", "tuple", "str", "all", "any", "sum", "max", "min", "abs", "sorted", "set", "range", "enumerate", "zip"] : List Str)) : X.mg x = none := cx.bi x h
theorem so_len (cx : Cxt X r C tx k) (hs : X.env.scope = ck.sc) (h : opOf ck .len e = some es) (a : AllE X r C W is es) : PE X e (tE r C W (.op .len is)) := by
  refine pe_bi (n := 0) hs h a call_len_seq (cx.bi _ (by decide +kernel)) PySem.boot_len (by decide +kernel) (by decide +kernel) fun ms xs H S vs ds Q s q g => ?_
  match ds, q, g with
  | [d], q, g =>
    obtain ⟨v, rfl, q0⟩ := q.one_inv
    simp only [opD] at g
    split at g
    · rename_i hy
      obtain ⟨p, us, rfl, hp, q⟩ := asQ_rel s q0 hy
      refine ⟨p, us, rfl, ?_, ?_⟩
      · rcases hp with hp | hp
        · exact .inl (.of hp)
        · exact .inr (.of hp)
      · rw [q.length]; exact VG.val g s .of_int
    · exact (VG.no g).elim
  | [], _, g => exact (VG.no g).elim
  | _ :: _ :: _, _, g => exact (VG.no g).elim
theorem so_list {m : Bool} (cx : Cxt X r C tx k) (hs : X.env.scope = ck.sc) (h : opOf ck (.list m) e = some es) (a : AllE X r C W is es) : PE X e (tE r C W (.op (.list m) is)) := by
  refine pe_bT (n := 0) hs h a call_list_of (cx.bi _ (by decide +kernel)) (by decide +kernel) (by decide +kernel) (by decide +kernel) fun ms xs H S vs ds Q s q g => ?_
  match ds, q, g with
  | [d], q, g =>
    obtain ⟨v, rfl, q0⟩ := q.one_inv
    simp only [opD] at g
    split at g
    · rename_i hy
      obtain ⟨p, us, rfl, hp, q⟩ := asQ_rel s q0 hy
      have hz : us.length ≤ sizeLine := by
        rcases hp with hp | hp
        · exact s.szl p us hp
        · exact s.szt p us hp
      refine ⟨p, us, rfl, ?_, fun l hl => newL_inv s g hl q hz⟩
      rcases hp with hp | hp
      · exact .inl (.of hp)
      · exact .inr (.of hp)
    · exact (VG.no g).elim
  | [], _, g => exact (VG.no g).elim
  | _ :: _ :: _, _, g => exact (VG.no g).elim
theorem so_tuple (cx : Cxt X r C tx k) (hs : X.env.scope = ck.sc) (h : opOf ck .tuple e = some es) (a : AllE X r C W is es) : PE X e (tE r C W (.op .tuple is)) := by
  refine pe_bT (n := 0) hs h a call_tuple_of (cx.bi _ (by decide +kernel)) (by decide +kernel) (by decide +kernel) (by decide +kernel) fun ms xs H S vs ds Q s q g => ?_
  match ds, q, g with
  | [d], q, g =>
    obtain ⟨v, rfl, q0⟩ := q.one_inv
    simp only [opD] at g
    split at g
    · rename_i ys hy
      unfold asQ at hy
      split at hy
      · cases hy
        have q' := q0
        simp only [RelD] at q'
        obtain ⟨p, us, rfl, hp, _⟩ := q'
        exact ⟨p, us, rfl, .inr ⟨.of hp, VG.val g s q0⟩⟩
      · obtain ⟨p, us, rfl, hp, q⟩ := asL_rel s q0 hy
        exact ⟨p, us, rfl, .inl ⟨.of hp, fun l hl => newT_inv s g hl q (s.szl p us hp)⟩⟩
    · exact (VG.no g).elim
  | [], _, g => exact (VG.no g).elim
  | _ :: _ :: _, _, g => exact (VG.no g).elim
theorem so_all (cx : Cxt X r C tx k) (hs : X.env.scope = ck.sc) (h : opOf ck .all e = some es) (a : AllE X r C W is es) : PE X e (tE r C W (.op .all is)) := by
  refine pe_bi (n := 0) hs h a (cr_all cx.calm) (cx.bi _ (by decide +kernel)) PyProof.Rows.boot_all (by decide +kernel) (by decide +kernel) fun ms xs H S vs ds Q s q g => ?_
  match ds, q, g with
  | [d], q, g =>
    obtain ⟨v, rfl, q0⟩ := q.one_inv
    simp only [opD] at g
    split at g
    · rename_i hy
      obtain ⟨ys, h1, h2⟩ := bi_bind hy
      obtain ⟨p, us, rfl, hp, q⟩ := asL_rel s q0 h1
      have := bools_rel q h2; subst this
      exact ⟨p, _, rfl, .of hp, VG.val g s .of_bl⟩
    · exact (VG.no g).elim
  | [], _, g => exact (VG.no g).elim
  | _ :: _ :: _, _, g => exact (VG.no g).elim
theorem so_any (cx : Cxt X r C tx k) (hs : X.env.scope = ck.sc) (h : opOf ck .any e = some es) (a : AllE X r C W is es) : PE X e (tE r C W (.op .any is)) := by
  refine pe_bi (n := 0) hs h a (cr_any cx.calm) (cx.bi _ (by decide +kernel)) PyProof.Rows.boot_any (by decide +kernel) (by decide +kernel) fun ms xs H S vs ds Q s q g => ?_
  match ds, q, g with
  | [d], q, g =>
    obtain ⟨v, rfl, q0⟩ := q.one_inv
    simp only [opD] at g
    split at g
    · rename_i hy
      obtain ⟨ys, h1, h2⟩ := bi_bind hy
      obtain ⟨p, us, rfl, hp, q⟩ := asL_rel s q0 h1
      have := bools_rel q h2; subst this
      exact ⟨p, _, rfl, .of hp, VG.val g s .of_bl⟩
    · exact (VG.no g).elim
  | [], _, g => exact (VG.no g).elim
  | _ :: _ :: _, _, g => exact (VG.no g).elim
theorem so_sum (cx : Cxt X r C tx k) (hs : X.env.scope = ck.sc) (h : opOf ck .sum e = some es) (a : AllE X r C W is es) : PE X e (tE r C W (.op .sum is)) := by
  refine pe_bi (n := 0) hs h a (cr_sum cx.calm) (cx.bi _ (by decide +kernel)) PyProof.Rows.boot_sum (by decide +kernel) (by decide +kernel) fun ms xs H S vs ds Q s q g => ?_
  match ds, q, g with
  | [d], q, g =>
    obtain ⟨v, rfl, q0⟩ := q.one_inv
    simp only [opD] at g
    split at g
    · rename_i hy
      obtain ⟨ys, h1, h2⟩ := bi_bind hy
      obtain ⟨p, us, rfl, hp, q⟩ := asL_rel s q0 h1
      have := ints_rel q h2; subst this
      exact ⟨p, _, rfl, .of hp, VG.val g s .of_int⟩
    · exact (VG.no g).elim
  | [], _, g => exact (VG.no g).elim
  | _ :: _ :: _, _, g => exact (VG.no g).elim
theorem maxL_spec : ∀ (n : Int) (ns : List Int), maxL (n :: ns) ∈ n :: ns ∧ ∀ y ∈ n :: ns, y ≤ maxL (n :: ns)
  | n, [] => ⟨List.mem_cons_self, fun y hy => by simp [maxL] at hy ⊢; omega⟩
  | n, m :: ns => by
    obtain ⟨h1, h2⟩ := maxL_spec m ns
    have e : maxL (n :: m :: ns) = max n (maxL (m :: ns)) := rfl
    rw [e]
    refine ⟨?_, fun y hy => ?_⟩
    · by_cases h : n ≤ maxL (m :: ns)
      · rw [Int.max_eq_right h]; exact List.mem_cons_of_mem _ h1
      · rw [Int.max_eq_left (by omega)]; exact List.mem_cons_self
    · rcases List.mem_cons.mp hy with q | q
      · omega
      · have := h2 y q; omega
theorem minL_spec : ∀ (n : Int) (ns : List Int), minL (n :: ns) ∈ n :: ns ∧ ∀ y ∈ n :: ns, minL (n :: ns) ≤ y
  | n, [] => ⟨List.mem_cons_self, fun y hy => by simp [minL] at hy ⊢; omega⟩
  | n, m :: ns => by
    obtain ⟨h1, h2⟩ := minL_spec m ns
    have e : minL (n :: m :: ns) = min n (minL (m :: ns)) := rfl
    rw [e]
    refine ⟨?_, fun y hy => ?_⟩
    · by_cases h : n ≤ minL (m :: ns)
      · rw [Int.min_eq_left h]; exact List.mem_cons_self
      · rw [Int.min_eq_right (by omega)]; exact List.mem_cons_of_mem _ h1
    · rcases List.mem_cons.mp hy with q | q
      · omega
      · have := h2 y q; omega
theorem so_max1 (cx : Cxt X r C tx k) (hs : X.env.scope = ck.sc) (h : opOf ck .max1 e = some es) (a : AllE X r C W is es) : PE X e (tE r C W (.op .max1 is)) := by
  refine pe_bi (n := 0) hs h a (cr_max cx.calm) (cx.bi _ (by decide +kernel)) PyProof.Rows.boot_max (by decide +kernel) (by decide +kernel) fun ms xs H S vs ds Q s q g => ?_
  match ds, q, g with
  | [d], q, g =>
    obtain ⟨v, rfl, q0⟩ := q.one_inv
    simp only [opD] at g
    split at g
    · rename_i n ns hy
      obtain ⟨ys, h1, h2⟩ := bi_bind hy
      obtain ⟨p, us, rfl, hp, q⟩ := asL_rel s q0 h1
      have := ints_rel q h2; subst this
      refine ⟨p, _, rfl, .of hp, by simp, fun m hm hmax => ?_⟩
      obtain ⟨h3, h4⟩ := maxL_spec n ns
      have e : m = maxL (n :: ns) := Int.le_antisymm (h4 m hm) (hmax _ h3)
      rw [e]; exact VG.val g s .of_int
    · exact (VG.no g).elim
  | [], _, g => exact (VG.no g).elim
  | _ :: _ :: _, _, g => exact (VG.no g).elim
theorem so_min1 (cx : Cxt X r C tx k) (hs : X.env.scope = ck.sc) (h : opOf ck .min1 e = some es) (a : AllE X r C W is es) : PE X e (tE r C W (.op .min1 is)) := by
  refine pe_bi (n := 0) hs h a (cr_min cx.calm) (cx.bi _ (by decide +kernel)) PyProof.Rows.boot_min (by decide +kernel) (by decide +kernel) fun ms xs H S vs ds Q s q g => ?_
  match ds, q, g with
  | [d], q, g =>
    obtain ⟨v, rfl, q0⟩ := q.one_inv
    simp only [opD] at g
    split at g
    · rename_i n ns hy
      obtain ⟨ys, h1, h2⟩ := bi_bind hy
      obtain ⟨p, us, rfl, hp, q⟩ := asL_rel s q0 h1
      have := ints_rel q h2; subst this
      refine ⟨p, _, rfl, .of hp, by simp, fun m hm hmin => ?_⟩
      obtain ⟨h3, h4⟩ := minL_spec n ns
      have e : m = minL (n :: ns) := Int.le_antisymm (hmin _ h3) (h4 m hm)
      rw [e]; exact VG.val g s .of_int
    · exact (VG.no g).elim
  | [], _, g => exact (VG.no g).elim
  | _ :: _ :: _, _, g => exact (VG.no g).elim
theorem so_max2 (cx : Cxt X r C tx k) (hs : X.env.scope = ck.sc) (h : opOf ck .max2 e = some es) (a : AllE X r C W is es) : PE X e (tE r C W (.op .max2 is)) := by
  refine pe_bi (n := 1) hs h a (call_max2 cx.calm) (cx.bi _ (by decide +kernel)) PyProof.Rows.boot_max (by decide +kernel) (by decide +kernel) fun ms xs H S vs ds Q s q g => ?_
  match ds, q, g with
  | [d, d'], q, g =>
    obtain ⟨v, v', rfl, q1, q2⟩ := q.two_inv
    obtain ⟨i, j, d, rfl, rfl, h1, h2⟩ := onI2_inv (f := fun i j => some (.int (if j > i then j else i))) g
    cases h1
    rw [q1.int_eq, q2.int_eq]
    exact ⟨i, j, rfl, VG.val h2 s .of_int⟩
  | [], _, g => exact (VG.no g).elim
  | [_], _, g => exact (VG.no g).elim
  | _ :: _ :: _ :: _, _, g => exact (VG.no g).elim
theorem so_min2 (cx : Cxt X r C tx k) (hs : X.env.scope = ck.sc) (h : opOf ck .min2 e = some es) (a : AllE X r C W is es) : PE X e (tE r C W (.op .min2 is)) := by
  refine pe_bi (n := 1) hs h a (call_min2 cx.calm) (cx.bi _ (by decide +kernel)) PyProof.Rows.boot_min (by decide +kernel) (by decide +kernel) fun ms xs H S vs ds Q s q g => ?_
  match ds, q, g with
  | [d, d'], q, g =>
    obtain ⟨v, v', rfl, q1, q2⟩ := q.two_inv
    obtain ⟨i, j, d, rfl, rfl, h1, h2⟩ := onI2_inv (f := fun i j => some (.int (if j < i then j else i))) g
    cases h1
    rw [q1.int_eq, q2.int_eq]
    exact ⟨i, j, rfl, VG.val h2 s .of_int⟩
  | [], _, g => exact (VG.no g).elim
  | [_], _, g => exact (VG.no g).elim
  | _ :: _ :: _ :: _, _, g => exact (VG.no g).elim
theorem so_abs (cx : Cxt X r C tx k) (hs : X.env.scope = ck.sc) (h : opOf ck .abs e = some es) (a : AllE X r C W is es) : PE X e (tE r C W (.op .abs is)) := by
  refine pe_bi (n := 0) hs h a call_abs (cx.bi _ (by decide +kernel)) PyProof.Rows.boot_abs (by decide +kernel) (by decide +kernel) fun ms xs H S vs ds Q s q g => ?_
  match ds, q, g with
  | [d], q, g =>
    obtain ⟨v, rfl, q0⟩ := q.one_inv
    simp only [opD] at g
    split at g
    · rw [q0.int_eq]; exact ⟨_, rfl, VG.val g s .of_int⟩
    · exact (VG.no g).elim
  | [], _, g => exact (VG.no g).elim
  | _ :: _ :: _, _, g => exact (VG.no g).elim
theorem lex_lexB {a b : Int × Int} : lexP a b = SrtO.lexB a b := by
  rw [Bool.eq_iff_iff, SrtO.lexB_iff]
  simp [lexP]
theorem lexP_no {a b : Int × Int} : lexP a b = false ↔ (b.1 < a.1 ∨ (b.1 = a.1 ∧ b.2 ≤ a.2)) := by
  simp only [lexP, decide_eq_false_iff_not]
  omega
theorem insP_perm (x : Int × Int) : ∀ l : List (Int × Int), (insP x l).Perm (x :: l)
  | [] => .refl _
  | y :: l => by
    unfold insP
    split
    · exact ((insP_perm x l).cons y).trans (.swap x y l)
    · exact .refl _
theorem sortP_perm : ∀ l : List (Int × Int), (sortP l).Perm l
  | [] => .refl _
  | x :: l => (insP_perm x (sortP l)).trans ((sortP_perm l).cons x)
theorem insP_up (x : Int × Int) : ∀ l : List (Int × Int), l.Pairwise (fun a b => lexP b a = false) → (insP x l).Pairwise (fun a b => lexP b a = false)
  | [], _ => by simp [insP]
  | y :: l, h => by
    have h2 := List.pairwise_cons.mp h
    unfold insP
    split
    · rename_i q
      refine List.pairwise_cons.mpr ⟨fun z hz => ?_, insP_up x l h2.2⟩
      rcases List.mem_cons.mp ((insP_perm x l).mem_iff.mp hz) with rfl | w
      · rw [lexP_no]
        simp only [lexP, decide_eq_true_eq] at q
        omega
      · exact h2.1 z w
    · rename_i q
      have q : lexP y x = false := by simpa using q
      refine List.pairwise_cons.mpr ⟨fun z hz => ?_, h⟩
      rcases List.mem_cons.mp hz with rfl | w
      · exact q
      · have a := lexP_no.mp q
        have b := lexP_no.mp (h2.1 z w)
        rw [lexP_no]
        omega
theorem sortP_up : ∀ l : List (Int × Int), (sortP l).Pairwise fun a b => lexP b a = false
  | [] => .nil
  | x :: l => insP_up x _ (sortP_up l)
theorem sortP_uniq : ∀ {l m : List (Int × Int)}, l.Pairwise (fun a b => lexP b a = false) → m.Pairwise (fun a b => lexP b a = false) → l.Perm m → l = m
  | [], m, _, _, p => (List.nil_perm.mp p).symm ▸ rfl
  | x :: l, [], _, _, p => absurd p.length_eq (by simp)
  | x :: l, y :: m, h, k, p => by
    have h2 := List.pairwise_cons.mp h
    have k2 := List.pairwise_cons.mp k
    have e : x = y := by
      have a : lexP y x = false := by
        rcases List.mem_cons.mp (p.mem_iff.mpr (.head _)) with rfl | w
        · rw [lexP_no]; omega
        · exact h2.1 y w
      have b : lexP x y = false := by
        rcases List.mem_cons.mp (p.mem_iff.mp (.head _)) with rfl | w
        · rw [lexP_no]; omega
        · exact k2.1 x w
      have a := lexP_no.mp a
      have b := lexP_no.mp b
      obtain ⟨x1, x2⟩ := x
      obtain ⟨y1, y2⟩ := y
      simp only at a b
      congr 1 <;> omega
    subst e
    rw [sortP_uniq h2.2 k2.2 (List.Perm.cons_inv p)]
theorem pairs_rel {ms xs : List Addr} {H : Hp} : ∀ {ds : List D} {vs : List V} {ps : List (Int × Int)}, RelDs r ms xs H ds vs → mapO pairO ds = some ps → ds = ps.map pairD ∧ vs.length = ps.length
  | [], vs, ps, h, e => by
    simp only [mapO] at e
    cases e
    simp only [RelDs] at h
    subst h
    exact ⟨rfl, rfl⟩
  | d :: ds, vs, ps, h, e => by
    simp only [mapO] at e
    split at e
    · rename_i p ps' e1 e2
      cases e
      obtain ⟨v, us, rfl, _, q⟩ := h.uncons
      obtain ⟨a, b⟩ := pairs_rel q e2
      have hd : d = pairD p := by
        unfold pairO at e1
        split at e1
        · cases e1; rfl
        · cases e1
      rw [a, hd]
      exact ⟨rfl, by simp [b]⟩
    · cases e
def keyP (H : Hp) : V → Int × Int
  | .ref a => match H a with
    | some (.tup [.int i, .int j]) => (i, j)
    | _ => (0, 0)
  | _ => (0, 0)
theorem pair_at {ms xs : List Addr} {H : Hp} {p : Int × Int} {v : V} (h : RelD r ms xs H (pairD p) v) : ∃ a, v = .ref a ∧ H a = some (.tup [.int p.1, .int p.2]) ∧ keyP H v = p := by
  simp only [pairD, RelD] at h
  obtain ⟨a, vs, rfl, ha, _, _, q⟩ := h
  obtain ⟨v1, us, rfl, q1, q2⟩ := q.uncons
  obtain ⟨v2, us2, rfl, q3, q4⟩ := q2.uncons
  have := q4.nil_eq; subst this
  simp only [RelD] at q1 q3
  subst q1 q3
  refine ⟨a, rfl, ha, ?_⟩
  simp only [keyP, ha]
theorem pairs_at {ms xs : List Addr} {H : Hp} : ∀ {ps : List (Int × Int)} {vs : List V}, RelDs r ms xs H (ps.map pairD) vs → (∀ v ∈ vs, RelD r ms xs H (pairD (keyP H v)) v) ∧ vs.map (keyP H) = ps
  | [], vs, h => by
    simp only [List.map_nil, RelDs] at h
    subst h
    exact ⟨fun v h => (by cases h), rfl⟩
  | p :: ps, vs, h => by
    rw [List.map_cons] at h
    obtain ⟨v, us, rfl, h1, h2⟩ := h.uncons
    obtain ⟨a, b⟩ := pairs_at h2
    obtain ⟨_, _, _, e⟩ := pair_at h1
    refine ⟨fun w hw => ?_, by rw [List.map_cons, e, b]⟩
    rcases List.mem_cons.mp hw with rfl | z
    · rw [e]; exact h1
    · exact a w z
theorem rel_pairs {ms xs : List Addr} {H : Hp} : ∀ {vs : List V}, (∀ v ∈ vs, RelD r ms xs H (pairD (keyP H v)) v) → RelDs r ms xs H ((vs.map (keyP H)).map pairD) vs
  | [], _ => by simp [RelDs]
  | v :: vs, h => by
    rw [List.map_cons, List.map_cons]
    exact .cons (h v (.head _)) (rel_pairs fun w hw => h w (.tail _ hw))
theorem so_sorted {m : Bool} (cx : Cxt X r C tx k) (hs : X.env.scope = ck.sc) (h : opOf ck (.sorted m) e = some es) (a : AllE X r C W is es) : PE X e (tE r C W (.op (.sorted m) is)) := by
  refine pe_bi (n := 0) hs h a (cr_sortedI.or cr_sortedPO) (cx.bi _ (by decide +kernel)) PyProof.Rows.boot_sorted (by decide +kernel) (by decide +kernel) fun ms xs H S vs ds Q s q g => ?_
  match ds, q, g with
  | [d], q, g =>
    obtain ⟨v, rfl, q0⟩ := q.one_inv
    simp only [opD] at g
    split at g
    · rename_i ns hy
      obtain ⟨ys, h1, h2⟩ := bi_bind hy
      obtain ⟨p, us, rfl, hp, q⟩ := asL_rel s q0 h1
      have := ints_rel q h2; subst this
      have hz := s.szl p _ hp
      refine .inl ⟨p, ns, rfl, .of hp, fun ns' l h3 h4 hl => ?_⟩
      have e : ns' = sortI ns := eq_of_le_perm h4 (sortI_le ns) (h3.trans (sortI_perm ns).symm)
      subst e
      refine newL_inv s g hl (rel_ints _) ?_
      rw [List.length_map, (sortI_perm ns).length_eq]
      rw [List.length_map] at hz; exact hz
    · split at g
      · rename_i ps hy
        obtain ⟨ys, h1, h2⟩ := bi_bind hy
        obtain ⟨p, us, rfl, hp, q⟩ := asL_rel s q0 h1
        obtain ⟨rfl, hlen⟩ := pairs_rel q h2
        obtain ⟨q1, q2⟩ := pairs_at q
        have hz := s.szl p _ hp
        refine .inr ⟨p, us, keyP H, rfl, .of hp, fun x hx => ?_, fun zs l h3 h4 hl => ?_⟩
        · obtain ⟨t, e1, e2, _⟩ := pair_at (q1 x hx)
          exact ⟨t, e1, e2⟩
        · have pm := h4.perm
          have e : zs.map (keyP H) = sortP ps := by
            refine sortP_uniq ?_ (sortP_up ps) (((pm.map (keyP H)).trans (by rw [q2])).trans (sortP_perm ps).symm)
            rw [List.pairwise_map]
            exact List.Pairwise.imp (fun {a b} z => by rw [lex_lexB]; exact z) h3
          rw [← e] at g
          refine newL_inv s g hl (rel_pairs fun v hv => q1 v (pm.mem_iff.mp hv)) ?_
          rw [pm.length_eq]
          exact hz
      · exact (VG.no g).elim
  | [], _, g => exact (VG.no g).elim
  | _ :: _ :: _, _, g => exact (VG.no g).elim
end
end Mi
namespace Mi
open PySem L2
section
variable {X : Cx} {r : Rx} {C : Cf} {W : WX} {tx : Tx} {k : Nat} {ck : Ck} {e : Expr} {es : List Expr} {is : Es}
def tyS : Ty → String
  | .int => "int"
  | .bool => "bool"
  | .list => "list"
  | .tuple => "tuple"
  | .str => "str"
def tyD : D → Option String
  | .non => some "NoneType"
  | .bl _ => some "bool"
  | .int _ => some "int"
  | .str _ => some "str"
  | .tup _ => some "tuple"
  | .fz _ => some "list"
  | _ => none
theorem kit_all (K : PySem.W.Frag) : ∀ (t : Ty),
    PySem.W.kitOne K (.type "NoneType") (.type (tyS t)) = some false ∧ PySem.W.kitOne K (.type "bool") (.type (tyS t)) = some (decide (t = .bool ∨ t = .int)) ∧ PySem.W.kitOne K (.type "int") (.type (tyS t)) = some (decide (t = .int)) ∧
    PySem.W.kitOne K (.type "str") (.type (tyS t)) = some (decide (t = .str)) ∧ PySem.W.kitOne K (.type "tuple") (.type (tyS t)) = some (decide (t = .tuple)) ∧ PySem.W.kitOne K (.type "list") (.type (tyS t)) = some (decide (t = .list)) ∧
    PySem.W.kitOne K (.type "dict") (.type (tyS t)) = some false
  | .int => ⟨kit_ty (by decide +kernel), kit_ty (by decide +kernel), kit_ty (by decide +kernel), kit_ty (by decide +kernel), kit_ty (by decide +kernel), kit_ty (by decide +kernel), kit_ty (by decide +kernel)⟩
  | .bool => ⟨kit_ty (by decide +kernel), kit_ty (by decide +kernel), kit_ty (by decide +kernel), kit_ty (by decide +kernel), kit_ty (by decide +kernel), kit_ty (by decide +kernel), kit_ty (by decide +kernel)⟩
  | .list => ⟨kit_ty (by decide +kernel), kit_ty (by decide +kernel), kit_ty (by decide +kernel), kit_ty (by decide +kernel), kit_ty (by decide +kernel), kit_ty (by decide +kernel), kit_ty (by decide +kernel)⟩
  | .tuple => ⟨kit_ty (by decide +kernel), kit_ty (by decide +kernel), kit_ty (by decide +kernel), kit_ty (by decide +kernel), kit_ty (by decide +kernel), kit_ty (by decide +kernel), kit_ty (by decide +kernel)⟩
  | .str => ⟨kit_ty (by decide +kernel), kit_ty (by decide +kernel), kit_ty (by decide +kernel), kit_ty (by decide +kernel), kit_ty (by decide +kernel), kit_ty (by decide +kernel), kit_ty (by decide +kernel)⟩
theorem ty_rel (cx : Cxt X r C tx k) {ms xs : List Addr} {H : Hp} {S : Store} {d : D} {v : V} {t : Ty} {b : Bool} (s : Sim r ms xs H S) (q : RelD r ms xs H d v) (h : isTy C.pr S t d = some b) :
    ∃ u, TyX X.K H v u ∧ PySem.W.kitOne X.K u (.type (tyS t)) = some b := by
  obtain ⟨k1, k2, k3, k4, k5, k6, k7⟩ := kit_all X.K t
  cases d with
  | non => cases h; rw [q.non_eq]; exact ⟨_, .base .non, k1⟩
  | bl x => cases h; rw [q.bl_eq]; exact ⟨_, .base (.bl x), k2⟩
  | int i => cases h; rw [q.int_eq]; exact ⟨_, .base (.int i), k3⟩
  | str i => cases h; obtain ⟨s, _, rfl⟩ := str_of q; exact ⟨_, .base (.str s), k4⟩
  | tup ds => cases h; simp only [RelD] at q; obtain ⟨a, vs, rfl, ha, _⟩ := q; exact ⟨_, .base (.tup ha), k5⟩
  | fz ds => cases h; simp only [RelD] at q; obtain ⟨a, vs, rfl, ha, _⟩ := q; exact ⟨_, .base (.lst ha), k6⟩
  | ref n =>
    simp only [isTy] at h
    simp only [RelD] at q
    obtain ⟨a, ha, rfl⟩ := q
    split at h
    · rename_i hn; cases h
      obtain ⟨vs, e, _⟩ := s.obj _ _ a hn ha
      exact ⟨_, .base (.lst e), k6⟩
    · rename_i c fs hn
      split at h
      · rename_i hm
        cases h
        obtain ⟨A, dx, gs, e, hc, _⟩ := s.obj _ _ a hn ha
        have I := cx.ins c A hc hm
        refine ⟨_, .base (.ins e I.cl I.ha I.hn I.htk I.hm), ?_⟩
        exact cx.kitO c A hc hm (tyS t) (by cases t <;> decide)
      · cases h
    · rename_i hn; cases h
      obtain ⟨ps, e, _⟩ := s.obj _ _ a hn ha
      exact ⟨_, .base (.dT e), k7⟩
    · cases h
  | dz => cases h; simp only [RelD] at q; obtain ⟨a, rfl, ha, _⟩ := q; exact ⟨_, .base (.dT ha), k7⟩
  | scr ds => cases h
  | fn f => cases h
  | cls c => cases h
  | lam c => cases h
theorem cl_rel (cx : Cxt X r C tx k) {ms xs : List Addr} {H : Hp} {S : Store} {d : D} {v : V} {c : Nat} {A : Addr} {b : Bool} (s : Sim r ms xs H S) (q : RelD r ms xs H d v) (hA : r.ca c = some A) (hk : C.pr.asks c = true) (h : isCl C.pr S c d = some b) :
    ∃ u, TyX X.K H v u ∧ PySem.W.kitOne X.K u (.ref A) = some b := by
  have kb := cx.kitB c A hA hk
  cases d with
  | non => cases h; rw [q.non_eq]; exact ⟨_, .base .non, kb _ (by decide)⟩
  | bl x => cases h; rw [q.bl_eq]; exact ⟨_, .base (.bl x), kb _ (by decide)⟩
  | int i => cases h; rw [q.int_eq]; exact ⟨_, .base (.int i), kb _ (by decide)⟩
  | str i => cases h; obtain ⟨s, _, rfl⟩ := str_of q; exact ⟨_, .base (.str s), kb _ (by decide)⟩
  | tup ds => cases h; simp only [RelD] at q; obtain ⟨a, vs, rfl, ha, _⟩ := q; exact ⟨_, .base (.tup ha), kb _ (by decide)⟩
  | fz ds => cases h; simp only [RelD] at q; obtain ⟨a, vs, rfl, ha, _⟩ := q; exact ⟨_, .base (.lst ha), kb _ (by decide)⟩
  | ref n =>
    simp only [isCl] at h
    simp only [RelD] at q
    obtain ⟨a, ha, rfl⟩ := q
    split at h
    · rename_i hn; cases h
      obtain ⟨vs, e, _⟩ := s.obj _ _ a hn ha
      exact ⟨_, .base (.lst e), kb _ (by decide)⟩
    · rename_i c' fs hn
      split at h
      · rename_i hm
        cases h
        obtain ⟨A', dx, gs, e, hc, _⟩ := s.obj _ _ a hn ha
        have I := cx.ins c' A' hc hm
        exact ⟨_, .base (.ins e I.cl I.ha I.hn I.htk I.hm), cx.kit c' c A' A hc hA hm hk⟩
      · cases h
    · rename_i hn; cases h
      obtain ⟨ps, e, _⟩ := s.obj _ _ a hn ha
      exact ⟨_, .base (.dT e), kb _ (by decide)⟩
    · cases h
  | dz => cases h; simp only [RelD] at q; obtain ⟨a, rfl, ha, _⟩ := q; exact ⟨_, .base (.dT ha), kb _ (by decide)⟩
  | scr ds => cases h
  | fn f => cases h
  | cls c => cases h
  | lam c => cases h
theorem isi_mg (cx : Cxt X r C tx k) : X.mg ("isinstance" : Str) = none := cx.bi _ (by decide +kernel)
theorem ty_boot (t : Ty) : bootBuiltins (tyN t) = some (.type (tyS t)) := by cases t <;> decide +kernel
theorem ty_nm (t : Ty) : tyN t ≠ "__name__" ∧ (tyN t == ("__debug__" : Str)) = false := by cases t <;> decide +kernel
theorem ty_mg (cx : Cxt X r C tx k) (t : Ty) : X.mg (tyN t) = none := by cases t <;> exact cx.bi _ (by decide +kernel)
theorem pe_isi {a c : Expr} {ta : TE} {cv : V} {p pos : Pos} (cx : Cxt X r C tx k) (hg : Gl X "isinstance") (ha : PE X a ta) (hc : PE X c (tC cv)) (sa : noStar a = true) (sc : noStar c = true) :
    PE X (.Call (.Name "isinstance" p) [a, c] [] pos) (tUn (fun x H Q => rIsi X.K [x, cv] H Q) ta) := by
  have h := pe_callB (p := p) (pos := pos) call_isi hg (isi_mg cx) PyProof.Rows.boot_isinstance (pa_cons ha (pa_cons hc pa_nil (star_of sc)) (star_of sa)) (by decide +kernel) (by decide +kernel) (star_of sa) (noStars (by simp [sc]))
  exact PE.imp h fun σ H Q q => q
theorem so_isT {t : Ty} (cx : Cxt X r C tx k) (hs : X.env.scope = ck.sc) (h : opOf ck (.isT t) e = some es) (a : AllE X r C W is es) : PE X e (tE r C W (.op (.isT t) is)) := by
  obtain ⟨x, p, pos, p2, rfl, rfl, h1, h2⟩ := isE_inv h
  have st := a.star
  simp only [List.all_cons, Bool.and_eq_true] at st
  refine pe_one1 a (fun ta ha => pe_isi cx (gl_of hs h1) ha (pe_bltn (v := .ty (tyS t)) (gl_of hs h2) (ty_mg cx t) (ty_boot t) rfl (ty_nm t).1 (ty_nm t).2) st.1 rfl) fun ms xs H S v d Q s q g => ?_
  simp only [opD] at g
  split at g
  · rename_i b hb
    obtain ⟨u, h3, h4⟩ := ty_rel cx s q hb
    exact ⟨v, _, u, _, b, rfl, .ty _, h3, h4, VG.val g s .of_bl⟩
  · exact (VG.no g).elim
theorem so_isC {c : Nat} (cx : Cxt X r C ck.tx k) (hs : X.env.scope = ck.sc) (hnm : ∀ x, ck.tx.cls[c]? = some x → (x == ("__debug__" : Str)) = false) (h : opOf ck (.isC c) e = some es) (a : AllE X r C W is es) : PE X e (tE r C W (.op (.isC c) is)) := by
  simp only [opOf] at h
  split at h
  · rename_i y hy
    obtain ⟨x, p, pos, p2, rfl, rfl, h1, h2⟩ := isE_inv h
    obtain ⟨A, hA, hm⟩ := cx.clsN c y hy
    have st := a.star
    simp only [List.all_cons, Bool.and_eq_true] at st
    refine pe_one1 a (fun ta ha => pe_isi cx (gl_of hs h1) ha (pe_glob (v := .ref A) (gl_of hs h2) hm rfl (hnm y hy)) st.1 rfl) fun ms xs H S v d Q s q g => ?_
    simp only [opD] at g
    split at g
    · rename_i hk
      split at g
      · rename_i b hb
        obtain ⟨u, h3, h4⟩ := cl_rel cx s q hA hk hb
        exact ⟨v, _, u, _, b, rfl, .own A, h3, h4, VG.val g s .of_bl⟩
      · exact (VG.no g).elim
    · exact (VG.no g).elim
  · cases h
theorem hasF_makes {pr : Prog} {c n : Nat} (h : pr.hasF c n = true) : pr.makes c = true := by
  unfold Prog.hasF at h
  unfold Prog.makes
  split at h
  · rename_i k hk
    simp only [Bool.and_eq_true] at h
    exact h.1
  · cases h
theorem attr_ne (cx : Cxt X r C tx k) {n m : Nat} {f g : Str} (h1 : tx.attrs[n]? = some f) (h2 : tx.attrs[m]? = some g) (h : n ≠ m) : f ≠ g := fun z => by
  subst z
  exact h ((List.getElem?_inj (List.getElem?_eq_some_iff.mp h1).1 cx.and_).mp (h1.trans h2.symm))
theorem fld_rel (cx : Cxt X r C tx k) {ms xs : List Addr} {H : Hp} {n : Nat} {f : Str} (hf : tx.attrs[n]? = some f) : ∀ {fs : List (Nat × D)} {gs : List (Str × V)}, RelF r ms xs H fs gs →
    (lookN n fs = none ∧ gs.lookup f = none) ∨ ∃ d v, lookN n fs = some d ∧ gs.lookup f = some v ∧ RelD r ms xs H d v
  | [], gs, h => by cases (show gs = [] from h); exact .inl ⟨rfl, rfl⟩
  | (m, d) :: fs, gs, h => by
    obtain ⟨s, v, us, rfl, hs, q, h⟩ := h
    rw [cx.attrs] at hs
    by_cases e : m = n
    · subst e
      rw [hs] at hf; cases hf
      exact .inr ⟨d, v, by simp [lookN], by simp [List.lookup], q⟩
    · have hne : (f == s) = false := beq_eq_false_iff_ne.mpr fun z => attr_ne cx hs hf e z.symm
      have e3 : lookN n ((m, d) :: fs) = lookN n fs := by simp [lookN, e]
      have e4 : List.lookup f ((s, v) :: us) = us.lookup f := by simp [List.lookup, hne]
      rw [e3, e4]
      exact fld_rel cx hf h
theorem so_attr {n : Nat} (cx : Cxt X r C ck.tx k) (h : opOf ck (.attr n) e = some es) (a : AllE X r C W is es) : PE X e (tE r C W (.op (.attr n) is)) := by
  simp only [opOf] at h
  split at h
  · rename_i x f pos
    split at h
    · rename_i hc
      cases h
      obtain ⟨hf, hb⟩ := hc
      refine pe_one1 (rr := fun x H1 Q => ∃ a A dx fs v, x = .ref a ∧ H1 a = some (.ins A dx fs) ∧ Cls X.K A ∧ NoAttr X.K A f ∧ fs.lookup f = some v ∧ Q v H1) a (fun ta ha => pe_fld ha (base_of hb)) fun ms xs H S v d Q s q g => ?_
      simp only [opD] at g
      split at g
      · rename_i m
        simp only [RelD] at q
        obtain ⟨p, hp, rfl⟩ := q
        split at g
        · rename_i c fs hn
          split at g
          · rename_i hF
            obtain ⟨A, dx, gs, e1, e2, e3⟩ := s.obj _ _ p hn hp
            rcases fld_rel cx hf e3 with ⟨h1, h2⟩ | ⟨d, v, h1, h2, h3⟩
            · rw [h1] at g; exact (VG.no g).elim
            · rw [h1] at g
              exact ⟨p, A, dx, gs, v, rfl, e1, (cx.ins c A e2 (hasF_makes hF)).cl, cx.noat c n A f e2 hF hf, h2, VG.val g s h3⟩
          · exact (VG.no g).elim
        · exact (VG.no g).elim
      · exact (VG.no g).elim
    · cases h
  · cases h

theorem set_len {w : World} {h : Heap} {a : Addr} {ns : List Int} {n : Nat} (R : SetR w h a (fun j => decide (j ∈ ns)) n) : n = (nubI ns).length := by
  obtain ⟨o, es, ep, t, ho, hex, hd, gg, nd, hm, hb, hf, hn, _⟩ := R
  rw [← hn, ← Array.length_toList, ← List.length_map (f := keyOf)]
  exact len_of_nodup nd (nodup_nubI ns) fun k => by rw [mem_nubI, ← hm k]; simp
def rLenSet (K : PySem.W.Frag) : V → Hp → VK → Prop := fun x H Q => (∃ (l : Addr) (ns : List Int), x = .ref l ∧ H l = some (.lst (ns.map V.int)) ∧ ns.length < 1000 ∧ Q (.int (nubI ns).length) H) ∨
  ∃ (l : Addr) (ts : List (Addr × List Int)), x = .ref l ∧ H l = some (.lst (ts.map fun t => V.ref t.1)) ∧ (∀ t ∈ ts, H t.1 = some (.tup (t.2.map V.int))) ∧ ts.length < 64 ∧ Q (.int (nubT (ts.map (·.2))).length) H
theorem vals_refs : ∀ {ts : List (Addr × List Int)} {us : List Value}, Vals (ts.map fun t => V.ref t.1) us → us = ts.map fun t => Value.ref t.1
  | [], us, r => by cases r; rfl
  | t :: ts, us, r => by
    cases r with
    | cons r1 r2 => rw [List.map_cons, ← vals_refs r2]; cases r1; rfl
theorem items_of {P : Program} {w : World} : ∀ {ns : List Int} {us : List Value}, Vals (ns.map V.int) us → ItemsAre (intKind P w) ns us
  | [], us, r => by cases r; exact .nil
  | n :: ns, us, r => by
    cases r with
    | cons r1 r2 =>
      obtain ⟨t, rfl⟩ := r1
      exact .cons (intKind_is _ _ _ _) (items_of r2)
theorem tup_isT {pins : List (Addr × Obj)} {σ : L2.St} {H : Hp} {s : Shared} {a : Addr} {ns : List Int} (I : Inv X pins σ H s) (h : H a = some (.tup (ns.map V.int))) : IsT X.prog X.w s.heap ns a := by
  obtain ⟨_, its, rv, o, ho, hc, n, hd⟩ := I.hok a _ h
  exact ⟨o, its.toArray, n, ho, hc, hd, by simpa using items_of rv⟩
theorem got_len {ks L : List (Addr × List Int)} (g : Got ks ks.length L) (nd : (L.map (·.2)).Nodup) : L.length = (nubT (ks.map (·.2))).length := by
  rw [← List.length_map (f := (·.2))]
  refine len_of_nodup nd (nodup_nubT _) fun k => ?_
  rw [mem_nubT]
  constructor
  · intro h
    obtain ⟨p, hp, rfl⟩ := List.mem_map.mp h
    have := g.sub p hp
    rw [List.take_length] at this
    exact List.mem_map_of_mem this
  · intro h
    obtain ⟨p, hp, rfl⟩ := List.mem_map.mp h
    exact g.all p (by rw [List.take_length]; exact hp)
theorem pe_lenset {a : Expr} {ta : TE} {p p2 q pos : Pos} (cx : Cxt X r C tx k) (hg : Gl X "len") (hg2 : Gl X "set") (ha : PE X a ta) (na : noStar a = true) :
    PE X (.Call (.Name "len" p) [.Call (.Name "set" p2) [a] [] q] [] pos) (tUn (rLenSet X.K) ta) := by
  refine ⟨fun pins s σ H Q I h => ?_⟩
  refine PyProof.Rows.Call_ (ld_blt I hg (cx.bi _ (by decide +kernel)) PySem.boot_len ?_)
  refine PyProof.Rows.callWith_builtin1 (PyProof.Rows.args_cons ?_ rfl) rfl rfl
  refine PyProof.Rows.Call_ (ld_blt I hg2 (cx.bi _ (by decide +kernel)) PyProof.Rows.boot_set ?_)
  refine PyProof.Rows.callWith_type1 (PyProof.Rows.args_cons (thn (ha.run pins s σ H _ I h) fun v s1 ⟨x, H1, I1, r1, q1⟩ => PyProof.Rows.args_nil ?_) (star_of na)) (star_of na) rfl
  rcases q1 with ⟨l, ns, rfl, hl, hz, q1⟩ | ⟨l, ts, rfl, hl, ht, hz, q1⟩
  · cases r1
    obtain ⟨its, rv, pl, _⟩ := I1.list (.of hl)
    refine set_of_ints ns (I1.ok.hd cx.calm) pl.isList (by simpa using rv.ints) (by unfold scanBound; omega) fun h' tk c R hk => ?_
    refine PyProof.Rows.args_nil ?_
    have I2 : Inv X pins σ H1 { s1 with heap := h', toks := tk } := I1.kept hk
    have e := set_len R
    obtain ⟨o, es, ep, t, ho, hex, hd, _, _, _, hb, hf, hn, _⟩ := R
    have hb2 : es.size < 4096 := hb
    have e2 : es.size = (nubI ns).length := hn.trans e
    refine call_len_set ho hex hd hf (by omega) ⟨.int (nubI ns).length, H1, I2.tok _, ⟨tk + 1, ?_⟩, q1⟩
    rw [e2]
  · cases r1
    obtain ⟨its, rv, pl, _⟩ := I1.list (.of hl)
    have hu : X.A.units + 3 < cLine := by have := cx.room.un; omega
    refine call_set_tups ts (I1.ok.hd cx.calm) pl.isList (by simpa using vals_refs rv) (fun p hp => tup_isT I1 (ht p hp)) hz hu fun h' tk L es ep t R gt hk => ?_
    refine PyProof.Rows.args_nil ?_
    have I2 : Inv X pins σ H1 { s1 with heap := h', toks := tk } := I1.kept hk
    have e := got_len gt R.nd
    have hfit := SetTR.fits (s := { s1 with heap := h', toks := tk }) R
    obtain ⟨o, ho, hex, hd⟩ := R.ob
    have e2 : es.size = (nubT (ts.map (·.2))).length := by
      rw [← e, ← Array.length_toList, R.rows]
      simp [rowsOf]
    have hle : (nubT (ts.map (·.2))).length < 64 := by
      have := gt.len
      omega
    refine call_len_set ho hex hd hfit (by omega) ⟨.int (nubT (ts.map (·.2))).length, H1, I2.tok _, ⟨tk + 1, ?_⟩, q1⟩
    rw [e2]
theorem tups_rel {ms xs : List Addr} {H : Hp} : ∀ {ds : List D} {vs : List V} {ns : List (List Int)}, RelDs r ms xs H ds vs → mapO tupI ds = some ns → ∃ ts : List (Addr × List Int), vs = ts.map (fun t => V.ref t.1) ∧ ts.map (·.2) = ns ∧ ∀ t ∈ ts, H t.1 = some (.tup (t.2.map V.int))
  | [], vs, ns, q, h => by have := mapO_nil h; subst this; exact ⟨[], q.nil_eq, rfl, fun t ht => by cases ht⟩
  | d :: ds, vs, ns, q, h => by
    obtain ⟨y, zs, h1, h2, rfl⟩ := mapO_cons h
    obtain ⟨v, us, rfl, q1, q2⟩ := q.uncons
    obtain ⟨b, rfl, hb⟩ := tupI_rel q1 h1
    obtain ⟨ts, rfl, rfl, ht⟩ := tups_rel q2 h2
    refine ⟨(b, y) :: ts, rfl, rfl, fun t ht' => ?_⟩
    rcases List.mem_cons.mp ht' with e | e
    · subst e
      have e3 : (y.map Sum.inl : List Key).map kV = y.map V.int := by rw [List.map_map]; rfl
      rw [← e3]; exact hb
    · exact ht t e
theorem so_lenset (cx : Cxt X r C tx k) (hs : X.env.scope = ck.sc) (h : opOf ck .lenset e = some es) (a : AllE X r C W is es) : PE X e (tE r C W (.op .lenset is)) := by
  obtain ⟨x, p, pos, p2, pos2, rfl, rfl, h1, h2⟩ := bi2E_inv h
  have st := a.star
  simp only [List.all_cons, Bool.and_eq_true] at st
  refine pe_one1 a (fun ta ha => pe_lenset cx (gl_of hs h1) (gl_of hs h2) ha st.1) fun ms xs H S v d Q s q g => ?_
  simp only [opD] at g
  split at g
  · rename_i ds hy
    obtain ⟨l, vs, rfl, hl, q⟩ := asL_rel s q hy
    split at g
    · rename_i ns hn
      split at g
      · rename_i hz
        have := ints_rel q hn; subst this
        exact .inl ⟨l, ns, rfl, hl, hz, VG.val g s .of_int⟩
      · exact (VG.no g).elim
    · split at g
      · rename_i ns hn
        split at g
        · rename_i hz
          obtain ⟨ts, rfl, rfl, ht⟩ := tups_rel q hn
          exact .inr ⟨l, ts, rfl, hl, ht, by simpa using hz, VG.val g s .of_int⟩
        · exact (VG.no g).elim
      · exact (VG.no g).elim
  · exact (VG.no g).elim
def rSortSet : V → Hp → VK → Prop := fun x H Q => ∃ (l : Addr) (ns : List Int), x = .ref l ∧ H l = some (.lst (ns.map V.int)) ∧ ns.length < 1000 ∧ (nubI ns).length < 64 ∧ ∀ p, H p = none → Q (.ref p) (upd H p (.lst ((sortI (nubI ns)).map V.int)))
theorem pe_sortset {a : Expr} {ta : TE} {p p2 q pos : Pos} (cx : Cxt X r C tx k) (hg : Gl X "sorted") (hg2 : Gl X "set") (ha : PE X a ta) (na : noStar a = true) :
    PE X (.Call (.Name "sorted" p) [.Call (.Name "set" p2) [a] [] q] [] pos) (tUn rSortSet ta) := by
  refine ⟨fun pins s σ H Q I h => ?_⟩
  refine PyProof.Rows.Call_ (ld_blt I hg (cx.bi _ (by decide +kernel)) PyProof.Rows.boot_sorted ?_)
  refine PyProof.Rows.callWith_builtin1 (PyProof.Rows.args_cons ?_ rfl) rfl rfl
  refine PyProof.Rows.Call_ (ld_blt I hg2 (cx.bi _ (by decide +kernel)) PyProof.Rows.boot_set ?_)
  refine PyProof.Rows.callWith_type1 (PyProof.Rows.args_cons (thn (ha.run pins s σ H _ I h) fun v s1 ⟨x, H1, I1, r1, q1⟩ => PyProof.Rows.args_nil ?_) (star_of na)) (star_of na) rfl
  obtain ⟨l, ns, rfl, hl, hz, hz2, q1⟩ := q1
  cases r1
  obtain ⟨its, rv, pl, _⟩ := I1.list (.of hl)
  refine set_of_ints ns (I1.ok.hd cx.calm) pl.isList (by simpa using rv.ints) (by unfold scanBound; omega) fun h' tk c R hk => ?_
  refine PyProof.Rows.args_nil ?_
  have I2 : Inv X pins σ H1 { s1 with heap := h', toks := tk } := I1.kept hk
  have e := set_len R
  refine sorted_set R (I1.ok.hd cx.calm) (by omega) fun s' pp out cc ns' k1 g1 o1 hp ho hi hlt hmem hlen => ?_
  have e3 : ns' = sortI (nubI ns) := eq_of_lt_mem hlt (sort_nub_lt ns) fun j => by rw [hmem j, mem_sortI, mem_nubI]; simp
  subst e3
  have hz3 : ((sortI (nubI ns)).map V.int).length ≤ sizeLine := by rw [List.length_map, (sortI_perm _).length_eq]; exact sz_of (by omega)
  have fresh : H1 pp = none := I2.hok.fresh hp
  have ob : ObjOk X.prog X.w (upd H1 pp (.lst ((sortI (nubI ns)).map V.int))) s'.heap pp (.lst ((sortI (nubI ns)).map V.int)) := ⟨hz3, out.toList, cc, vals_of_ints hi, by simpa [PyProof.Rows.seqObj] using ho⟩
  have hok : HOk X.prog X.w (upd H1 pp (.lst ((sortI (nubI ns)).map V.int))) s'.heap := I2.hok.laid k1 hp ob
  exact ⟨.ref pp, _, I2.call' (ch := []) o1 (Un.laid k1 hp fresh) hok (by rw [g1]; exact I2.bare) (fun b hb => by cases hb), rfl, q1 pp fresh⟩
theorem so_sortset {m : Bool} (cx : Cxt X r C tx k) (hs : X.env.scope = ck.sc) (h : opOf ck (.sortset m) e = some es) (a : AllE X r C W is es) : PE X e (tE r C W (.op (.sortset m) is)) := by
  obtain ⟨x, p, pos, p2, pos2, rfl, rfl, h1, h2⟩ := bi2E_inv h
  have st := a.star
  simp only [List.all_cons, Bool.and_eq_true] at st
  refine pe_one1 a (fun ta ha => pe_sortset cx (gl_of hs h1) (gl_of hs h2) ha st.1) fun ms xs H S v d Q s q g => ?_
  simp only [opD] at g
  split at g
  · rename_i ns hy
    obtain ⟨ds, hy, hn⟩ := bi_bind hy
    obtain ⟨l, vs, rfl, hl, q⟩ := asL_rel s q hy
    split at g
    · rename_i hz
      have := ints_rel q hn; subst this
      refine ⟨l, ns, rfl, hl, hz.2, hz.1, fun p hp => newL_inv s g hp (rel_ints _) ?_⟩
      rw [List.length_map, (sortI_perm _).length_eq]; exact sz_of (by omega)
    · exact (VG.no g).elim
  · exact (VG.no g).elim
theorem rel_range {ms xs : List Addr} {H : Hp} (n : Int) : RelDs r ms xs H ((List.range n.toNat).map fun k => .int (k : Nat)) (rgV 0 n) := by
  have e : rgV 0 n = ((List.range n.toNat).map fun k : Nat => (k : Int)).map V.int := by
    unfold rgV
    rw [List.map_map, Int.sub_zero]
    refine List.map_congr_left fun k _ => ?_
    show V.int (0 + (k : Int)) = V.int k
    rw [Int.zero_add]
  have e2 : ((List.range n.toNat).map fun k => D.int (k : Nat)) = ((List.range n.toNat).map fun k : Nat => (k : Int)).map .int := by rw [List.map_map]; rfl
  rw [e, e2]
  exact rel_ints _
theorem rg_ok {n : Int} (h : n ≤ 1000000) (h0 : 0 ≤ n) : RgOk 0 n := RgOk.of_le (by omega) (by omega) (by omega) h0
theorem so_listR {m : Bool} (cx : Cxt X r C tx k) (hs : X.env.scope = ck.sc) (h : opOf ck (.listR m) e = some es) (a : AllE X r C W is es) : PE X e (tE r C W (.op (.listR m) is)) := by
  obtain ⟨x, p, pos, p2, pos2, rfl, rfl, h1, h2⟩ := bi2E_inv h
  have st := a.star
  simp only [List.all_cons, Bool.and_eq_true] at st
  refine pe_one1 (rr := fun x H Q => ∃ n, x = .int n ∧ RgOk 0 n ∧ ∀ q, H q = none → Q (.ref q) (upd H q (.lst (rgV 0 n)))) a (fun ta ha => pe_listRg cx.calm (gl_of hs h1) (cx.bi _ (by decide +kernel)) (prg_1 (gl_of hs h2) (cx.bi _ (by decide +kernel)) ha (star_of st.1)) rfl) fun ms xs H S v d Q s q g => ?_
  simp only [opD] at g
  split at g
  · split at g
    · rename_i hz
      refine ⟨_, q.int_eq, rg_ok hz.2 hz.1, fun p hp => newL_inv s g hp (rel_range _) ?_⟩
      rw [rgV_length]; exact sz_of (by omega)
    · exact (VG.no g).elim
  · exact (VG.no g).elim
theorem so_tupleR (cx : Cxt X r C tx k) (hs : X.env.scope = ck.sc) (h : opOf ck .tupleR e = some es) (a : AllE X r C W is es) : PE X e (tE r C W (.op .tupleR is)) := by
  obtain ⟨x, p, pos, p2, pos2, rfl, rfl, h1, h2⟩ := bi2E_inv h
  have st := a.star
  simp only [List.all_cons, Bool.and_eq_true] at st
  refine pe_one1 (rr := fun x H Q => ∃ n, x = .int n ∧ RgOk 0 n ∧ ∀ q, H q = none → Q (.ref q) (upd H q (.tup (rgV 0 n)))) a (fun ta ha => pe_tupRg cx.calm (gl_of hs h1) (cx.bi _ (by decide +kernel)) (prg_1 (gl_of hs h2) (cx.bi _ (by decide +kernel)) ha (star_of st.1)) rfl) fun ms xs H S v d Q s q g => ?_
  simp only [opD] at g
  split at g
  · split at g
    · rename_i hz
      refine ⟨_, q.int_eq, rg_ok hz.2 hz.1, fun p hp => newT_inv s g hp (rel_range _) ?_⟩
      rw [rgV_length]; exact sz_of (by omega)
    · exact (VG.no g).elim
  · exact (VG.no g).elim
theorem so_cmp {o : Op} {op : CmpOp} (v : CmpV X r C o op) (h : cmpE op e = some es) (a : AllE X r C W is es) : PE X e (tE r C W (.op o is)) := by
  obtain ⟨rr, ho, hv⟩ := v
  exact pe_cmp2 h a ho hv
theorem so_op {o : Op} (cx : Cxt X r C ck.tx k) (hs : X.env.scope = ck.sc) (hnm : ∀ x ∈ ck.tx.cls, (x == ("__debug__" : Str)) = false) (h : opOf ck o e = some es) (a : AllE X r C W is es) : PE X e (tE r C W (.op o is)) := by
  cases o with
  | add m => exact so_add h a
  | sub => exact so_sub h a
  | mul m => exact so_mul h a
  | fdiv => exact so_fdiv h a
  | mod => exact so_mod h a
  | pow => exact so_pow h a
  | shl => exact so_shl h a
  | shr => exact so_shr h a
  | band => exact so_band h a
  | neg => exact so_neg h a
  | eq => exact so_cmp (cv_eq cx) h a
  | ne => exact so_cmp (cv_ne cx) h a
  | lt => exact so_cmp (cv_lt cx) h a
  | le => exact so_cmp (cv_le) h a
  | gt => exact so_cmp (cv_gt) h a
  | ge => exact so_cmp (cv_ge) h a
  | is => exact so_cmp (cv_is) h a
  | isnot => exact so_cmp (cv_isnot) h a
  | isin => exact so_cmp (cv_isin cx) h a
  | notin => exact so_cmp (cv_notin cx) h a
  | idx => exact so_idx cx h a
  | slc m lo hi => exact so_slc cx h a
  | rev m => exact so_rev cx h a
  | mkL m => exact so_mkL h a
  | mkT => exact so_mkT h a
  | mkD => exact so_mkD h a
  | mkZ => exact so_mkZ h a
  | txm k t => exact so_txm cx h a
  | len => exact so_len cx hs h a
  | isT t => exact so_isT cx hs h a
  | isC c => exact so_isC cx hs (fun x hx => hnm x (List.mem_of_getElem? hx)) h a
  | list m => exact so_list cx hs h a
  | tuple => exact so_tuple cx hs h a
  | all => exact so_all cx hs h a
  | any => exact so_any cx hs h a
  | sum => exact so_sum cx hs h a
  | max1 => exact so_max1 cx hs h a
  | min1 => exact so_min1 cx hs h a
  | max2 => exact so_max2 cx hs h a
  | min2 => exact so_min2 cx hs h a
  | abs => exact so_abs cx hs h a
  | sorted m => exact so_sorted cx hs h a
  | lenset => exact so_lenset cx hs h a
  | sortset m => exact so_sortset cx hs h a
  | listR m => exact so_listR cx hs h a
  | tupleR => exact so_tupleR cx hs h a
  | attr n => exact so_attr cx h a
  | append => cases h
  | extend => cases h
  | pop => cases h
  | clear => cases h
  | reverse => cases h
  | insert => cases h
  | index => cases h
  | count => cases h
end
end Mi
namespace Mi
open PySem L2
section
variable {X : Cx} {k : Nat} {f C : Addr} {fd : FuncData} {ps : List Str} {sp : Sp} {E : L2.St → XK} {x m : Str} {p pos apos : Pos} {e o : Expr} {es : List Expr} {t : TA} {to : TE}
theorem pe_callS0 {CX : CXT} (F : FnOk X.prog X.w X.K X.mg X.base CX k f fd ps sp) (hr : Room k X.A) (hg : Gl X x) (hm : X.mg x = some (.ref f)) (hk : PySem.W.keepIn X.K (.ref f) = true) (hb : Binds X.K fd ps []) (hx : ∀ σ, PassesAt CX X σ (E σ))
    (hdb : (x == ("__debug__" : Str)) = false) : PE X (.Call (.Name x p) [] [] pos) (tCallS sp E tNil) := by
  refine ⟨fun pins s σ H Q I h => ?_⟩
  refine wpAny_Call_Name_kw (ld_glob I hg hm ?_ hdb)
  exact PySem.W.callWith_K0 I.kIn hk (run_fnS (us := []) F hr hb (hx σ) I .nil h)
def tCallU (X : Cx) (k i : Nat) (E : L2.St → XK) (t : TA) : TE := fun σ H Q => ∃ f fd ps sp, σ[i]? = some (some (.ref f)) ∧ FnOk X.prog X.w X.K X.mg X.base (L2.CX X.prog X.w) k f fd ps sp ∧ Binds X.K fd ps [] ∧ PySem.W.keepIn X.K (.ref f) = true ∧ t σ H fun vs H1 => sp vs H1 Q (E σ)
theorem pe_callU {i : Nat} (hr : Room k X.A) (hN : X.N[i]? = some x) (hv : Vis X.env.scope x) (hx : ∀ σ, PassesAt (L2.CX X.prog X.w) X σ (E σ)) (ha : PA X (e :: es) t) (hdb : (x == ("__debug__" : Str)) = false) (hcd : (x == ("__classdict__" : Str)) = false)
    (he : starEach (e :: es) X.env = (false, eval e X.env) :: starEach es X.env) (hpl : (backTo pos (starEach es X.env)).any (·.1) = false) : PE X (.Call (.Name x p) (e :: es) [] pos) (tCallU X k i E t) := by
  refine ⟨fun pins s σ H Q I h => ?_⟩
  obtain ⟨f, fd, ps, sp, hs, F, hb, hk, ht⟩ := h
  refine wpAny_Call_Name_kw (thn ((pe_var (pos := p) hN hv hdb hcd).run pins s σ H (fun v H1 => v = .ref f ∧ H1 = H) I ⟨.ref f, hs, rfl, rfl⟩) fun u s1 ⟨v, H1, I1, r1, q1⟩ => ?_)
  obtain ⟨rfl, rfl⟩ := q1
  cases r1
  refine PySem.W.callWith_K (h₀ := X.base) I.ok.mod.kin hk (thn (ha.run pos pins s1 σ _ _ I1 ht) fun us s2 ⟨vs, H2, I2, r, q⟩ => ⟨I2.kIn, ?_⟩) he hpl
  exact run_fnS F hr hb (hx σ) I2 r q
def tMethU (X : Cx) (k : Nat) (m : Str) (E : L2.St → XK) (to : TE) (t : TA) : TE := fun σ H Q => to σ H fun x H1 => ∃ a A dx fs f fd ps sp, x = .ref a ∧ H1 a = some (.ins A dx fs) ∧ Cls X.K A ∧ Meth X.K A m f ∧ fs.lookup m = none ∧
  FnOk X.prog X.w X.K X.mg X.base (L2.CX X.prog X.w) k f fd ps sp ∧ Binds X.K fd ps [] ∧ t σ H1 fun vs H2 => sp (.ref a :: vs) H2 Q (E σ)
theorem few_of {cpos : Pos} {env : PySem.Env} (h : es.all noStar = true) (hl : es.length < 20) : methodCallForm (es.length + ([] : List Keyword).length) (backTo cpos (starEach es env)) (backToKw cpos (keywordEach [] env)) = true := by
  have h1 : (backTo cpos (starEach es env)).all (!·.1) = true := by
    clear hl
    induction es with
    | nil => rfl
    | cons e es ih =>
      simp only [List.all_cons, Bool.and_eq_true] at h
      rw [star_of h.1]
      show (true && (backTo cpos (starEach es env)).all (!·.1)) = true
      rw [ih h.2]; rfl
  unfold methodCallForm
  rw [h1]
  show (true && true && decide (es.length + 0 + 0 < 30)) = true
  rw [decide_eq_true (by omega)]; rfl
theorem pe_methU (hr : Room k X.A) (he : PE X o to) (hx : ∀ σ, PassesAt (L2.CX X.prog X.w) X σ (E σ)) (ha : PA X (e :: es) t) (hb : baseOk o = true) (hs : (e :: es).all noStar = true) (hl : (e :: es).length < 20) (hline : (apos.endLine == pos.line) = true) :
    PE X (.Call (.Attribute o m apos) (e :: es) [] pos) (tMethU X k m E to t) := by
  refine ⟨fun pins s σ H Q I h => ?_⟩
  rw [mcall_of (base_of hb) (fun ov => rfl)]
  refine wpAny_bind (thn (he.run pins s σ H _ I h) fun u s1 ⟨x, H1, I1, rx, q1⟩ => wpAny_bind (wpAny_standAt ?_))
  obtain ⟨a, A, dx, fs, f, fd, ps, sp, rfl, ea, c, hm, l, F, hB, q⟩ := q1
  obtain rfl : u = Value.ref a := rx
  unfold methodCall
  rw [few_of hs hl]
  unfold calleeOf methodCallPos
  rw [if_pos rfl, if_pos (by rw [hline]; rfl)]
  refine wpAny_bind (wpAny_holding (getmeth_ok I1 ea c hm l ?_))
  refine wpAny_bind (wpAny_pure ?_)
  simp only [List.all_cons, Bool.and_eq_true] at hs
  refine PySem.W.callWith_K (first := [.ref a]) (h₀ := X.base) I.ok.mod.kin hm.kp (thn (ha.run pos pins s1 σ H1 _ I1 q) fun us s2 ⟨vs, H2, I2, r, q2⟩ => ⟨I2.kIn, ?_⟩) (star_of hs.1) (noStars hs.2)
  exact run_fnS (us := .ref a :: us) (vs := .ref a :: vs) F hr hB (hx σ) I2 (.cons rfl r) q2
theorem pe_methU0 (hr : Room k X.A) (he : PE X o to) (hx : ∀ σ, PassesAt (L2.CX X.prog X.w) X σ (E σ)) (hb : baseOk o = true) (hline : (apos.endLine == pos.line) = true) :
    PE X (.Call (.Attribute o m apos) [] [] pos) (tMethU X k m E to tNil) := by
  refine ⟨fun pins s σ H Q I h => ?_⟩
  rw [mcall_of (base_of hb) (fun ov => rfl)]
  refine wpAny_bind (thn (he.run pins s σ H _ I h) fun u s1 ⟨x, H1, I1, rx, q1⟩ => wpAny_bind (wpAny_standAt ?_))
  obtain ⟨a, A, dx, fs, f, fd, ps, sp, rfl, ea, c, hm, l, F, hB, q⟩ := q1
  obtain rfl : u = Value.ref a := rx
  unfold methodCall
  rw [few_of (es := []) rfl (by decide)]
  unfold calleeOf methodCallPos
  rw [if_pos rfl, if_pos (by rw [hline]; rfl)]
  refine wpAny_bind (wpAny_holding (getmeth_ok I1 ea c hm l ?_))
  refine wpAny_bind (wpAny_pure ?_)
  exact PySem.W.callWith_K0 (first := [.ref a]) I1.kIn hm.kp (run_fnS (us := [.ref a]) (vs := [.ref a]) F hr hB (hx σ) I1 (.cons rfl .nil) q)

theorem run_makeS {pins : List (Addr × Obj)} {σ : L2.St} {H : Hp} {s : Shared} {Q : VK} {us : List Value} {vs : List V} (M : Mk X.K C f) (F : FnOk X.prog X.w X.K X.mg X.base (L2.CX X.prog X.w) k f fd ps sp) (hr : Room (k + 1) X.A) (hb : Binds X.K fd ps [])
    (hx : ∀ σ, PassesAt (L2.CX X.prog X.w) X σ (E σ)) (I : Inv X pins σ H s) (r : Vals vs us)
    (h : ∀ x dx, H x = none → H dx = none → dx ≠ x → sp (.ref x :: vs) (upd (upd H dx (.own x)) x (.ins C dx [])) (fun v H2 => v = .non ∧ Q (.ref x) H2) (E σ)) :
    wpAny (model X.prog X.w) X.A (call (.ref C) us) (EP X pins σ Q) X.xe s := by
  have hq := h (s.heap.objs.size + 1) s.heap.objs.size (I.hok.fresh (Nat.le_succ _)) (I.hok.fresh (Nat.le_refl _)) (Nat.ne_of_lt (Nat.lt_succ_self _))
  have I2 := Inv.made (C := C) I
  have r2 : Vals (V.ref (s.heap.objs.size + 1) :: vs) (Value.ref (s.heap.objs.size + 1) :: us) := .cons rfl r
  have hl : (Value.ref (s.heap.objs.size + 1) :: us).length = ps.length := by rw [← F.len _ _ _ _ hq]; exact r2.length.symm
  have b := hb { s with heap := (s.heap.push PySem.W.emptyDict).push (PySem.W.instObj C s.heap.objs.size) } (Value.ref (s.heap.objs.size + 1) :: us) I2.kIn (by rw [List.append_nil]; exact hl)
  rw [List.append_nil] at b
  refine wpAny_call (make_map (f := f) I.kIn M.makes M.init (beq_iff_eq.mp M.fn) (codeAny_mono (F.run _ X.stack _ _ ⟨_, []⟩ _ _ _ _ (hr.make C us []) (I2.env0.make C us []) b r2 hq) fun r s' hq' => ?_))
  cases r with
  | error e => exact hx σ pins _ _ e s' I2 hq'
  | ok fl =>
    cases fl with
    | ret u =>
      obtain ⟨v, H', I3, rv, ev, q3⟩ := I2.after hq'
      subst ev
      exact ⟨rv, ⟨V.ref (s.heap.objs.size + 1), H', I3, rfl, q3⟩⟩
    | next => exact False.elim hq'
    | brk => exact False.elim hq'
    | cont => exact False.elim hq'
def tMakeS (C : Addr) (sp : Sp) (E : L2.St → XK) (t : TA) : TE := fun σ H Q => t σ H fun vs H1 => ∀ x dx, H1 x = none → H1 dx = none → dx ≠ x → sp (.ref x :: vs) (upd (upd H1 dx (.own x)) x (.ins C dx [])) (fun v H2 => v = .non ∧ Q (.ref x) H2) (E σ)
theorem pe_makeS (M : Mk X.K C f) (F : FnOk X.prog X.w X.K X.mg X.base (L2.CX X.prog X.w) k f fd ps sp) (hr : Room (k + 1) X.A) (hg : Gl X x) (hm : X.mg x = some (.ref C)) (hb : Binds X.K fd ps []) (hx : ∀ σ, PassesAt (L2.CX X.prog X.w) X σ (E σ))
    (ha : PA X (e :: es) t) (hdb : (x == ("__debug__" : Str)) = false) (he : starEach (e :: es) X.env = (false, eval e X.env) :: starEach es X.env) (hpl : (backTo pos (starEach es X.env)).any (·.1) = false) :
    PE X (.Call (.Name x p) (e :: es) [] pos) (tMakeS C sp E t) := by
  refine ⟨fun pins s σ H Q I h => ?_⟩
  refine wpAny_Call_Name_kw (ld_glob I hg hm ?_ hdb)
  refine PySem.W.callWith_K (h₀ := X.base) I.ok.mod.kin M.kp (thn (ha.run pos pins s σ H _ I h) fun us s1 ⟨vs, H1, I1, r, q⟩ => ⟨I1.kIn, ?_⟩) he hpl
  exact run_makeS M F hr hb hx I1 r q
theorem pe_makeS0 (M : Mk X.K C f) (F : FnOk X.prog X.w X.K X.mg X.base (L2.CX X.prog X.w) k f fd ps sp) (hr : Room (k + 1) X.A) (hg : Gl X x) (hm : X.mg x = some (.ref C)) (hb : Binds X.K fd ps []) (hx : ∀ σ, PassesAt (L2.CX X.prog X.w) X σ (E σ))
    (hdb : (x == ("__debug__" : Str)) = false) : PE X (.Call (.Name x p) [] [] pos) (tMakeS C sp E tNil) := by
  refine ⟨fun pins s σ H Q I h => ?_⟩
  refine wpAny_Call_Name_kw (ld_glob I hg hm ?_ hdb)
  exact PySem.W.callWith_K0 I.kIn M.kp (run_makeS (us := []) M F hr hb hx I .nil h)
theorem pe_make00 (M : Mk0 X.K C) (hg : Gl X x) (hm : X.mg x = some (.ref C)) (hdb : (x == ("__debug__" : Str)) = false) :
    PE X (.Call (.Name x p) [] [] pos) (fun σ H Q => ∀ x dx, H x = none → H dx = none → dx ≠ x → Q (.ref x) (upd (upd H dx (.own x)) x (.ins C dx []))) := by
  refine ⟨fun pins s σ H Q I h => ?_⟩
  refine wpAny_Call_Name_kw (ld_glob I hg hm ?_ hdb)
  refine PySem.W.callWith_K0 I.kIn M.kp (wpAny_call ?_)
  have hq := h (s.heap.objs.size + 1) s.heap.objs.size (I.hok.fresh (Nat.le_succ _)) (I.hok.fresh (Nat.le_refl _)) (Nat.ne_of_lt (Nat.lt_succ_self _))
  have I2 := Inv.made (C := C) I
  have Y := PySem.W.makes_of (M := model X.prog X.w) I.kIn M.makes
  refine make_map0 I.kIn M.makes M.init (fun self => PySem.W.Looks.of_pure (PySem.W.oi_bind self)) ?_
  have g2 : ((s.heap.push PySem.W.emptyDict).push (PySem.W.instObj C s.heap.objs.size)).get? (s.heap.objs.size + 1) = some (PySem.W.instObj C s.heap.objs.size) := by
    have := Heap.get?_push_size (s.heap.push PySem.W.emptyDict) (o := PySem.W.instObj C s.heap.objs.size) rfl
    rwa [Heap.size_push] at this
  have t1 : PySem.W.Looks (model X.prog X.w) ((s.heap.push PySem.W.emptyDict).push (PySem.W.instObj C s.heap.objs.size)) (typeOf (.ref (s.heap.objs.size + 1))) (.ref C) := (PySem.W.Looks.ld g2).andThen .now
  have t2 : PySem.W.Looks (model X.prog X.w) ((s.heap.push PySem.W.emptyDict).push (PySem.W.instObj C s.heap.objs.size)) (isInstance (.ref (s.heap.objs.size + 1)) (.type "object")) true :=
    t1.andThen (Y.top.keeps fun b o e => Heap.get?_push_of_some _ (Heap.get?_push_of_some _ e))
  refine codeAny_call_builtin PySem.W.oi_plain PySem.W.entry_oi (@PySem.W.check_slot (model X.prog X.w) _ _ _ "object.__init__" "object" "__init__" (.ref (s.heap.objs.size + 1)) [] [] _ PySem.W.oi_kind PySem.W.oi_split t2 (PySem.W.oi_args (.ref (s.heap.objs.size + 1))) ?_)
  rw [PySem.W.oi_run]
  exact wpAny_pure (And.intro rfl ⟨.ref (s.heap.objs.size + 1), _, I2, rfl, hq⟩)
end
end Mi
namespace Mi
open PySem L2

structure PP (X : Cx) (r : Rx) (C : Cf) (W : WX) (i : E) (e : Expr) : Prop where
  pe : PE X e (tE r C W i)
  pt : PT X e (tT r C W i)
abbrev AllP (X : Cx) (r : Rx) (C : Cf) (W : WX) : Es → List Expr → Prop := All2 (PP X r C W)
theorem All2.imp {P Q : E → Expr → Prop} (f : ∀ i e, P i e → Q i e) : ∀ {is : Es} {es : List Expr}, All2 P is es → All2 Q is es
  | _, _, .nil => .nil
  | _, _, .cons h p t => .cons h (f _ _ p) (t.imp f)

section
variable {X : Cx} {r : Rx} {C : Cf} {W : WX} {tx : Tx} {k : Nat} {ck : Ck} {e : Expr} {es : List Expr} {is : Es} {i : E}
theorem allE_of (h : AllP X r C W is es) : AllE X r C W is es := h.imp fun _ _ p => p.pe
theorem pt_of (h : PE X e (tE r C W i)) (hp : plainT e = true) : PT X e (tT r C W i) := by
  refine PT.imp (pt_val h (isTrue_of hp X.env)) fun σ H Q q => ?_
  obtain ⟨ms, xs, S, ρ, s, en, g⟩ := q
  unfold tst at g
  refine tE_of s en g fun d v S1 m1 H1 x1 s1 e1 r1 g1 => ?_
  cases hb : asB d with
  | none => rw [hb] at g1; exact g1.elim
  | some b =>
    rw [hb] at g1
    have := asB_some hb; subst this
    exact ⟨b, r1.bl_eq, g1 m1 H1 .refl s1⟩
theorem pp_plain (h : PE X e (tE r C W i)) (hp : plainT e = true) : PP X r C W i e := ⟨h, pt_of h hp⟩

theorem pp_cmp {o : Op} {op : CmpOp} (v : CmpV X r C o op) (h : cmpE op e = some es) (a : AllE X r C W is es) : PP X r C W (.op o is) e := by
  refine ⟨so_cmp v h a, ?_⟩
  obtain ⟨rr, ho, hv⟩ := v
  obtain ⟨x, y, pos, rfl, rfl, hn⟩ := cmpE_inv h
  cases a with
  | cons _ ha t =>
    cases t with
    | cons _ hb t =>
      cases t
      refine PT.imp (pt_cmpR ho ha hb (mark_of hn)) fun σ H Q q => ?_
      obtain ⟨ms, xs, S, ρ, s, e, g⟩ := q
      unfold tst at g
      simp only [evE, evEs, bnd_assoc, bnd_ret] at g
      refine tE_of s e g fun d v S1 m1 H1 x1 s1 e1 r1 g1 => ?_
      refine tE_of s1 e1 g1 fun d2 v2 S2 m2 H2 x2 s2 e2 r2 g2 => ?_
      refine hv m2 xs H2 S2 v v2 d d2 _ s2 (r1.mono x2) r2 ?_
      refine Good.mono g2.bind (fun z S3 m3 H3 x3 s3 g3 w rw => ?_) fun _ _ _ _ _ _ _ => True.intro
      cases hb : asB z with
      | none => rw [hb] at g3; exact g3.elim
      | some b =>
        rw [hb] at g3
        have := asB_some hb; subst this
        exact ⟨b, rw.bl_eq, g3 m3 H3 .refl s3⟩
theorem cv_of (cx : Cxt X r C tx k) {o : Op} {op : CmpOp} (h : opC o = some op) : CmpV X r C o op := by
  cases o <;> simp only [opC] at h <;> first | cases h | skip
  all_goals first | exact cv_eq cx | exact cv_ne cx | exact cv_lt cx | exact cv_le | exact cv_gt | exact cv_ge
theorem last_of {op op' : CmpOp} {b c : Expr} (h : noSet c = true) : lastMarks [op, op'] [b, c] = false := by
  show behindInMarks op' c = false
  exact mark_of h
theorem pp_ch {o p : Op} {a b c : E} {x y z : Expr} {u w : CmpOp} {pos : Pos} (vo : CmpV X r C o u) (vp : CmpV X r C p w) (ha : PE X x (tE r C W a)) (hb : PE X y (tE r C W b)) (hc : PE X z (tE r C W c)) (hz : noSet z = true) :
    PP X r C W (.ch o p a b c) (.Compare x [u, w] [y, z] pos) := by
  obtain ⟨r1, ho, hv⟩ := vo
  obtain ⟨r2, ho', hv'⟩ := vp
  constructor
  · refine PE.imp (pe_chain ho ho' ha hb hc (last_of hz)) fun σ H Q q => ?_
    obtain ⟨ms, xs, S, ρ, s, e, g⟩ := q
    simp only [evE] at g
    refine tE_of s e g fun d v S1 m1 H1 x1 s1 e1 q1 g1 => ?_
    refine tE_of s1 e1 g1 fun d2 v2 S2 m2 H2 x2 s2 e2 q2 g2 => ?_
    refine hv m2 xs H2 S2 v v2 d d2 _ s2 (q1.mono x2) q2 ?_
    refine Good.mono g2.bind (fun t S3 m3 H3 x3 s3 g3 t' rt => ?_) fun _ _ _ _ _ _ _ => True.intro
    obtain ⟨b, hb, g3⟩ := g3.opt
    have := asB_some hb; subst this
    refine ⟨b, rt.bl_eq, ?_⟩
    cases b with
    | false => exact g3 m3 H3 .refl s3 _ .of_bl
    | true =>
      refine tE_of s3 (e2.mono x3) g3 fun d4 v4 S4 m4 H4 x4 s4 e4 q4 g4 => ?_
      exact hv' m4 xs H4 S4 v2 v4 d2 d4 Q s4 (q2.mono (x3.trans x4)) q4 (Good.mono g4 (fun _ _ _ _ _ _ z => z) fun _ _ _ _ _ _ _ => True.intro)
  · refine PT.imp (pt_chain ho ho' ha hb hc (last_of hz)) fun σ H Q q => ?_
    obtain ⟨ms, xs, S, ρ, s, e, g⟩ := q
    unfold tst at g
    simp only [evE, bnd_assoc] at g
    refine tE_of s e g fun d v S1 m1 H1 x1 s1 e1 q1 g1 => ?_
    refine tE_of s1 e1 g1 fun d2 v2 S2 m2 H2 x2 s2 e2 q2 g2 => ?_
    refine hv m2 xs H2 S2 v v2 d d2 _ s2 (q1.mono x2) q2 ?_
    refine Good.mono g2.bind (fun t S3 m3 H3 x3 s3 g3 t' rt => ?_) fun _ _ _ _ _ _ _ => True.intro
    obtain ⟨b, hb, gg⟩ := g3.opt
    have := asB_some hb; subst this
    refine ⟨b, rt.bl_eq, ?_⟩
    cases b with
    | false => exact ⟨false, rfl, gg m3 H3 .refl s3⟩
    | true =>
      rw [if_pos rfl, bnd_assoc] at gg
      refine tE_of s3 (e2.mono x3) gg fun d4 v4 S4 m4 H4 x4 s4 e4 q4 g4 => ?_
      refine hv' m4 xs H4 S4 v2 v4 d2 d4 _ s4 (q2.mono (x3.trans x4)) q4 ?_
      refine Good.mono g4.bind (fun t S5 m5 H5 x5 s5 g5 t' rt => ?_) fun _ _ _ _ _ _ _ => True.intro
      cases hb : asB t with
      | none => rw [hb] at g5; exact g5.elim
      | some b =>
        rw [hb] at g5
        have := asB_some hb; subst this
        exact ⟨b, rt.bl_eq, g5 m5 H5 .refl s5⟩

def tChain3 (r r' r'' : R2) (ta tb tc td : TE) : TE := fun σ H Q => ta σ H fun x H1 => tb σ H1 fun y H2 => r x y H2 fun z H3 => ∃ k, z = .bl k ∧
  (if k = true then tc σ H3 fun w' H4 => r' y w' H4 fun z2 H5 => ∃ k2, z2 = .bl k2 ∧ (if k2 = true then td σ H5 fun u' H6 => r'' w' u' H6 Q else Q (.bl false) H5) else Q (.bl false) H3)
open PyProof.Rows in
theorem pe_chain3 {op op' op2 : CmpOp} {r r' r'' : R2} {a b c d : Expr} {ta tb tc td : TE} {pos : Pos} (ho : OpR X (compareOp op) r) (ho' : OpR X (compareOp op') r') (ho'' : OpR X (compareOp op2) r'') (ha : PE X a ta) (hb : PE X b tb) (hc : PE X c tc) (hd : PE X d td)
    (hm : lastMarks [op, op', op2] [b, c, d] = false) : PE X (.Compare a [op, op', op2] [b, c, d] pos) (tChain3 r r' r'' ta tb tc td) := by
  refine ⟨fun pins s σ H Q I h => ?_⟩
  refine Compare_chain (thn (ha.run pins s σ H _ I h) fun v s1 ⟨x, H1, I1, r1, q1⟩ => chain_link (thn (hb.run pins s1 σ H1 _ I1 q1) fun u s2 ⟨y, H2, I2, r2, q2⟩ =>
    thn (ho pins s2 σ H2 x y v u _ I2 r1 r2 q2) fun d s3 ⟨z, H3, I3, r3, k, e, q3⟩ => ?_)) hm
  subst e
  cases r3
  refine wpAny_truthy_bool ?_
  cases k with
  | false => exact ite_ff ⟨.bl false, H3, I3, rfl, q3⟩
  | true =>
    refine ite_tt (chain_link (thn (hc.run pins s3 σ H3 _ I3 q3) fun w' s4 ⟨z', H4, I4, r4, q4⟩ => thn (ho' pins s4 σ H4 y z' u w' _ I4 r2 r4 q4) fun d s5 ⟨z2, H5, I5, r5, k2, e2, q5⟩ => ?_))
    subst e2
    cases r5
    refine wpAny_truthy_bool ?_
    cases k2 with
    | false => exact ite_ff ⟨.bl false, H5, I5, rfl, q5⟩
    | true => exact ite_tt (chain_last (thn (hd.run pins s5 σ H5 _ I5 q5) fun u' s6 ⟨z3, H6, I6, r6, q6⟩ => ho'' pins s6 σ H6 z' z3 w' u' Q I6 r4 r6 q6))
open PyProof.Rows in
theorem pt_chain3 {op op' op2 : CmpOp} {r r' r'' : R2} {a b c d : Expr} {ta tb tc td : TE} {pos : Pos} (ho : OpR X (compareOp op) r) (ho' : OpR X (compareOp op') r') (ho'' : OpR X (compareOp op2) r'') (ha : PE X a ta) (hb : PE X b tb) (hc : PE X c tc) (hd : PE X d td)
    (hm : lastMarks [op, op', op2] [b, c, d] = false) : PT X (.Compare a [op, op', op2] [b, c, d] pos) (tTest (tChain3 r r' r'' ta tb tc td)) := by
  refine ⟨fun pins s σ H Q I h => ?_⟩
  refine isTrue_chain (thn (ha.run pins s σ H _ I h) fun v s1 ⟨x, H1, I1, r1, q1⟩ => test_link (thn (hb.run pins s1 σ H1 _ I1 q1) fun u s2 ⟨y, H2, I2, r2, q2⟩ =>
    thn (ho pins s2 σ H2 x y v u _ I2 r1 r2 q2) fun d s3 ⟨z, H3, I3, r3, k, e, q3⟩ => ?_)) hm
  subst e
  cases r3
  refine wpAny_truthy_bool ?_
  cases k with
  | false =>
    obtain ⟨k', e', q'⟩ := q3
    cases e'
    exact ite_ff ⟨H3, I3, q'⟩
  | true =>
    refine ite_tt (test_link (thn (hc.run pins s3 σ H3 _ I3 q3) fun w' s4 ⟨z', H4, I4, r4, q4⟩ => thn (ho' pins s4 σ H4 y z' u w' _ I4 r2 r4 q4) fun d s5 ⟨z2, H5, I5, r5, k2, e2, q5⟩ => ?_))
    subst e2
    cases r5
    refine wpAny_truthy_bool ?_
    cases k2 with
    | false =>
      obtain ⟨k', e', q'⟩ := q5
      cases e'
      exact ite_ff ⟨H5, I5, q'⟩
    | true =>
      refine ite_tt (test_last (thn (hd.run pins s5 σ H5 _ I5 q5) fun u' s6 ⟨z3, H6, I6, r6, q6⟩ => thn (ho'' pins s6 σ H6 z' z3 w' u' _ I6 r4 r6 q6) fun d' s7 ⟨z4, H7, I7, r7, k4, e4, q7⟩ => ?_))
      subst e4
      cases r7
      exact wpAny_truthy_bool ⟨H7, I7, q7⟩
theorem last3_of {op op' op2 : CmpOp} {b c d : Expr} (h : noSet d = true) : lastMarks [op, op', op2] [b, c, d] = false := by
  show behindInMarks op2 d = false
  exact mark_of h
theorem pp_ch3 {o p q : Op} {a b c d : E} {x y z z2 : Expr} {u w u2 : CmpOp} {pos : Pos} (vo : CmpV X r C o u) (vp : CmpV X r C p w) (vq : CmpV X r C q u2) (ha : PE X x (tE r C W a)) (hb : PE X y (tE r C W b)) (hc : PE X z (tE r C W c)) (hd : PE X z2 (tE r C W d)) (hz : noSet z2 = true) :
    PP X r C W (.ch3 o p q a b c d) (.Compare x [u, w, u2] [y, z, z2] pos) := by
  obtain ⟨r1, ho, hv⟩ := vo
  obtain ⟨r2, ho', hv'⟩ := vp
  obtain ⟨r3, ho'', hv''⟩ := vq
  constructor
  · refine PE.imp (pe_chain3 ho ho' ho'' ha hb hc hd (last3_of hz)) fun σ H Q q => ?_
    obtain ⟨ms, xs, S, ρ, s, e, g⟩ := q
    simp only [evE] at g
    refine tE_of s e g fun d v S1 m1 H1 x1 s1 e1 q1 g1 => ?_
    refine tE_of s1 e1 g1 fun d2 v2 S2 m2 H2 x2 s2 e2 q2 g2 => ?_
    refine hv m2 xs H2 S2 v v2 d d2 _ s2 (q1.mono x2) q2 ?_
    refine Good.mono g2.bind (fun t S3 m3 H3 x3 s3 g3 t' rt => ?_) fun _ _ _ _ _ _ _ => True.intro
    obtain ⟨b, hb, g3⟩ := g3.opt
    have := asB_some hb; subst this
    refine ⟨b, rt.bl_eq, ?_⟩
    cases b with
    | false => exact g3 m3 H3 .refl s3 _ .of_bl
    | true =>
      refine tE_of s3 (e2.mono x3) g3 fun d4 v4 S4 m4 H4 x4 s4 e4 q4 g4 => ?_
      refine hv' m4 xs H4 S4 v2 v4 d2 d4 _ s4 (q2.mono (x3.trans x4)) q4 ?_
      refine Good.mono g4.bind (fun t S5 m5 H5 x5 s5 g5 t' rt => ?_) fun _ _ _ _ _ _ _ => True.intro
      obtain ⟨b, hb, g5⟩ := g5.opt
      have := asB_some hb; subst this
      refine ⟨b, rt.bl_eq, ?_⟩
      cases b with
      | false => exact g5 m5 H5 .refl s5 _ .of_bl
      | true =>
        refine tE_of s5 (e4.mono x5) g5 fun d6 v6 S6 m6 H6 x6 s6 e6 q6 g6 => ?_
        exact hv'' m6 xs H6 S6 v4 v6 d4 d6 Q s6 (q4.mono (x5.trans x6)) q6 (Good.mono g6 (fun _ _ _ _ _ _ z => z) fun _ _ _ _ _ _ _ => True.intro)
  · refine PT.imp (pt_chain3 ho ho' ho'' ha hb hc hd (last3_of hz)) fun σ H Q q => ?_
    obtain ⟨ms, xs, S, ρ, s, e, g⟩ := q
    unfold tst at g
    simp only [evE, bnd_assoc] at g
    refine tE_of s e g fun d v S1 m1 H1 x1 s1 e1 q1 g1 => ?_
    refine tE_of s1 e1 g1 fun d2 v2 S2 m2 H2 x2 s2 e2 q2 g2 => ?_
    refine hv m2 xs H2 S2 v v2 d d2 _ s2 (q1.mono x2) q2 ?_
    refine Good.mono g2.bind (fun t S3 m3 H3 x3 s3 g3 t' rt => ?_) fun _ _ _ _ _ _ _ => True.intro
    obtain ⟨b, hb, gg⟩ := g3.opt
    have := asB_some hb; subst this
    refine ⟨b, rt.bl_eq, ?_⟩
    cases b with
    | false => exact ⟨false, rfl, gg m3 H3 .refl s3⟩
    | true =>
      rw [if_pos rfl, bnd_assoc] at gg
      refine tE_of s3 (e2.mono x3) gg fun d4 v4 S4 m4 H4 x4 s4 e4 q4 g4 => ?_
      rw [bnd_assoc] at g4
      refine hv' m4 xs H4 S4 v2 v4 d2 d4 _ s4 (q2.mono (x3.trans x4)) q4 ?_
      refine Good.mono g4.bind (fun t S5 m5 H5 x5 s5 g5 t' rt => ?_) fun _ _ _ _ _ _ _ => True.intro
      rw [bnd_assoc] at g5
      obtain ⟨b, hb, gg5⟩ := g5.opt
      have := asB_some hb; subst this
      refine ⟨b, rt.bl_eq, ?_⟩
      cases b with
      | false => exact ⟨false, rfl, gg5 m5 H5 .refl s5⟩
      | true =>
        rw [if_pos rfl, bnd_assoc] at gg5
        refine tE_of s5 (e4.mono x5) gg5 fun d6 v6 S6 m6 H6 x6 s6 e6 q6 g6 => ?_
        refine hv'' m6 xs H6 S6 v4 v6 d4 d6 _ s6 (q4.mono (x5.trans x6)) q6 ?_
        refine Good.mono g6.bind (fun t S7 m7 H7 x7 s7 g7 t' rt => ?_) fun _ _ _ _ _ _ _ => True.intro
        cases hb : asB t with
        | none => rw [hb] at g7; exact g7.elim
        | some b =>
          rw [hb] at g7
          have := asB_some hb; subst this
          exact ⟨b, rt.bl_eq, g7 m7 H7 .refl s7⟩

theorem tst_ite {m n : M D} {b : Bool} : tst (fun S => (if b = true then m else n) S) = if b = true then tst m else tst n := by cases b <;> rfl
theorem pp_and {pos : Pos} : ∀ {is : Es} {x : Expr} {xs : List Expr}, AllP X r C W is (x :: xs) → PE X (.BoolOp .And (x :: xs) pos) (tE r C W (.and is)) ∧ PW X (.BoolOp .And (x :: xs) pos) (tT r C W (.and is))
  | _, x, [], .cons hs hp .nil => ⟨PE.imp (pe_one hp.pe) fun σ H Q q => q, PW.imp (pw_and1 hp.pt) fun σ H Q q => q⟩
  | _, x, y :: ys, .cons (i := i0) hs hp (.cons (i := j) (is := js) hs2 hp2 t) => by
    obtain ⟨h1, h2⟩ := pp_and (pos := pos) (All2.cons hs2 hp2 t)
    constructor
    · refine PE.imp (pe_and hp.pe h1) fun σ H Q q => ?_
      obtain ⟨ms, xs, S, ρ, s, e, g⟩ := q
      simp only [evE, evAnd] at g
      refine tE_of s e g fun d v S1 m1 H1 x1 s1 e1 q1 g1 => ?_
      obtain ⟨b, hb, g1⟩ := g1.opt
      have := asB_some hb; subst this
      refine ⟨b, q1.bl_eq, ?_⟩
      cases b with
      | false => exact g1 m1 H1 .refl s1 _ .of_bl
      | true => exact ⟨m1, _, S1, ρ, s1, e1, g1⟩
    · refine PW.imp (pw_and hp.pt h2) fun σ H Q q => ?_
      obtain ⟨ms, xs, S, ρ, s, e, g⟩ := q
      unfold tst at g
      simp only [evE, evAnd, bnd_assoc] at g
      have g' : Good r xs ms H (bnd (tst (evE C i0 ρ)) (fun b => bnd (if b = true then evAnd C (.cons j js) ρ else Mi.ret (.bl false)) fun d => Mi.opt (asB d)) S) (fun b _ _ H' => Q b H') (exW r W σ) := by
        unfold tst
        rw [bnd_assoc]; exact g
      refine tT_of s e g' fun b S1 m1 H1 x1 s1 e1 g1 => ?_
      cases b with
      | false => exact g1 m1 H1 .refl s1
      | true => exact ⟨m1, _, S1, ρ, s1, e1, g1⟩
theorem pp_or {pos : Pos} : ∀ {is : Es} {x : Expr} {xs : List Expr}, AllP X r C W is (x :: xs) → PE X (.BoolOp .Or (x :: xs) pos) (tE r C W (.or is)) ∧ PW X (.BoolOp .Or (x :: xs) pos) (tT r C W (.or is))
  | _, x, [], .cons hs hp .nil => ⟨PE.imp (pe_one hp.pe) fun σ H Q q => q, PW.imp (pw_or1 hp.pt) fun σ H Q q => q⟩
  | _, x, y :: ys, .cons (i := i0) hs hp (.cons (i := j) (is := js) hs2 hp2 t) => by
    obtain ⟨h1, h2⟩ := pp_or (pos := pos) (All2.cons hs2 hp2 t)
    constructor
    · refine PE.imp (pe_or hp.pe h1) fun σ H Q q => ?_
      obtain ⟨ms, xs, S, ρ, s, e, g⟩ := q
      simp only [evE, evOr] at g
      refine tE_of s e g fun d v S1 m1 H1 x1 s1 e1 q1 g1 => ?_
      obtain ⟨b, hb, g1⟩ := g1.opt
      have := asB_some hb; subst this
      refine ⟨b, q1.bl_eq, ?_⟩
      cases b with
      | true => exact g1 m1 H1 .refl s1 _ .of_bl
      | false => exact ⟨m1, _, S1, ρ, s1, e1, g1⟩
    · refine PW.imp (pw_or hp.pt h2) fun σ H Q q => ?_
      obtain ⟨ms, xs, S, ρ, s, e, g⟩ := q
      unfold tst at g
      simp only [evE, evOr, bnd_assoc] at g
      have g' : Good r xs ms H (bnd (tst (evE C i0 ρ)) (fun b => bnd (if b = true then Mi.ret (.bl true) else evOr C (.cons j js) ρ) fun d => Mi.opt (asB d)) S) (fun b _ _ H' => Q b H') (exW r W σ) := by
        unfold tst
        rw [bnd_assoc]; exact g
      refine tT_of s e g' fun b S1 m1 H1 x1 s1 e1 g1 => ?_
      cases b with
      | true => exact g1 m1 H1 .refl s1
      | false => exact ⟨m1, _, S1, ρ, s1, e1, g1⟩
theorem pp_not {pos : Pos} (h : PP X r C W i e) : PP X r C W (.not i) (.UnaryOp .Not e pos) := by
  constructor
  · refine PE.imp (pe_not h.pe) fun σ H Q q => ?_
    obtain ⟨ms, xs, S, ρ, s, e, g⟩ := q
    simp only [evE] at g
    refine tE_of s e g fun d v S1 m1 H1 x1 s1 e1 q1 g1 => ?_
    obtain ⟨b, hb, g1⟩ := g1.opt
    have := asB_some hb; subst this
    exact ⟨b, q1.bl_eq, g1 m1 H1 .refl s1 _ .of_bl⟩
  · refine PT.imp (pt_not h.pt) fun σ H Q q => ?_
    obtain ⟨ms, xs, S, ρ, s, e, g⟩ := q
    unfold tst at g
    simp only [evE, bnd_assoc] at g
    have g' : Good r xs ms H (bnd (tst (evE C i ρ)) (fun b => Mi.ret (!b)) S) (fun b _ _ H' => Q b H') (exW r W σ) := by
      unfold tst
      rw [bnd_assoc]; exact g
    exact tT_of s e g' fun b S1 m1 H1 x1 s1 e1 g1 => g1 m1 H1 .refl s1
theorem pt_ifExp {c a b : Expr} {pos : Pos} {tc ta tb : TT} (hc : PT X c tc) (ha : PT X a ta) (hb : PT X b tb) : PT X (.IfExp c a b pos) (fun σ H Q => tc σ H fun t H1 => if t = true then ta σ H1 Q else tb σ H1 Q) := by
  refine ⟨fun pins s σ H Q I h => ?_⟩
  show wpAny _ _ (isTrue c X.env (eval c X.env) >>= fun t => if t = true then isTrue a X.env (eval a X.env) else isTrue b X.env (eval b X.env)) _ _ s
  refine wpAny_bind (thn (hc.run pins s σ H _ I h) fun t s1 ⟨H1, I1, q1⟩ => ?_)
  cases t with
  | true => exact ha.run pins s1 σ H1 Q I1 q1
  | false => exact hb.run pins s1 σ H1 Q I1 q1
theorem pp_ite {a b c : E} {x y z : Expr} {pos : Pos} (ha : PP X r C W a x) (hb : PP X r C W b y) (hc : PP X r C W c z) : PP X r C W (.ite a b c) (.IfExp x y z pos) := by
  constructor
  · refine PE.imp (pe_ifExp ha.pt hb.pe hc.pe) fun σ H Q q => ?_
    obtain ⟨ms, xs, S, ρ, s, e, g⟩ := q
    simp only [evE] at g
    refine tT_of s e g fun t S1 m1 H1 x1 s1 e1 g1 => ?_
    cases t with
    | true => exact ⟨m1, _, S1, ρ, s1, e1, g1⟩
    | false => exact ⟨m1, _, S1, ρ, s1, e1, g1⟩
  · refine PT.imp (pt_ifExp ha.pt hb.pt hc.pt) fun σ H Q q => ?_
    obtain ⟨ms, xs, S, ρ, s, e, g⟩ := q
    unfold tst at g
    simp only [evE, bnd_assoc] at g
    refine tT_of s e g fun t S1 m1 H1 x1 s1 e1 g1 => ?_
    cases t with
    | true => exact ⟨m1, _, S1, ρ, s1, e1, g1⟩
    | false => exact ⟨m1, _, S1, ρ, s1, e1, g1⟩
end
end Mi
namespace Mi
open PySem L2
section
variable (r : Rx)
def tG (tg : T) : TG := fun v σ H Q => ∃ ms xs S ρ d ρ', Sim r ms xs H S ∧ REnv r ms xs H ρ σ ∧ RelD r ms xs H d v ∧ bindT tg d ρ = some ρ' ∧ ∀ σ', REnv r ms xs H ρ' σ' → (∀ j : Nat, j ∉ slots tg → σ'[j]? = σ[j]?) → Q σ' H
def tGs (ts : Ts) : TGs := fun vs σ H Q => ∃ ms xs S ρ ds ρ', Sim r ms xs H S ∧ REnv r ms xs H ρ σ ∧ RelDs r ms xs H ds vs ∧ bindT.bindTs ts ds ρ = some ρ' ∧ ∀ σ', REnv r ms xs H ρ' σ' → (∀ j : Nat, j ∉ slotss ts → σ'[j]? = σ[j]?) → Q σ' H
end
section
variable {X : Cx} {r : Rx} {C : Cf} {W : WX} {tx : Tx} {k : Nat} {ck : Ck}
theorem PG.imp {e : Expr} {t t' : TG} (h : PG X e t) (f : ∀ v σ H Q, t' v σ H Q → t v σ H Q) : PG X e t' := ⟨fun pins s σ H v u Q I r q => h.run pins s σ H v u Q I r (f v σ H Q q)⟩
theorem PG.or {e : Expr} {t t' : TG} (h : PG X e t) (h' : PG X e t') : PG X e (fun v σ H Q => t v σ H Q ∨ t' v σ H Q) := ⟨fun pins s σ H v u Q I r q => q.elim (h.run pins s σ H v u Q I r) (h'.run pins s σ H v u Q I r)⟩
theorem PGs.imp {e : List Expr} {t t' : TGs} (h : PGs X e t) (f : ∀ v σ H Q, t' v σ H Q → t v σ H Q) : PGs X e t' := ⟨fun pins s σ H v u Q I r q => h.run pins s σ H v u Q I r (f v σ H Q q)⟩
theorem asgE_of {e : Expr} {es : List Expr} {env : PySem.Env} (h : noStar e = true) : assignEach (e :: es) env = (false, assign e env) :: assignEach es env := by
  cases e <;> first | rfl | (simp [noStar] at h)
theorem tgs_facts {ck : Ck} {env : PySem.Env} : ∀ {ts : Ts} {es : List Expr}, tgsB ck ts es = true → (assignEach es env).length = es.length ∧ (assignEach es env).findIdx? (·.1) = none
  | .nil, [], _ => ⟨rfl, rfl⟩
  | .nil, _ :: _, h => by simp [tgsB] at h
  | .cons t ts, [], h => by simp [tgsB] at h
  | .cons t ts, e :: es, h => by
    simp only [tgsB, Bool.and_eq_true] at h
    obtain ⟨⟨h1, h2⟩, h3⟩ := h
    obtain ⟨q1, q2⟩ := tgs_facts (env := env) h3
    rw [asgE_of h1]
    refine ⟨by simp [q1], ?_⟩
    rw [List.findIdx?_cons]
    simp [q2]
theorem okNm_iff {x : Str} (h : okNm x = true) : (x == ("__debug__" : Str)) = false ∧ (x == ("__classdict__" : Str)) = false ∧ x ≠ "__name__" := by
  simp only [okNm, Bool.and_eq_true, decide_eq_true_eq] at h
  obtain ⟨⟨h1, h2⟩, h3⟩ := h
  exact ⟨beq_eq_false_iff_ne.mpr h1, beq_eq_false_iff_ne.mpr h2, h3⟩
theorem bindTs_len {ds : List D} : ∀ {ts : Ts} {ds : List D} {ρ ρ' : Env}, bindT.bindTs ts ds ρ = some ρ' → ∀ {es : List Expr}, tgsB ck ts es = true → es.length = ds.length
  | .nil, [], _, _, _, [], _ => rfl
  | .nil, [], _, _, _, _ :: _, h => by simp [tgsB] at h
  | .nil, _ :: _, _, _, h, _, _ => by simp [bindT.bindTs] at h
  | .cons t ts, [], _, _, h, _, _ => by simp [bindT.bindTs] at h
  | .cons t ts, d :: ds, _, _, _, [], h => by simp [tgsB] at h
  | .cons t ts, d :: ds, ρ, ρ', h, e :: es, h2 => by
    simp only [bindT.bindTs] at h
    split at h
    · simp only [tgsB, Bool.and_eq_true] at h2
      simp [bindTs_len (ds := ds) h h2.2]
    · cases h
mutual
theorem pg_of (hc : X.calm = true) (nd : X.N.Nodup) (hN : X.N = ck.N) (hl : ∀ x, locB ck.sc x = true → Loc X.env.scope x ∧ (X.fn x = true ∨ X.env.scope.names.lookup x = some .local)) : ∀ (t : T) (e : Expr), tgB ck t e = true → PG X e (tG r t)
  | .nm i, .Name x pos, h => by
    simp only [tgB, Bool.and_eq_true, decide_eq_true_eq] at h
    obtain ⟨⟨h1, h2⟩, h3⟩ := h
    obtain ⟨q1, q2⟩ := hl x h2
    refine PG.imp (pg_name (i := i) nd (by rw [hN]; exact h1) q1 q2) fun v σ H Q q => ?_
    obtain ⟨ms, xs, S, ρ, d, ρ', s, e, rd, hb, q⟩ := q
    simp only [bindT, Option.some.injEq] at hb
    subst hb
    refine q _ (e.set rd) fun j hj => ?_
    have : i ≠ j := fun z => hj (by simp [slots, z])
    rw [List.getElem?_set_ne this]
  | .tp ts, .Tuple es k pos, h => by
    simp only [tgB] at h
    obtain ⟨f1, f2⟩ := tgs_facts (env := X.env) h
    refine PG.imp (PG.or (pg_tup (n := es.length) hc (pgs_of hc nd hN hl ts es h) f1 f2) (pg_lst (n := es.length) hc (pgs_of hc nd hN hl ts es h) f1 f2)) fun v σ H Q q => ?_
    obtain ⟨ms, xs, S, ρ, d, ρ', s, e, rd, hb, q⟩ := q
    cases d <;> simp only [bindT] at hb <;> try cases hb
    · rename_i ds
      simp only [RelD] at rd
      obtain ⟨a, vs, rfl, ha, _, _, rd⟩ := rd
      refine .inl ⟨a, vs, rfl, .of ha, ?_, ms, xs, S, ρ, ds, ρ', s, e, rd, hb, fun σ' e' hj => q σ' e' (by simpa [slots] using hj)⟩
      rw [rd.length]
      exact (bindTs_len (ck := ck) (ds := ds) hb h).symm
    · rename_i ds
      simp only [RelD] at rd
      obtain ⟨a, vs, rfl, ha, _, _, rd⟩ := rd
      refine .inr ⟨a, vs, rfl, .of ha, ?_, ms, xs, S, ρ, ds, ρ', s, e, rd, hb, fun σ' e' hj => q σ' e' (by simpa [slots] using hj)⟩
      rw [rd.length]
      exact (bindTs_len (ck := ck) (ds := ds) hb h).symm
  | .nm _, .BoolOp .., h => by simp [tgB] at h
  | .nm _, .NamedExpr .., h => by simp [tgB] at h
  | .nm _, .BinOp .., h => by simp [tgB] at h
  | .nm _, .UnaryOp .., h => by simp [tgB] at h
  | .nm _, .Lambda .., h => by simp [tgB] at h
  | .nm _, .IfExp .., h => by simp [tgB] at h
  | .nm _, .Dict .., h => by simp [tgB] at h
  | .nm _, .Set .., h => by simp [tgB] at h
  | .nm _, .ListComp .., h => by simp [tgB] at h
  | .nm _, .SetComp .., h => by simp [tgB] at h
  | .nm _, .DictComp .., h => by simp [tgB] at h
  | .nm _, .GeneratorExp .., h => by simp [tgB] at h
  | .nm _, .Await .., h => by simp [tgB] at h
  | .nm _, .Yield .., h => by simp [tgB] at h
  | .nm _, .YieldFrom .., h => by simp [tgB] at h
  | .nm _, .Compare .., h => by simp [tgB] at h
  | .nm _, .Call .., h => by simp [tgB] at h
  | .nm _, .FormattedValue .., h => by simp [tgB] at h
  | .nm _, .JoinedStr .., h => by simp [tgB] at h
  | .nm _, .Constant .., h => by simp [tgB] at h
  | .nm _, .Attribute .., h => by simp [tgB] at h
  | .nm _, .Subscript .., h => by simp [tgB] at h
  | .nm _, .Starred .., h => by simp [tgB] at h
  | .nm _, .List .., h => by simp [tgB] at h
  | .nm _, .Tuple .., h => by simp [tgB] at h
  | .nm _, .Slice .., h => by simp [tgB] at h
  | .tp _, .BoolOp .., h => by simp [tgB] at h
  | .tp _, .NamedExpr .., h => by simp [tgB] at h
  | .tp _, .BinOp .., h => by simp [tgB] at h
  | .tp _, .UnaryOp .., h => by simp [tgB] at h
  | .tp _, .Lambda .., h => by simp [tgB] at h
  | .tp _, .IfExp .., h => by simp [tgB] at h
  | .tp _, .Dict .., h => by simp [tgB] at h
  | .tp _, .Set .., h => by simp [tgB] at h
  | .tp _, .ListComp .., h => by simp [tgB] at h
  | .tp _, .SetComp .., h => by simp [tgB] at h
  | .tp _, .DictComp .., h => by simp [tgB] at h
  | .tp _, .GeneratorExp .., h => by simp [tgB] at h
  | .tp _, .Await .., h => by simp [tgB] at h
  | .tp _, .Yield .., h => by simp [tgB] at h
  | .tp _, .YieldFrom .., h => by simp [tgB] at h
  | .tp _, .Compare .., h => by simp [tgB] at h
  | .tp _, .Call .., h => by simp [tgB] at h
  | .tp _, .FormattedValue .., h => by simp [tgB] at h
  | .tp _, .JoinedStr .., h => by simp [tgB] at h
  | .tp _, .Constant .., h => by simp [tgB] at h
  | .tp _, .Attribute .., h => by simp [tgB] at h
  | .tp _, .Subscript .., h => by simp [tgB] at h
  | .tp _, .Starred .., h => by simp [tgB] at h
  | .tp _, .Name .., h => by simp [tgB] at h
  | .tp _, .List .., h => by simp [tgB] at h
  | .tp _, .Slice .., h => by simp [tgB] at h
theorem pgs_of (hc : X.calm = true) (nd : X.N.Nodup) (hN : X.N = ck.N) (hl : ∀ x, locB ck.sc x = true → Loc X.env.scope x ∧ (X.fn x = true ∨ X.env.scope.names.lookup x = some .local)) : ∀ (ts : Ts) (es : List Expr), tgsB ck ts es = true → PGs X es (tGs r ts)
  | .nil, [], h => by
    refine PGs.imp pgs_nil fun v σ H Q q => ?_
    obtain ⟨ms, xs, S, ρ, ds, ρ', s, e, rd, hb, q⟩ := q
    cases ds with
    | nil =>
      simp only [bindT.bindTs, Option.some.injEq] at hb
      subst hb
      exact ⟨rd.nil_eq, q σ e fun _ _ => rfl⟩
    | cons d ds => simp [bindT.bindTs] at hb
  | .nil, _ :: _, h => by simp [tgsB] at h
  | .cons t ts, [], h => by simp [tgsB] at h
  | .cons t ts, e :: es, h => by
    simp only [tgsB, Bool.and_eq_true] at h
    obtain ⟨⟨h1, h2⟩, h3⟩ := h
    refine PGs.imp (pgs_cons (pg_of hc nd hN hl t e h2) (pgs_of hc nd hN hl ts es h3) (by rw [asgE_of h1]; rfl)) fun v σ H Q q => ?_
    obtain ⟨ms, xs, S, ρ, ds, ρ', s, en, rd, hb, q⟩ := q
    cases ds with
    | nil => simp [bindT.bindTs] at hb
    | cons d ds =>
      obtain ⟨v, us, rfl, rd1, rd2⟩ := rd.uncons
      simp only [bindT.bindTs] at hb
      split at hb
      · rename_i ρ1 hb1
        refine ⟨v, us, rfl, ms, xs, S, ρ, d, ρ1, s, en, rd1, hb1, fun σ1 e1 j1 => ?_⟩
        refine ⟨ms, xs, S, ρ1, ds, ρ', s, e1, rd2, hb, fun σ2 e2 j2 => q σ2 e2 fun j hj => ?_⟩
        simp only [slotss, List.mem_append, not_or] at hj
        rw [j2 j hj.2, j1 j hj.1]
      · cases hb
end
end
end Mi
namespace Mi
open PySem L2
section
variable {r : Rx} {ms xs ys : List Addr} {H : Hp}
theorem in_more (s : ∀ b ∈ ys, b ∈ xs ∨ H b = none) {a : Addr} {o : HO} (ha : H a = some o) (n : a ∉ xs) : a ∉ ys := fun q => by
  rcases s a q with z | z
  · exact n z
  · rw [ha] at z; cases z
mutual
theorem RelD.more (s : ∀ b ∈ ys, b ∈ xs ∨ H b = none) : ∀ {d : D} {v : V}, RelD r ms xs H d v → RelD r ms ys H d v
  | .non, v, h => by simp only [RelD] at h ⊢; exact h
  | .bl b, v, h => by simp only [RelD] at h ⊢; exact h
  | .int b, v, h => by simp only [RelD] at h ⊢; exact h
  | .str t, v, h => by simp only [RelD] at h ⊢; exact h
  | .tup ds, v, h => by
    simp only [RelD] at h ⊢
    obtain ⟨a, vs, rfl, ha, n, nx, q⟩ := h
    exact ⟨a, vs, rfl, ha, n, in_more s ha nx, RelDs.more s q⟩
  | .fz ds, v, h => by
    simp only [RelD] at h ⊢
    obtain ⟨a, vs, rfl, ha, n, nx, q⟩ := h
    exact ⟨a, vs, rfl, ha, n, in_more s ha nx, RelDs.more s q⟩
  | .scr ds, v, h => by
    simp only [RelD] at h ⊢
    obtain ⟨a, vs, rfl, hz, k, q⟩ := h
    refine ⟨a, vs, rfl, hz, ?_, RelDs.more s q⟩
    rcases k with k | ⟨k, n, nx⟩
    · exact .inl k
    · refine .inr ⟨k, n, ?_⟩
      rcases k with k | ⟨o, k⟩
      · exact in_more s k nx
      · exact in_more s k nx
  | .dz, v, h => by
    simp only [RelD] at h ⊢
    obtain ⟨a, rfl, ha, n, nx⟩ := h
    exact ⟨a, rfl, ha, n, in_more s ha nx⟩
  | .ref n, v, h => by simp only [RelD] at h ⊢; exact h
  | .fn f, v, h => by simp only [RelD] at h ⊢; exact h
  | .cls c, v, h => by simp only [RelD] at h ⊢; exact h
  | .lam f, v, h => by
    simp only [RelD] at h ⊢
    obtain ⟨a, c, q, prm, body, scope, rfl, h1, h2, h3, ⟨n1, n2⟩, n3, n4⟩ := h
    exact ⟨a, c, q, prm, body, scope, rfl, h1, h2, h3, ⟨n1, in_more s h2 n2⟩, n3, in_more s h3 n4⟩
theorem RelDs.more (s : ∀ b ∈ ys, b ∈ xs ∨ H b = none) : ∀ {ds : List D} {vs : List V}, RelDs r ms xs H ds vs → RelDs r ms ys H ds vs
  | [], vs, h => by simp only [RelDs] at h ⊢; exact h
  | d :: ds, vs, h => by
    simp only [RelDs] at h ⊢
    obtain ⟨v, us, rfl, h1, h2⟩ := h
    exact ⟨v, us, rfl, RelD.more s h1, RelDs.more s h2⟩
end
theorem REnv.more {ρ : Env} {σ : L2.St} (s : ∀ b ∈ ys, b ∈ xs ∨ H b = none) (h : REnv r ms xs H ρ σ) : REnv r ms ys H ρ σ :=
  ⟨h.1, fun i d q => let ⟨v, a, b⟩ := h.2 i d q; ⟨v, a, b.more s⟩⟩
end
structure WalkRel (r : Rx) (xs ms0 : List Addr) (H0 : Hp) (J : It) (w : Walk) : Prop where
  sz : w.ds.length ≤ sizeLine
  go : ∀ ys ms H S, (∀ b ∈ ys, b ∈ xs ∨ H0 b = none) → Ext ms0 H0 ms H → Sim r ms ys H S → w.ok S = true → ∀ (i : Nat) d, w.ds[i]? = some d → J.go i H ∧ ∀ x H', J.yld i H x H' → Ext ms H ms H' ∧ Sim r ms ys H' S ∧ RelD r ms ys H' d x
  stop : ∀ ys ms H S, (∀ b ∈ ys, b ∈ xs ∨ H0 b = none) → Ext ms0 H0 ms H → Sim r ms ys H S → w.ok S = true → J.stop w.ds.length H
section
variable (r : Rx) (C : Cf) (W : WX)
def tI (src : Src) : TI := fun σ H R => ∃ ms xs S ρ, Sim r ms xs H S ∧ REnv r ms xs H ρ σ ∧
  Good r xs ms H (evSrc C src ρ S) (fun w S' ms' H' => ∀ J, w.ok S' = true → WalkRel r xs ms' H' J w → R J H') (exW r W σ)
end
section
variable {X : Cx} {r : Rx} {C : Cf} {W : WX} {tx : Tx} {k : Nat} {ck : Ck} {tg : Expr}
theorem PI.imp {tg e : Expr} {t t' : TI} (h : PI X tg e t) (f : ∀ σ H R, t' σ H R → t σ H R) : PI X tg e t' := ⟨fun pins s σ H R I q => h.run pins s σ H R I (f σ H R q)⟩
theorem list_stays {xs ys ms0 ms : List Addr} {H0 H : Hp} {S0 S : Store} {d : D} {ds : List D} {v : V} (s0 : Sim r ms0 xs H0 S0) (rd : RelD r ms0 xs H0 d v) (h : asL S0 d = some ds) (hy : ∀ b ∈ ys, b ∈ xs ∨ H0 b = none) (x : Ext ms0 H0 ms H) (s : Sim r ms ys H S) (hk : stays d ds S = true) :
    ∃ a vs, v = .ref a ∧ H a = some (.lst vs) ∧ RelDs r ms ys H ds vs := by
  unfold asL at h
  split at h
  · cases h
    have rd' := (rd.more hy).mono x
    simp only [RelD] at rd'
    obtain ⟨a, vs, rfl, ha, _, _, q⟩ := rd'
    exact ⟨a, vs, rfl, ha, q⟩
  · split at h
    · cases h
      have rd' := rd.mono x
      simp only [RelD] at rd'
      obtain ⟨a, ha, rfl⟩ := rd'
      simp only [stays, decide_eq_true_eq] at hk
      obtain ⟨vs, e, q⟩ := s.obj _ _ a hk ha
      exact ⟨a, vs, rfl, e, q⟩
    · cases h
  · cases h
theorem stays_now {S : Store} {d : D} {ds : List D} (h : asL S d = some ds) : stays d ds S = true := by
  unfold asL at h
  split at h
  · rfl
  · split at h
    · rename_i hn
      cases h
      simp only [stays, decide_eq_true_eq]; exact hn
    · cases h
  · cases h
theorem stays_nowQ {S : Store} {d : D} {ds : List D} (h : asQ S d = some ds) : stays d ds S = true := by
  unfold asQ at h
  split at h
  · rfl
  · exact stays_now h
theorem walk_list {xs ms0 : List Addr} {H0 : Hp} {S0 : Store} {d : D} {ds : List D} {a : Addr} (K : PySem.W.Frag) (s0 : Sim r ms0 xs H0 S0) (rd : RelD r ms0 xs H0 d (.ref a)) (h : asL S0 d = some ds) : WalkRel r xs ms0 H0 (Itl K a) ⟨ds, stays d ds⟩ := by
  refine ⟨?_, fun ys ms H S hy x s hk i e hi => ?_, fun ys ms H S hy x s hk => ?_⟩
  · obtain ⟨b, vs, e, hb, q⟩ := asL_rel s0 rd h
    rw [← q.length]; exact s0.szl b vs hb
  · obtain ⟨b, vs, e, hb, q⟩ := list_stays s0 rd h hy x s hk
    cases e
    obtain ⟨v, hv, rv⟩ := q.get hi
    refine ⟨⟨vs, v, .of hb, hv⟩, fun y H' z => ?_⟩
    obtain ⟨rfl, z⟩ := z
    have := z vs (.of hb)
    rw [hv] at this; cases this
    exact ⟨.refl, s, rv⟩
  · obtain ⟨b, vs, e, hb, q⟩ := list_stays s0 rd h hy x s hk
    cases e
    exact ⟨vs, .of hb, by rw [q.length]; exact Nat.le_refl _⟩
theorem walk_tup {xs ms0 : List Addr} {H0 : Hp} {S0 : Store} {ds : List D} {a : Addr} (K : PySem.W.Frag) (s0 : Sim r ms0 xs H0 S0) (rd : RelD r ms0 xs H0 (.tup ds) (.ref a)) : WalkRel r xs ms0 H0 (Itt K a) ⟨ds, stays (.tup ds) ds⟩ := by
  refine ⟨?_, fun ys ms H S hy x s hk i e hi => ?_, fun ys ms H S hy x s hk => ?_⟩
  · simp only [RelD] at rd
    obtain ⟨b, vs, e, hb, _, _, q⟩ := rd
    show ds.length ≤ sizeLine
    rw [← q.length]; exact s0.szt b vs hb
  · have rd' := (rd.more hy).mono x
    simp only [RelD] at rd'
    obtain ⟨b, vs, e, hb, _, _, q⟩ := rd'
    cases e
    obtain ⟨v, hv, rv⟩ := q.get hi
    refine ⟨⟨vs, v, .of hb, hv⟩, fun y H' z => ?_⟩
    obtain ⟨rfl, z⟩ := z
    have := z vs (.of hb)
    rw [hv] at this; cases this
    exact ⟨.refl, s, rv⟩
  · have rd' := (rd.more hy).mono x
    simp only [RelD] at rd'
    obtain ⟨b, vs, e, hb, _, _, q⟩ := rd'
    cases e
    exact ⟨vs, .of hb, by rw [q.length]; exact Nat.le_refl _⟩
theorem pi_seq {l : Expr} {tl : TE} (hl : PE X l tl) : PI X tg l (fun σ H R => tl σ H fun x H1 => (∃ a, x = .ref a ∧ (∃ xs, SqL X.K H1 a xs) ∧ R (Itl X.K a) H1) ∨ ∃ a, x = .ref a ∧ (∃ xs, SqT X.K H1 a xs) ∧ R (Itt X.K a) H1) := by
  refine ⟨fun pins s σ H R I h => ?_⟩
  refine thn (hl.run pins s σ H _ I h) fun v s1 ⟨x, H1, I1, r1, q1⟩ => ?_
  have fin : ∀ b ∈ [s1.heap.objs.size], FpOk X pins H1 b := fun b hb => by
    rw [List.mem_singleton.mp hb]
    exact I1.fpOk (Nat.le_refl _) (I1.hok.fresh (Nat.le_refl _))
  rcases q1 with ⟨a, rfl, ⟨xs, hq⟩, q⟩ | ⟨a, rfl, ⟨xs, hq⟩, q⟩
  · cases r1
    obtain ⟨its, rv, p, hz⟩ := I1.list hq
    refine wpAny_pyIter_list p.isList ⟨_, [_], _, _, H1, rfl, I1.kept (t' := s1.toks) fun b o e => Heap.get?_push_of_some _ e, turn_list a _, ⟨_, Heap.get?_push_size _ rfl, rfl, rfl⟩, fin, q⟩
  · cases r1
    obtain ⟨its, rv, p, hz⟩ := I1.tuple hq
    refine wpAny_pyIter_tuple (show s1.heap.IsTuple a its.toArray from p) ⟨_, [_], _, _, H1, rfl, I1.kept (t' := s1.toks) fun b o e => Heap.get?_push_of_some _ e, turn_tuple a _, ⟨_, Heap.get?_push_size _ rfl, rfl, rfl⟩, fin, q⟩
theorem si_seq {a : E} {e : Expr} (ha : PE X e (tE r C W a)) : PI X tg e (tI r C W (.seq a)) := by
  refine PI.imp (pi_seq ha) fun σ H R q => ?_
  obtain ⟨ms, xs, S, ρ, s, en, g⟩ := q
  simp only [evSrc] at g
  refine tE_of s en g fun d v S1 m1 H1 x1 s1 e1 q1 g1 => ?_
  simp only [walkS] at g1
  split at g1
  · rename_i ds hd
    have hq := stays_nowQ hd
    unfold asQ at hd
    split at hd
    · cases hd
      have q2 := q1
      simp only [RelD] at q2
      obtain ⟨b, vs, rfl, hb, _⟩ := q2
      exact .inr ⟨b, rfl, ⟨vs, .of hb⟩, g1 m1 H1 .refl s1 _ hq (walk_tup X.K s1 q1)⟩
    · obtain ⟨b, vs, rfl, hb, _⟩ := asL_rel s1 q1 hd
      exact .inl ⟨b, rfl, ⟨vs, .of hb⟩, g1 m1 H1 .refl s1 _ hq (walk_list X.K s1 q1 hd)⟩
  · exact g1.elim

theorem rangeD_get {lo : Int} {n i : Nat} {d : D} (h : (rangeD lo n)[i]? = some d) : i < n ∧ d = .int (lo + (i : Nat)) := by
  unfold rangeD at h
  rw [List.getElem?_map] at h
  cases e : (List.range n)[i]? with
  | none => rw [e] at h; cases h
  | some j =>
    rw [e] at h
    have hj := List.getElem?_eq_some_iff.mp e
    have h1 : i < n := by simpa using hj.1
    have h2 : j = i := by rw [← hj.2]; simp
    subst h2
    exact ⟨h1, (Option.some.inj h).symm⟩
theorem rangeD_len (lo : Int) (n : Nat) : (rangeD lo n).length = n := by simp [rangeD]
theorem walk_rng {xs ms0 : List Addr} {H0 : Hp} {lo : Int} {n : Nat} (hn : n ≤ 2000000) : WalkRel r xs ms0 H0 (Itr lo n) ⟨rangeD lo n, fun _ => true⟩ := by
  refine ⟨?_, fun ys ms H S hy x s hk i e hi => ?_, fun ys ms H S hy x s hk => ?_⟩
  · show (rangeD lo n).length ≤ sizeLine
    rw [rangeD_len, sizeLine_eq]; omega
  · obtain ⟨h1, rfl⟩ := rangeD_get hi
    refine ⟨h1, fun y H' z => ?_⟩
    obtain ⟨rfl, rfl⟩ := z
    exact ⟨.refl, s, .of_int⟩
  · show n ≤ (rangeD lo n).length
    rw [rangeD_len]; exact Nat.le_refl _
theorem walkR_inv {xs ms : List Addr} {H : Hp} {S : Store} {x y : D} {ok : Walk → Store → List Addr → Hp → Prop} {ex : Nat → Store → List Addr → Hp → Prop} (h : Good r xs ms H (walkR x y S) ok ex) :
    ∃ i j, x = .int i ∧ y = .int j ∧ (-1000000 ≤ i ∧ i ≤ 1000000 ∧ -1000000 ≤ j ∧ j ≤ 1000000) ∧ Good r xs ms H (.ok ⟨rangeD i (j - i).toNat, fun _ => true⟩ S) ok ex := by
  unfold walkR at h
  split at h
  · rename_i i j
    split at h
    · rename_i hc
      exact ⟨i, j, rfl, rfl, hc, h⟩
    · exact h.elim
  · exact h.elim
theorem si_rng {a : E} {y : Expr} {p pos : Pos} (hg : Gl X "range") (hm : X.mg "range" = none) (hs : noStar y = true) (ha : PE X y (tE r C W a)) : PI X tg (.Call (.Name "range" p) [y] [] pos) (tI r C W (.rng a)) := by
  refine PI.imp (pi_range1 hg hm (pa_cons ha pa_nil (star_of hs)) (star_of hs)) fun σ H R q => ?_
  obtain ⟨ms, xs, S, ρ, s, en, g⟩ := q
  simp only [evSrc] at g
  refine tE_of s en g fun d v S1 m1 H1 x1 s1 e1 q1 g1 => ?_
  obtain ⟨i, j, hi, rfl, hc, g2⟩ := walkR_inv g1
  cases hi
  refine ⟨j, by rw [q1.int_eq], by omega, by omega, ?_⟩
  rw [Int.sub_zero] at g2
  exact g2 m1 H1 .refl s1 _ rfl (walk_rng (by omega))
theorem si_rng2 {a b : E} {y z : Expr} {p pos : Pos} (hg : Gl X "range") (hm : X.mg "range" = none) (hs : noStar y = true) (hs2 : noStar z = true) (ha : PE X y (tE r C W a)) (hb : PE X z (tE r C W b)) : PI X tg (.Call (.Name "range" p) [y, z] [] pos) (tI r C W (.rng2 a b)) := by
  refine PI.imp (pi_range2 hg hm (pa_cons ha (pa_cons hb pa_nil (star_of hs2)) (star_of hs)) (by rw [star_of hs, star_of hs2]; rfl) (star_of hs2)) fun σ H R q => ?_
  obtain ⟨ms, xs, S, ρ, s, en, g⟩ := q
  simp only [evSrc] at g
  refine tE_of s en g fun d v S1 m1 H1 x1 s1 e1 q1 g1 => ?_
  refine tE_of s1 e1 g1 fun d2 v2 S2 m2 H2 x2 s2 e2 q2 g2 => ?_
  obtain ⟨i, j, rfl, rfl, hc, g3⟩ := walkR_inv g2
  refine ⟨i, j, by rw [(q1.mono x2).int_eq, q2.int_eq], ⟨by omega, by omega, by omega, by omega⟩, ?_⟩
  exact g3 m2 H2 .refl s2 _ rfl (walk_rng (by omega))

theorem enumD_get : ∀ {ds : List D} {k i : Nat} {d : D}, (enumD k ds)[i]? = some d → ∃ e, ds[i]? = some e ∧ d = .tup [.int ((k + i : Nat) : Int), e]
  | [], k, i, d, h => by simp [enumD] at h
  | x :: xs, k, 0, d, h => by
    simp only [enumD, List.getElem?_cons_zero, Option.some.injEq] at h
    exact ⟨x, rfl, h.symm⟩
  | x :: xs, k, i + 1, d, h => by
    simp only [enumD, List.getElem?_cons_succ] at h
    obtain ⟨e, h1, h2⟩ := enumD_get h
    refine ⟨e, by simpa using h1, ?_⟩
    rw [h2]
    have : k + 1 + i = k + (i + 1) := by omega
    rw [this]
theorem enumD_len : ∀ (k : Nat) (ds : List D), (enumD k ds).length = ds.length
  | k, [] => rfl
  | k, x :: xs => by simp [enumD, enumD_len (k + 1) xs]
theorem pair_rel {ms ys : List Addr} {H : Hp} {S : Store} {T : Addr} {d e : D} {x y : V} (s : Sim r ms ys H S) (hT : H T = none) (h1 : RelD r ms ys H d x) (h2 : RelD r ms ys H e y) :
    Ext ms H ms (upd H T (.tup [x, y])) ∧ Sim r ms ys (upd H T (.tup [x, y])) S ∧ RelD r ms ys (upd H T (.tup [x, y])) (.tup [d, e]) (.ref T) := by
  have hx : Ext ms H ms (upd H T (.tup [x, y])) := Ext.new hT
  refine ⟨hx, s.new hT (fun _ z => by cases z) (fun vs z => by cases z; exact sz_of (by simp)), ?_⟩
  simp only [RelD]
  exact ⟨T, _, rfl, upd_same, (s.fresh hT).1, (s.fresh hT).2, .cons (h1.mono hx) (.one (h2.mono hx))⟩
theorem walk_enum {xs ms0 : List Addr} {H0 : Hp} {S0 : Store} {d : D} {ds : List D} {a : Addr} (K : PySem.W.Frag) (s0 : Sim r ms0 xs H0 S0) (rd : RelD r ms0 xs H0 d (.ref a)) (h : asL S0 d = some ds) : WalkRel r xs ms0 H0 (Ite K a) ⟨enumD 0 ds, stays d ds⟩ := by
  refine ⟨?_, fun ys ms H S hy x s hk i e hi => ?_, fun ys ms H S hy x s hk => ?_⟩
  · obtain ⟨b, vs, e, hb, q⟩ := asL_rel s0 rd h
    show (enumD 0 ds).length ≤ sizeLine
    rw [enumD_len, ← q.length]; exact s0.szl b vs hb
  · obtain ⟨b, vs, e, hb, q⟩ := list_stays s0 rd h hy x s hk
    cases e
    obtain ⟨f, hf, rfl⟩ := enumD_get hi
    obtain ⟨v, hv, rv⟩ := q.get hf
    refine ⟨⟨vs, v, .of hb, hv⟩, fun y H' z => ?_⟩
    obtain ⟨T, w, rfl, hT, rfl, z⟩ := z
    have := z vs (.of hb)
    rw [hv] at this; cases this
    rw [Nat.zero_add]
    exact pair_rel s hT .of_int rv
  · obtain ⟨b, vs, e, hb, q⟩ := list_stays s0 rd h hy x s hk
    cases e
    exact ⟨vs, .of hb, by rw [enumD_len, q.length]; exact Nat.le_refl _⟩
theorem si_enum {a : E} {y : Expr} {p pos tpos : Pos} {elts : List Expr} {kk : Nat} (hg : Gl X "enumerate") (hm : X.mg "enumerate" = none) (hs : noStar y = true) (ha : PE X y (tE r C W a)) : PI X (.Tuple elts kk tpos) (.Call (.Name "enumerate" p) [y] [] pos) (tI r C W (.enum a)) := by
  refine PI.imp (pi_enum hg hm (pa_cons ha pa_nil (star_of hs)) (star_of hs)) fun σ H R q => ?_
  obtain ⟨ms, xs, S, ρ, s, en, g⟩ := q
  simp only [evSrc] at g
  refine tE_of s en g fun d v S1 m1 H1 x1 s1 e1 q1 g1 => ?_
  simp only [walkE] at g1
  split at g1
  · rename_i ds hd
    obtain ⟨b, vs, rfl, hb, _⟩ := asL_rel s1 q1 hd
    exact ⟨b, vs, rfl, .of hb, g1 m1 H1 .refl s1 _ (stays_now hd) (walk_enum X.K s1 q1 hd)⟩
  · exact g1.elim
theorem zipD_get : ∀ {xs ys : List D} {i : Nat} {d : D}, (zipD xs ys)[i]? = some d → ∃ e f, xs[i]? = some e ∧ ys[i]? = some f ∧ d = .tup [e, f]
  | [], ys, i, d, h => by simp [zipD] at h
  | x :: xs, [], i, d, h => by simp [zipD] at h
  | x :: xs, y :: ys, 0, d, h => by
    simp only [zipD, List.getElem?_cons_zero, Option.some.injEq] at h
    exact ⟨x, y, rfl, rfl, h.symm⟩
  | x :: xs, y :: ys, i + 1, d, h => by
    simp only [zipD, List.getElem?_cons_succ] at h
    obtain ⟨e, f, h1, h2, h3⟩ := zipD_get h
    exact ⟨e, f, by simpa using h1, by simpa using h2, h3⟩
theorem zipD_len : ∀ (xs ys : List D), (zipD xs ys).length = min xs.length ys.length
  | [], ys => by simp [zipD]
  | x :: xs, [] => by simp [zipD]
  | x :: xs, y :: ys => by simp [zipD, zipD_len xs ys]
theorem walk_zip {xs ms0 : List Addr} {H0 : Hp} {S0 : Store} {d d2 : D} {ds ds2 : List D} {a b : Addr} (K : PySem.W.Frag) (s0 : Sim r ms0 xs H0 S0) (rd : RelD r ms0 xs H0 d (.ref a)) (h : asL S0 d = some ds) (rd2 : RelD r ms0 xs H0 d2 (.ref b)) (h2 : asL S0 d2 = some ds2) :
    WalkRel r xs ms0 H0 (Itz K a b) ⟨zipD ds ds2, fun S' => stays d ds S' && stays d2 ds2 S'⟩ := by
  refine ⟨?_, fun ys ms H S hy x s hk i e hi => ?_, fun ys ms H S hy x s hk => ?_⟩
  · obtain ⟨b, vs, e, hb, q⟩ := asL_rel s0 rd h
    show (zipD ds ds2).length ≤ sizeLine
    rw [zipD_len, ← q.length]; exact Nat.le_trans (Nat.min_le_left _ _) (s0.szl b vs hb)
  · simp only [Bool.and_eq_true] at hk
    obtain ⟨p, vs, e, hb, q⟩ := list_stays s0 rd h hy x s hk.1
    cases e
    obtain ⟨p2, vs2, e, hb2, q2⟩ := list_stays s0 rd2 h2 hy x s hk.2
    cases e
    obtain ⟨f, f2, hf, hf2, rfl⟩ := zipD_get hi
    obtain ⟨v, hv, rv⟩ := q.get hf
    obtain ⟨v2, hv2, rv2⟩ := q2.get hf2
    refine ⟨⟨vs, vs2, v, v2, .of hb, .of hb2, hv, hv2⟩, fun y H' z => ?_⟩
    obtain ⟨T, w, w2, rfl, hT, rfl, z, z2⟩ := z
    have := z vs (.of hb)
    rw [hv] at this; cases this
    have := z2 vs2 (.of hb2)
    rw [hv2] at this; cases this
    exact pair_rel s hT rv rv2
  · simp only [Bool.and_eq_true] at hk
    obtain ⟨p, vs, e, hb, q⟩ := list_stays s0 rd h hy x s hk.1
    cases e
    obtain ⟨p2, vs2, e, hb2, q2⟩ := list_stays s0 rd2 h2 hy x s hk.2
    cases e
    refine ⟨vs, vs2, .of hb, .of hb2, ?_⟩
    rw [zipD_len, q.length, q2.length]
    omega
theorem si_zip {a b : E} {y z : Expr} {p pos tpos : Pos} {elts : List Expr} {kk : Nat} (hg : Gl X "zip") (hm : X.mg "zip" = none) (hs : noStar y = true) (hs2 : noStar z = true) (ha : PE X y (tE r C W a)) (hb : PE X z (tE r C W b)) : PI X (.Tuple elts kk tpos) (.Call (.Name "zip" p) [y, z] [] pos) (tI r C W (.zip a b)) := by
  refine PI.imp (pi_zip hg hm (pa_cons ha (pa_cons hb pa_nil (star_of hs2)) (star_of hs)) (star_of hs) (noStars (by simp [hs2]))) fun σ H R q => ?_
  obtain ⟨ms, xs, S, ρ, s, en, g⟩ := q
  simp only [evSrc] at g
  refine tE_of s en g fun d v S1 m1 H1 x1 s1 e1 q1 g1 => ?_
  refine tE_of s1 e1 g1 fun d2 v2 S2 m2 H2 x2 s2 e2 q2 g2 => ?_
  simp only [walkZ] at g2
  split at g2
  · rename_i ds ds2 hd hd2
    have q1' := q1.mono x2
    obtain ⟨p, vs, rfl, hp, _⟩ := asL_rel s2 q1' hd
    obtain ⟨p2, vs2, rfl, hp2, _⟩ := asL_rel s2 q2 hd2
    exact ⟨p, p2, vs, vs2, rfl, .of hp, .of hp2, g2 m2 H2 .refl s2 _ (by simp [stays_now hd, stays_now hd2]) (walk_zip X.K s2 q1' hd q2 hd2)⟩
  · exact g2.elim
end
end Mi
namespace Mi
open PySem L2
theorem wipeE_len (ρ : Env) : ∀ vs : List Nat, (wipeE ρ vs).length = ρ.length
  | [] => rfl
  | v :: vs => by unfold wipeE; rw [List.length_set, wipeE_len ρ vs]
theorem wipeE_some {ρ : Env} {i : Nat} {d : D} : ∀ {vs : List Nat}, (wipeE ρ vs)[i]? = some (some d) → ρ[i]? = some (some d) ∧ i ∉ vs
  | [], h => ⟨h, by simp⟩
  | v :: vs, h => by
    unfold wipeE at h
    by_cases hi : v = i
    · subst hi
      by_cases hv : v < (wipeE ρ vs).length
      · rw [List.getElem?_set_self hv] at h; cases h
      · rw [List.getElem?_eq_none (by simpa using hv)] at h; cases h
    · rw [List.getElem?_set_ne hi] at h
      obtain ⟨h1, h2⟩ := wipeE_some h
      exact ⟨h1, by simp only [List.mem_cons, not_or]; exact ⟨fun e => hi e.symm, h2⟩⟩
theorem wipe_get {σ : L2.St} {i : Nat} : ∀ {vs : List Nat}, i ∉ vs → (wipe σ vs)[i]? = σ[i]?
  | [], _ => rfl
  | v :: vs, h => by
    simp only [List.mem_cons, not_or] at h
    unfold wipe
    rw [List.getElem?_set_ne (fun e => h.1 e.symm)]
    exact wipe_get h.2
theorem wipe_in {σ : L2.St} {i : Nat} : ∀ {vs : List Nat}, i ∈ vs → (wipe σ vs)[i]? = if i < σ.length then some none else none
  | [], h => by cases h
  | v :: vs, h => by
    unfold wipe
    by_cases e : v = i
    · subst e
      by_cases hv : v < σ.length
      · rw [List.getElem?_set_self (by rw [wipe_length]; exact hv), if_pos hv]
      · rw [if_neg hv, List.getElem?_eq_none (by simp [wipe_length]; omega)]
    · rw [List.getElem?_set_ne e]
      rcases List.mem_cons.mp h with q | q
      · exact absurd q.symm e
      · exact wipe_in q
theorem wipe_ext {σ σ' : L2.St} {vs : List Nat} (hl : σ'.length = σ.length) (h : ∀ j : Nat, j ∉ vs → σ'[j]? = σ[j]?) : wipe σ' vs = wipe σ vs := by
  refine List.ext_getElem? fun j => ?_
  by_cases hj : j ∈ vs
  · rw [wipe_in hj, wipe_in hj, hl]
  · rw [wipe_get hj, wipe_get hj, h j hj]
mutual
theorem bindT_len : ∀ {t : T} {d : D} {ρ ρ' : Env}, bindT t d ρ = some ρ' → ρ'.length = ρ.length
  | .nm i, d, ρ, ρ', h => by simp only [bindT, Option.some.injEq] at h; subst h; simp
  | .tp ts, d, ρ, ρ', h => by
    cases d <;> simp only [bindT] at h <;> try cases h
    all_goals exact bindTs_len2 h
theorem bindTs_len2 : ∀ {ts : Ts} {ds : List D} {ρ ρ' : Env}, bindT.bindTs ts ds ρ = some ρ' → ρ'.length = ρ.length
  | .nil, [], ρ, ρ', h => by simp only [bindT.bindTs, Option.some.injEq] at h; subst h; rfl
  | .nil, _ :: _, _, _, h => by simp [bindT.bindTs] at h
  | .cons t ts, [], _, _, h => by simp [bindT.bindTs] at h
  | .cons t ts, d :: ds, ρ, ρ', h => by
    simp only [bindT.bindTs] at h
    split at h
    · rename_i ρ1 h1
      rw [bindTs_len2 h, bindT_len h1]
    · cases h
end
section
variable {X : Cx} {r : Rx} {C : Cf} {W : WX} {tx : Tx} {k : Nat} {ck : Ck}
theorem REnv.wipe {ms xs : List Addr} {H : Hp} {ρ : Env} {σ : L2.St} (h : REnv r ms xs H ρ σ) (vs : List Nat) : REnv r ms xs H (wipeE ρ vs) (L2.wipe σ vs) := by
  refine ⟨by rw [wipe_length, wipeE_len, h.1], fun i d e => ?_⟩
  obtain ⟨h1, h2⟩ := wipeE_some e
  obtain ⟨v, h3, h4⟩ := h.2 i d h1
  exact ⟨v, by rw [wipe_get h2]; exact h3, h4⟩
theorem not_app {ms xs : List Addr} {D a : Addr} (h1 : a ∉ ms) (h2 : a ∉ xs ++ [D]) : a ∉ ms ++ [D] ∧ a ∉ xs := by
  refine ⟨fun q => ?_, fun q => h2 (List.mem_append_left _ q)⟩
  rcases List.mem_append.mp q with q | q
  · exact h1 q
  · exact h2 (List.mem_append_right _ q)
mutual
theorem RelD.adopt {ms xs : List Addr} {H : Hp} {A : Addr} : ∀ {d : D} {v : V}, RelD r ms (xs ++ [A]) H d v → RelD r (ms ++ [A]) xs H d v
  | .non, v, h => by simp only [RelD] at h ⊢; exact h
  | .bl b, v, h => by simp only [RelD] at h ⊢; exact h
  | .int b, v, h => by simp only [RelD] at h ⊢; exact h
  | .str t, v, h => by simp only [RelD] at h ⊢; exact h
  | .tup ds, v, h => by
    simp only [RelD] at h ⊢
    obtain ⟨a, vs, rfl, ha, n, nx, q⟩ := h
    exact ⟨a, vs, rfl, ha, (not_app n nx).1, (not_app n nx).2, RelDs.adopt q⟩
  | .fz ds, v, h => by
    simp only [RelD] at h ⊢
    obtain ⟨a, vs, rfl, ha, n, nx, q⟩ := h
    exact ⟨a, vs, rfl, ha, (not_app n nx).1, (not_app n nx).2, RelDs.adopt q⟩
  | .scr ds, v, h => by
    simp only [RelD] at h ⊢
    obtain ⟨a, vs, rfl, hz, k, q⟩ := h
    refine ⟨a, vs, rfl, hz, ?_, RelDs.adopt q⟩
    rcases k with k | ⟨k, n, nx⟩
    · exact .inl k
    · exact .inr ⟨k, (not_app n nx).1, (not_app n nx).2⟩
  | .ref n, v, h => by
    simp only [RelD] at h ⊢
    obtain ⟨a, h, rfl⟩ := h
    exact ⟨a, by rw [List.getElem?_append_left (List.getElem?_eq_some_iff.mp h).1]; exact h, rfl⟩
  | .dz, v, h => by
    simp only [RelD] at h ⊢
    obtain ⟨a, rfl, ha, n, nx⟩ := h
    exact ⟨a, rfl, ha, (not_app n nx).1, (not_app n nx).2⟩
  | .fn f, v, h => by simp only [RelD] at h ⊢; exact h
  | .cls c, v, h => by simp only [RelD] at h ⊢; exact h
  | .lam f, v, h => by
    simp only [RelD] at h ⊢
    obtain ⟨a, c, q, prm, body, scope, rfl, h1, h2, h3, ⟨n1, n2⟩, n3, n4⟩ := h
    exact ⟨a, c, q, prm, body, scope, rfl, h1, h2, h3, not_app n1 n2, not_app n3 n4⟩
theorem RelDs.adopt {ms xs : List Addr} {H : Hp} {A : Addr} : ∀ {ds : List D} {vs : List V}, RelDs r ms (xs ++ [A]) H ds vs → RelDs r (ms ++ [A]) xs H ds vs
  | [], vs, h => by simp only [RelDs] at h ⊢; exact h
  | d :: ds, vs, h => by
    simp only [RelDs] at h ⊢
    obtain ⟨v, us, rfl, h1, h2⟩ := h
    exact ⟨v, us, rfl, RelD.adopt h1, RelDs.adopt h2⟩
end
mutual
theorem RelD.poke {ms xs : List Addr} {H : Hp} {A : Addr} {o : HO} (hA : A ∈ xs) : ∀ {d : D} {v : V}, RelD r ms xs H d v → RelD r ms xs (upd H A o) d v
  | .non, v, h => by simp only [RelD] at h ⊢; exact h
  | .bl b, v, h => by simp only [RelD] at h ⊢; exact h
  | .int b, v, h => by simp only [RelD] at h ⊢; exact h
  | .str t, v, h => by simp only [RelD] at h ⊢; exact h
  | .tup ds, v, h => by
    simp only [RelD] at h ⊢
    obtain ⟨a, vs, rfl, ha, n, nx, q⟩ := h
    exact ⟨a, vs, rfl, by rw [upd_ne (fun z : a = A => nx (z ▸ hA))]; exact ha, n, nx, RelDs.poke hA q⟩
  | .fz ds, v, h => by
    simp only [RelD] at h ⊢
    obtain ⟨a, vs, rfl, ha, n, nx, q⟩ := h
    exact ⟨a, vs, rfl, by rw [upd_ne (fun z : a = A => nx (z ▸ hA))]; exact ha, n, nx, RelDs.poke hA q⟩
  | .scr ds, v, h => by
    simp only [RelD] at h ⊢
    obtain ⟨a, vs, rfl, hz, k, q⟩ := h
    refine ⟨a, vs, rfl, hz, ?_, RelDs.poke hA q⟩
    rcases k with k | ⟨k, n, nx⟩
    · exact .inl k
    · refine .inr ⟨?_, n, nx⟩
      have ne : a ≠ A := fun z => nx (z ▸ hA)
      rcases k with k | ⟨o, k⟩
      · exact .inl (by rw [upd_ne ne]; exact k)
      · exact .inr ⟨o, by rw [upd_ne ne]; exact k⟩
  | .ref n, v, h => by simp only [RelD] at h ⊢; exact h
  | .dz, v, h => by
    simp only [RelD] at h ⊢
    obtain ⟨a, rfl, ha, n, nx⟩ := h
    exact ⟨a, rfl, by rw [upd_ne (fun z : a = A => nx (z ▸ hA))]; exact ha, n, nx⟩
  | .fn f, v, h => by simp only [RelD] at h ⊢; exact h
  | .cls c, v, h => by simp only [RelD] at h ⊢; exact h
  | .lam f, v, h => by
    simp only [RelD] at h ⊢
    obtain ⟨a, c, q, prm, body, scope, rfl, h1, h2, h3, ⟨n1, n2⟩, n3, n4⟩ := h
    exact ⟨a, c, q, prm, body, scope, rfl, h1, by rw [upd_ne (fun z : a = A => n2 (z ▸ hA))]; exact h2, by rw [upd_ne (fun z : c = A => n4 (z ▸ hA))]; exact h3, ⟨n1, n2⟩, n3, n4⟩
theorem RelDs.poke {ms xs : List Addr} {H : Hp} {A : Addr} {o : HO} (hA : A ∈ xs) : ∀ {ds : List D} {vs : List V}, RelDs r ms xs H ds vs → RelDs r ms xs (upd H A o) ds vs
  | [], vs, h => by simp only [RelDs] at h ⊢; exact h
  | d :: ds, vs, h => by
    simp only [RelDs] at h ⊢
    obtain ⟨v, us, rfl, h1, h2⟩ := h
    exact ⟨v, us, rfl, RelD.poke hA h1, RelDs.poke hA h2⟩
end
theorem Sim.poke {ms xs : List Addr} {H : Hp} {S : Store} {A : Addr} {vs : List V} (s : Sim r ms xs H S) (hA : A ∈ xs) (hz : vs.length ≤ sizeLine) (hv : ∃ us, H A = some (.lst us)) : Sim r ms xs (upd H A (.lst vs)) S := by
  have tb : LamX.Tabs r.T (upd H A (.lst vs)) := by
    obtain ⟨us, hv⟩ := hv
    exact tabs_upd s.tabs (fun ps z => by rw [hv] at z; cases z) (fun q z => by rw [hv] at z; unfold LamX.CodeO at z; cases z)
  refine ⟨s.len, s.nd, s.dis, fun a ha => ?_, fun n o a hS hm => ?_, fun a us q => ?_, fun a us q => ?_, tb⟩
  · by_cases z : a = A
    · exact ⟨_, by rw [z, upd_same], fun _ z => (by cases z), fun _ z => (by cases z)⟩
    · obtain ⟨o, q, t⟩ := s.xin a ha
      exact ⟨o, by rw [upd_ne z]; exact q, t⟩
  · have ne : a ≠ A := fun z => s.dis A hA (z ▸ List.mem_of_getElem? hm)
    rw [upd_ne ne]
    exact (s.obj n o a hS hm).map fun d v q => q.poke hA
  · by_cases z : a = A
    · subst z; rw [upd_same] at q; cases q; exact hz
    · rw [upd_ne z] at q; exact s.szl a us q
  · by_cases z : a = A
    · subst z; rw [upd_same] at q; cases q
    · rw [upd_ne z] at q; exact s.szt a us q
theorem Sim.less {ms xs ys : List Addr} {H : Hp} {S : Store} (s : Sim r ms xs H S) (h : ∀ b ∈ ys, b ∈ xs) : Sim r ms ys H S :=
  ⟨s.len, s.nd, fun a ha => s.dis a (h a ha), fun a ha => s.xin a (h a ha), fun n o a hS hm => (s.obj n o a hS hm).map fun d v q => q.less h, s.szl, s.szt, s.tabs⟩
theorem Sim.adopt {ms xs : List Addr} {H : Hp} {S : Store} {A : Addr} {c : O} (s : Sim r ms (xs ++ [A]) H S) (hc : RelC r (ms ++ [A]) xs H c (H A)) (nA : A ∉ xs) : Sim r (ms ++ [A]) xs H (S ++ [c]) := by
  have hA : A ∉ ms := s.dis A (List.mem_append_right _ (List.mem_singleton.mpr rfl))
  refine ⟨by simp [s.len], ?_, fun a ha q => ?_, fun a ha => s.xin a (List.mem_append_left _ ha), fun n o a hS hm => ?_, s.szl, s.szt, s.tabs⟩
  · rw [List.nodup_append]
    exact ⟨s.nd, by simp, fun a ha b hb => by rw [List.mem_singleton.mp hb]; exact fun z => hA (z ▸ ha)⟩
  · rcases List.mem_append.mp q with q | q
    · exact s.dis a (List.mem_append_left _ ha) q
    · rw [List.mem_singleton.mp q] at ha; exact nA ha
  · by_cases hn : n < S.length
    · rw [List.getElem?_append_left hn] at hS
      rw [List.getElem?_append_left (by rw [s.len]; exact hn)] at hm
      exact (s.obj n o a hS hm).map fun d v q => q.adopt
    · have hn' : n = S.length := by
        have := (List.getElem?_eq_some_iff.mp hS).1
        simp at this; omega
      subst hn'
      rw [List.getElem?_append_right (Nat.le_refl _)] at hS
      rw [← s.len, List.getElem?_append_right (Nat.le_refl _)] at hm
      simp at hS hm
      subst hS hm
      exact hc
def tIfs (r : Rx) (C : Cf) (W : WX) (ifs : Es) : TT := fun σ H Q => ∃ ms xs S ρ, Sim r ms xs H S ∧ REnv r ms xs H ρ σ ∧ Good r xs ms H (evIfs C ifs ρ S) (fun b _ _ H' => Q b H') (exW r W σ)
theorem PTs.imp {es : List Expr} {t t' : TT} (h : PTs X es t) (f : ∀ σ H Q, t' σ H Q → t σ H Q) : PTs X es t' := ⟨fun pins s σ H Q I q => h.run pins s σ H Q I (f σ H Q q)⟩
theorem pts_of {ifs : Es} {cs : List Expr} (h : AllP X r C W ifs cs) (hl : cs.length ≤ 1) : PTs X cs (tIfs r C W ifs) := by
  cases h with
  | nil =>
    refine PTs.imp pts_nil fun σ H Q q => ?_
    obtain ⟨ms, xs, S, ρ, s, e, g⟩ := q
    simp only [evIfs] at g
    exact g ms H .refl s
  | cons hs hp t =>
    cases t with
    | nil => exact PTs.imp (pts_one hp.pt) fun σ H Q q => q
    | cons _ _ _ => simp at hl
theorem bnd_ok {α β : Type} {m : M α} {f : α → M β} {S S2 : Store} {b : β} (h : bnd m f S = .ok b S2) : ∃ a S1, m S = .ok a S1 ∧ f a S1 = .ok b S2 := by
  unfold bnd at h
  cases q : m S with
  | stuck => rw [q] at h; cases h
  | exc c S' => rw [q] at h; cases h
  | ok a S' => rw [q] at h; exact ⟨a, S', rfl, h⟩
theorem opt_ok {α : Type} {o : Option α} {S S2 : Store} {a : α} (h : Mi.opt o S = .ok a S2) : o = some a ∧ S2 = S := by
  cases o with
  | none => cases h
  | some x => cases h; exact ⟨rfl, rfl⟩
theorem ret_ok {α : Type} {a b : α} {S S2 : Store} (h : Mi.ret a S = .ok b S2) : a = b ∧ S = S2 := by cases h; exact ⟨rfl, rfl⟩
theorem lc_of {tg : T} {ifs : Es} {elt : E} {own : List Nat} {σ : L2.St} {Q : VK} {ms0 xs : List Addr} {H0 : Hp} {S0 : Store} {ρ : Env} {J : It} {w : Walk} {m : Bool} {Wx : WX} (ho : ∀ i ∈ slots tg, i ∈ own)
    (s0 : Sim r ms0 xs H0 S0) (e0 : REnv r ms0 xs H0 ρ σ) (ok0 : w.ok S0 = true) (wr : WalkRel r xs ms0 H0 J w)
    (g : Good r xs ms0 H0 (bnd (noX (cmpL w.ok tg (evIfs C ifs) (evE C elt) w.ds (wipeE ρ own) [])) (fun ds => newL m ds) S0) (fun d _ ms' H' => ∀ v, RelD r ms' xs H' d v → Q v H') (exW r Wx σ)) :
    ∀ D, H0 D = none → ∃ Wf : Nat → Nat → Hp → Prop, (∃ n, Wf 0 n (upd H0 D (.lst []))) ∧ ∀ i n H, Wf i n H →
      (J.stop i H ∧ Q (.ref D) H) ∨ (J.go i H ∧ ∃ Nx : Hp → Prop, (∀ H', Nx H' → ∃ n', n' < n ∧ Wf (i + 1) n' H') ∧ ∀ x H', J.yld i H x H' → tG r tg x (wipe σ own) H' fun σ2 H2 => wipe σ2 own = wipe σ own ∧ tIfs r C W ifs σ2 H2 fun b H3 =>
        if b = true then tE r C W elt σ2 H3 fun y H4 => ∃ acc, H4 D = some (.lst acc) ∧ acc.length < sizeLine ∧ Nx (upd H4 D (.lst (acc ++ [y]))) else Nx H3) := by
  intro D hD
  have fr := s0.fresh hD
  have hys : ∀ b ∈ xs ++ [D], b ∈ xs ∨ H0 b = none := fun b hb => by
    rcases List.mem_append.mp hb with q | q
    · exact .inl q
    · rw [List.mem_singleton.mp q]; exact .inr hD
  have hDx : D ∈ xs ++ [D] := List.mem_append_right _ (List.mem_singleton.mpr rfl)
  -- the run comes to an end
  obtain ⟨dsF, SF, hrun, gF⟩ : ∃ dsF SF, cmpL w.ok tg (evIfs C ifs) (evE C elt) w.ds (wipeE ρ own) [] S0 = .ok dsF SF ∧ Good r xs ms0 H0 (newL m dsF SF) (fun d _ ms' H' => ∀ v, RelD r ms' xs H' d v → Q v H') (exW r Wx σ) := by
    unfold bnd noX at g
    cases q : cmpL w.ok tg (evIfs C ifs) (evE C elt) w.ds (wipeE ρ own) [] S0 with
    | stuck => rw [q] at g; exact g.elim
    | exc c S' => rw [q] at g; exact g.elim
    | ok ds S' => rw [q] at g; exact ⟨ds, S', rfl, g⟩
  -- its end, told of the new list
  have fin : ∀ ms H vs, Ext ms0 H0 ms H → Sim r ms (xs ++ [D]) H SF → H D = some (.lst vs) → RelDs r ms (xs ++ [D]) H dsF vs → Q (.ref D) H := by
    intro ms H vs x s hv rv
    have nD : D ∉ ms := s.dis D hDx
    unfold newL at gF
    cases m with
    | false =>
      refine gF ms H x (s.less fun b hb => List.mem_append_left _ hb) (.ref D) ?_
      simp only [RelD]
      exact ⟨D, vs, rfl, hv, nD, fr.2, rv.less fun b hb => List.mem_append_left _ hb⟩
    | true =>
      obtain ⟨ex, hex, hn⟩ := x.pre
      refine gF (ms ++ [D]) H ⟨⟨ex ++ [D], by rw [hex, List.append_assoc], fun a ha => ?_⟩, x.keep⟩ (s.adopt ⟨vs, hv, rv.adopt⟩ fr.2) (.ref D) ?_
      · rcases List.mem_append.mp ha with q | q
        · exact hn a q
        · rw [List.mem_singleton.mp q]; exact ⟨fun o e => (by rw [hD] at e; cases e), fr.1⟩
      · simp only [RelD]
        exact ⟨D, by rw [← s.len]; simp, rfl⟩
  -- what holds ahead of the turn i
  let Pv : Nat → Hp → Prop := fun i H => ∃ ms S accD accV, Ext ms0 H0 ms H ∧ Sim r ms (xs ++ [D]) H S ∧ w.ok S = true ∧ H D = some (.lst accV) ∧ RelDs r ms (xs ++ [D]) H accD accV ∧ accV.length ≤ i ∧
    cmpL w.ok tg (evIfs C ifs) (evE C elt) (w.ds.drop i) (wipeE ρ own) accD S = .ok dsF SF
  refine ⟨fun i n H => n = w.ds.length - i ∧ i ≤ w.ds.length ∧ Pv i H, ⟨w.ds.length, by simp, Nat.zero_le _, ?_⟩, ?_⟩
  · have hx : Ext ms0 H0 ms0 (upd H0 D (.lst [])) := Ext.new hD
    have s1 : Sim r ms0 xs (upd H0 D (.lst [])) S0 := s0.new hD (fun vs z => by cases z; exact Nat.zero_le _) (fun vs z => by cases z)
    have s2 : Sim r ms0 (xs ++ [D]) (upd H0 D (.lst [])) S0 := by
      refine ⟨s1.len, s1.nd, fun a ha => ?_, fun a ha => ?_, fun n o a hS hm => ?_, s1.szl, s1.szt, s1.tabs⟩
      · rcases List.mem_append.mp ha with q | q
        · exact s1.dis a q
        · rw [List.mem_singleton.mp q]; exact fr.1
      · rcases List.mem_append.mp ha with q | q
        · exact s1.xin a q
        · rw [List.mem_singleton.mp q]; exact ⟨_, upd_same, fun _ z => (by cases z), fun _ z => (by cases z)⟩
      · have ne : a ≠ D := fun z => fr.1 (by rw [← z]; exact List.mem_of_getElem? hm)
        rw [upd_ne ne]
        exact (s0.obj n o a hS hm).map fun d v q => (q.more hys).mono hx
    exact ⟨ms0, S0, [], [], hx, s2, ok0, upd_same, by simp only [RelDs], Nat.le_refl _, hrun⟩
  · rintro i n H ⟨rfl, hi, ms, S, accD, accV, x, s, hok, hv, rv, hl, hrun2⟩
    by_cases hlt : i < w.ds.length
    · obtain ⟨d, hd⟩ : ∃ d, w.ds[i]? = some d := ⟨w.ds[i], List.getElem?_eq_getElem hlt⟩
      obtain ⟨hgo, hyld⟩ := wr.go (xs ++ [D]) ms H S hys x s hok i d hd
      refine .inr ⟨hgo, Pv (i + 1), fun H' p' => ⟨w.ds.length - (i + 1), by omega, rfl, hlt, p'⟩, fun y H1 hy => ?_⟩
      obtain ⟨x1, s1, rd⟩ := hyld y H1 hy
      have nD : D ∉ ms := s.dis D hDx
      have hv1 : H1 D = some (.lst accV) := x1.keep D _ hv nD (fun _ z => by cases z)
      have ed : w.ds.drop i = d :: w.ds.drop (i + 1) := by
        rw [List.drop_eq_getElem_cons hlt]
        congr 1
        rw [List.getElem?_eq_getElem hlt] at hd; exact Option.some.inj hd
      rw [ed] at hrun2
      simp only [cmpL] at hrun2
      obtain ⟨ρ1, S1, h1, hr1⟩ := bnd_ok hrun2
      obtain ⟨hb1, eS⟩ := opt_ok h1
      rw [eS] at hr1
      obtain ⟨b, S2, h2, hr2⟩ := bnd_ok hr1
      have ew : REnv r ms (xs ++ [D]) H1 (wipeE ρ own) (wipe σ own) := ((e0.more hys).mono (x.trans x1)).wipe own
      refine ⟨ms, xs ++ [D], S, wipeE ρ own, d, ρ1, s1, ew, rd, hb1, fun σ2 e2 j2 => ⟨?_, ?_⟩⟩
      · refine wipe_ext ?_ fun j hj => ?_
        · have l1 : ρ1.length = (wipeE ρ own).length := bindT_len hb1
          rw [e2.1, l1, wipeE_len, e0.1]
        · rw [j2 j (fun q => hj (ho j q)), wipe_get hj]
      · refine ⟨ms, xs ++ [D], S, ρ1, s1, e2, ?_⟩
        rw [h2]
        intro m3 H3 x3 s3
        have hv3 : H3 D = some (.lst accV) := x3.keep D _ hv1 nD (fun _ z => by cases z)
        have nD3 : D ∉ m3 := s3.dis D hDx
        cases b with
        | true =>
          refine iteT ?_
          rw [if_pos rfl] at hr2
          obtain ⟨z, S4, h4, hr3⟩ := bnd_ok hr2
          refine ⟨m3, xs ++ [D], S2, ρ1, s3, e2.mono x3, ?_⟩
          rw [h4]
          intro m4 H4 x4 s4 y4 r4
          have hv4 : H4 D = some (.lst accV) := x4.keep D _ hv3 nD3 (fun _ z => by cases z)
          split at hr3
          · rename_i hok4
            have hx4 : Ext ms0 H0 m4 H4 := ((x.trans x1).trans x3).trans x4
            have hz : accV.length + 1 ≤ sizeLine := Nat.le_trans (Nat.succ_le_of_lt (Nat.lt_of_le_of_lt hl hlt)) wr.sz
            refine ⟨accV, hv4, hz, m4, S4, accD ++ [z], accV ++ [y4], ⟨hx4.pre, fun a o ha na nt => ?_⟩, s4.poke hDx (by simpa using hz) ⟨_, hv4⟩, hok4, upd_same, ?_, by simpa using hl, hr3⟩
            · rw [upd_ne (ne_of_none ha hD)]
              exact hx4.keep a o ha na nt
            · exact ((rv.mono ((x1.trans x3).trans x4)).append (.one r4)).poke hDx
          · cases hr3
        | false =>
          refine iteF ?_
          rw [if_neg Bool.false_ne_true] at hr2
          split at hr2
          · rename_i hok3
            exact ⟨m3, S2, accD, accV, (x.trans x1).trans x3, s3, hok3, hv3, rv.mono (x1.trans x3), Nat.le_succ_of_le hl, hr2⟩
          · cases hr2
    · have e : i = w.ds.length := by omega
      subst e
      rw [List.drop_length] at hrun2
      simp only [cmpL] at hrun2
      obtain ⟨rfl, rfl⟩ := ret_ok hrun2
      exact .inl ⟨wr.stop (xs ++ [D]) ms H _ hys x s hok, fin ms H accV x s hv rv⟩
end
end Mi
namespace Mi
open PySem PySem.Spec PyProof.Rows L2 LamX
structure Lam1 (sc scope : Scope) (x : Str) : Prop where
  kind : scope.kind = .function
  co : scope.isCoroutine = false
  gen : scope.isGenerator = false
  cell : ∀ y ∈ scope.names, y.2 ≠ .cell
  par : scope.names.lookup x = some .local
  only : ∀ y ∈ scope.names, y.2 = .local → y.1 = x
  free : ∀ y ∈ scope.names, y.2 = .free → sc.names.lookup y.1 = some .cell ∨ sc.names.lookup y.1 = some .free
theorem lam1_by {sc scope : Scope} {x : Str} (h : lam1B sc scope x = true) : Lam1 sc scope x := by
  simp only [lam1B, Bool.and_eq_true, Bool.or_eq_true, Bool.not_eq_true', decide_eq_true_eq, decide_eq_false_iff_not, List.all_eq_true] at h
  obtain ⟨⟨⟨⟨a1, a2⟩, a3⟩, a4⟩, a5⟩ := h
  refine ⟨a1, a2, a3, fun y hy => (a5 y hy).1.1, a4, fun y hy e => ?_, fun y hy e => ?_⟩
  · rcases (a5 y hy).1.2 with z | z
    · exact absurd e z
    · exact z
  · rcases (a5 y hy).2 with (z | z) | z
    · exact absurd e z
    · exact .inl z
    · exact .inr z
section
variable {X : Cx} {pins : List (Addr × Obj)} {σ : L2.St} {H HZ : Hp} {s s1 : Shared}
theorem Lam1.caps {scope : Scope} {x : Str} (L : Lam1 X.env.scope scope x) (ok : X.Ok) : ∀ y ∈ scope.names, y.2 = .free → ∃ c, X.env.cells.lookup y.1 = some c := fun y hy e => by
  rcases L.free y hy e with q | q
  · exact ok.has y.1 (.inl q)
  · exact ok.has y.1 (.inr q)
theorem lam1_start {A : Around} {outer : List PySem.Env} {E : XK} {scope : Scope} {f c' : Addr} {h1 : Heap} {tk j : Nat} {x : Str} {u : Value} {v : V} (I : Inv X pins σ H s) (L : Lam1 X.env.scope scope x) (hj : X.N[j]? = some x) (hN : X.N.Nodup)
    (e0 : Env0 X.prog X.w X.K X.mg X.base A outer s HZ) (eH : HZ = H) (hd : A.handled = none) (rv : RelV v u) (hns : h1.Ns s.heap.objs.size fun y => ([(x, u)] : List (Str × Value)).reverse.lookup y) (kp : ∀ b o, s.heap.get? b = some o → h1.get? b = some o) :
    Inv (lamCx X A outer s HZ E scope f c') [] (σ.set j (some v)) HZ { s with heap := h1, toks := tk } := by
  have caps := L.caps I.ok
  have back : ∀ {y : Str} {c : Addr}, (cloFrom X.env.cells scope.names []).lookup y = some c → X.env.cells.lookup y = some c := fun {y c} e => by
    rcases cloFrom_mem (PySem.mem_of_lookup e) with z | ⟨z1, z2⟩
    · cases z
    · obtain ⟨c2, hc2⟩ := caps _ z1 rfl
      have hc3 : X.env.cells.lookup y = some c2 := hc2
      have ec : c = c2 := by
        rw [z2, hc3] <;> rfl
      rw [ec, hc3]
  have there : ∀ {y : Str}, scope.names.lookup y = some .free → ∃ c, (cloFrom X.env.cells scope.names []).lookup y = some c := fun {y} q =>
    mem_lookup (cloFrom_has (cells := X.env.cells) (acc := []) (PySem.mem_of_lookup q : (y, NameKind.free) ∈ scope.names))
  have keepC : ∀ {c : Addr} {w : Option Value}, s.heap.IsCell c w → h1.IsCell c w := fun {c w} ⟨o, ho, q⟩ => ⟨o, kp _ _ ho, q⟩
  have none_ex : ∀ b : Addr, b ∉ (lamCx X A outer s HZ E scope f c').ex := fun b z => absurd (show b ∈ ([] : List Addr) from z) (by simp)
  subst eH
  have OK : (lamCx X A outer s HZ E scope f c').Ok := by
    refine ⟨e0.mod, L.kind, rfl, rfl, Nat.le_refl _, fun y z c q1 q2 => I.ok.inj y z c (back q1) (back q2), fun y hy => ?_, fun y c q _ => ?_, fun _ => hd, Around.frames_deeper e0.frames, .inr ⟨rfl, rfl⟩, fun b q => absurd q (none_ex b), e0.bs, e0.bsz, fun b _ _ => none_ex b, fun b q => absurd q (none_ex b), e0.funs, e0.frf⟩
    · have hy' : scope.names.lookup y = some .cell ∨ scope.names.lookup y = some .free := hy
      rcases hy' with q | q
      · exact absurd rfl (L.cell _ (PySem.mem_of_lookup q))
      · exact there q
    · exact absurd (show false = true from q) (by decide)
  refine ⟨OK, rfl, e0.bare, Un.kept kp, ⟨_, hns, fun i y w q1 q2 q3 => ?_⟩, fun y c q => ?_, e0.hok.fresh (Nat.le_refl _), fun y c q => I.freeC y c (back q), fun q hq => absurd (show q ∈ ([] : List (Addr × Obj)) ++ [] from hq) (by simp), e0.hok.kept kp, by rw [List.length_set]; exact I.len⟩
  · have q1' : X.N[i]? = some y := q1
    have q3' : Vis scope y := q3
    rcases q3' with k | k | k
    · have ey : y = x := L.only _ (PySem.mem_of_lookup k) rfl
      subst ey
      have ij : j = i := (List.getElem?_inj (List.getElem?_eq_some_iff.mp hj).1 hN).mp (hj.trans q1'.symm)
      subst ij
      have hlt : j < σ.length := by rw [I.len]; exact (List.getElem?_eq_some_iff.mp hj).1
      rw [List.getElem?_set_self hlt] at q2
      cases q2
      refine ⟨u, rv, .inl ⟨k, ?_⟩⟩
      show ([(y, u)] : List (Str × Value)).reverse.lookup y = some u
      simp
    · exact absurd rfl (L.cell _ (PySem.mem_of_lookup k))
    · have ny : y ≠ x := fun z => by
        rw [z, L.par] at k
        cases k
      have ij : j ≠ i := fun z => ny (by rw [← z, hj] at q1'; exact (Option.some.inj q1').symm)
      rw [List.getElem?_set_ne ij] at q2
      obtain ⟨m, hn, hl⟩ := I.loc
      have vis : Vis X.env.scope y := (L.free _ (PySem.mem_of_lookup k) rfl).elim (fun z => .inr (.inl z)) (fun z => .inr (.inr z))
      obtain ⟨w2, r2, l2⟩ := hl i y w q1' q2 vis
      obtain ⟨c2, h2⟩ := there k
      refine ⟨w2, r2, .inr ⟨.inr k, c2, h2, ?_⟩⟩
      have h3 := back h2
      rcases l2 with ⟨k2, _⟩ | ⟨_, c3, e3, z⟩
      · have k3 : X.env.scope.names.lookup y = some .local := k2
        rcases L.free _ (PySem.mem_of_lookup k) rfl with z | z <;> rw [show X.env.scope.names.lookup y = _ from z] at k3 <;> cases k3
      · rw [h3] at e3
        cases e3
        exact keepC z
  · obtain ⟨w, z⟩ := I.cell y c (back q)
    exact ⟨w, keepC z⟩
theorem lam1_call {scope : Scope} {f c' : Addr} {j : Nat} {x : Str} {u pm ctv : Value} {v : V} {params : Arguments} {body : Expr} {tb : TE} {Q : VK} {R : Value → Shared → Prop} {Ex : Value → Shared → Prop} (I : Inv X pins σ H s) (L : Lam1 X.env.scope scope x) (hj : X.N[j]? = some x) (hN : X.N.Nodup)
    (hf : s.heap.get? f = some (PySem.W.kla_obj "<lambda>" (X.env.qual ++ "<lambda>") params body scope (cloFrom X.env.cells scope.names []) pm c' ctv)) (hc : H c' = some (CodeO c' (X.env.qual ++ "<lambda>")))
    (hbind : bindArgs (PySem.W.kla_fn "<lambda>" (X.env.qual ++ "<lambda>") params body scope (cloFrom X.env.cells scope.names []) pm (.ref c') ctv) ⟨[u], []⟩ = pure [(x, u)]) (hr : Room 0 X.A.in1) (rv : RelV v u)
    (hbody : ∀ (A : Around) (outer : List PySem.Env) (s : Shared) (H : Hp), PE (lamCx X A outer s H (fun _ _ _ => False) scope f c') body tb) (ht : tb (σ.set j (some v)) H Q)
    (hR : ∀ w s' v' H', Un (frs X.stack) [] H H' s.heap s'.heap → s'.os = s.os → AllBare s'.gens → HOk X.prog X.w H' s'.heap → RelV v' w → Q v' H' → R w s') :
    wpAny (model X.prog X.w) X.A.in1 (call (.ref f) [u]) R Ex s := by
  have e0 : Env0 X.prog X.w X.K X.mg X.base X.A.in1 X.stack s H := let e := I.env0; ⟨e.frames, e.mod, e.bs, e.bsz, e.funs, e.frf, e.hok, e.bare⟩
  obtain ⟨⟨oc, vs, t, q1, q2, q3⟩, _, _⟩ := I.hok c' _ hc
  refine wpAny_call ?_
  refine PySem.W.kla_callFunE hr.depth hf rfl L.co L.gen rfl ⟨c', oc, vs, t, rfl, q1, q2, q3⟩ ?_
  rw [hbind]
  refine wpAny_pure (wpAny_newFunctionEnv L.cell (fun y hy => ?_) (fun h1 hns hsb => ⟨I.nolimit.fresh _ hsb, ?_⟩) L.kind)
  · rw [List.mem_singleton.mp hy]; exact L.par
  · show codeAny _ _ (.expr body (lamEnv X scope s.heap.objs.size f c')) _ _
    have kp : ∀ b o, s.heap.get? b = some o → h1.get? b = some o := fun b o e => hsb.extBut b o (Nat.ne_of_lt (Heap.lt_size e)) (Heap.get?_push_of_some _ e)
    have J := lam1_start (E := fun _ _ _ => False) (f := f) (c' := c') (tk := s.toks + ([(x, u)] : List (Str × Value)).length) I L hj hN e0 rfl hr.hd rv hns kp
    refine PySem.W.kla_codeExpr (wpAny_mono ((hbody _ _ s H).run [] _ _ H Q J ht) (fun w s' hq => ?_) fun e s' hq => ?_)
    · obtain ⟨v', H', J', r', q'⟩ := hq
      exact hR w s' v' H' J'.base J'.os J'.bare J'.hok r' q'
    · have no : ∀ (e : Value) (s2 : Shared), L2.CX X.prog X.w X.stack H s (fun _ _ _ => False) e s2 → False := fun e s2 z => by
        obtain ⟨_, _, _, _, _, _, _, _, _, _, _, _, z⟩ := z
        exact z
      exact wpAny_mono hq (fun _ s2 z => (no _ s2 z).elim) fun e2 s2 z => (no e2 s2 z).elim
theorem inv_moved {S I0 : Addr} {s2 : Shared} (I : Inv X pins σ H s) (hm : Moved [S, I0] (fun a b => b = a) s s2) (hS : ∀ b ∈ [S, I0], H b = none ∧ b ≠ X.env.locals ∧ X.s_0.heap.objs.size ≤ b ∧ (∀ x c, X.env.cells.lookup x = some c → c ≠ b) ∧ ∀ p ∈ X.pn ++ pins, p.1 ≠ b) : Inv X pins σ H s2 := by
  have nn : ∀ b u, H b = some u → b ∉ [S, I0] := fun b u e z => by rw [(hS b z).1] at e; cases e
  have q := I.step (H' := H) (h' := s2.heap) (g' := s2.gens) (d' := s2.drawn) (t' := s2.toks) (ch := [S, I0]) (fun b hb => ⟨.inr (hS b hb).2.2.1, (hS b hb).2.1, (hS b hb).2.2.2.1, (hS b hb).2.2.2.2⟩) (fun b o _ _ hc e _ => hm.heap b o hc e) (fun b o _ _ hc e _ => ⟨o.slots, hm.heap b o hc e⟩) (fun _ _ _ _ n => n)
    (fun b o hc e => ⟨o, hm.heap b o hc e⟩) (fun _ _ e => e) (fun _ _ _ e => e) (fun b ps e => ⟨#[], by rw [e]; simp⟩) (fun m hn => ?_) (fun b u e => ?_) (by rw [hm.gens]; exact I.bare)
  · have es : s2 = { s with heap := s2.heap, gens := s2.gens, drawn := s2.drawn, toks := s2.toks } := by
      obtain ⟨hh, g, d, t, os⟩ := s2
      have := hm.os
      cases s
      simp only at this ⊢
      rw [this]
    rw [es]
    exact q
  · obtain ⟨o, es, ep, ho, r⟩ := hn
    exact ⟨o, es, ep, hm.heap _ o (fun z => (hS _ z).2.1 rfl) ho, r⟩
  · refine (I.hok b u e).stay (fun c w hc q => hm.heap c w ?_ q) (fun _ q => q) fun _ _ q => q
    rcases hc with z | z
    · rw [z]; exact nn b u e
    · exact nn c _ z
theorem vals_at : ∀ {ns : List Int} {its : List Value} {i : Nat} {u : Value}, Vals (ns.map V.int) its → its[i]? = some u → ∃ z t, ns[i]? = some z ∧ u = .int z t
  | [], its, i, u, r, e => by
    cases r
    simp at e
  | n :: ns, its, i, u, r, e => by
    cases r with
    | cons h t =>
      cases i with
      | zero =>
        simp only [List.getElem?_cons_zero, Option.some.injEq] at e
        subst e
        obtain ⟨t, ht⟩ := (show ∃ t, _ from h)
        exact ⟨n, t, rfl, ht⟩
      | succ i =>
        obtain ⟨z, t, h1, h2⟩ := vals_at t (by simpa using e)
        exact ⟨z, t, by simpa using h1, h2⟩
theorem walk_ints {prog : Program} {w : World} {A : Around} (hh : A.handled = none) (I0 l : Addr) (hne : l ≠ I0) (ns : List Int) :
    WalksS prog w A I0 [I0, l] [I0] (fun a b => b = a) ns.length (fun i v => ∃ z t, ns[i]? = some z ∧ v = .int z t) (fun i s => s.heap.IsListIter I0 l i ∧ ∃ its : List Value, Vals (ns.map V.int) its ∧ s.heap.IsList l its.toArray) where
  sub := fun b hb => by simp at hb; simp [hb]
  grefl := fun _ => rfl
  gtrans := fun _ _ _ h1 h2 => h2.trans h1
  frame := fun i s h' _ st _ hk => ⟨st.1.at fun o e => hk I0 (by simp) o e, let ⟨its, r, q⟩ := st.2; ⟨its, r, q.at fun o e => hk l (by simp) o e⟩⟩
  item := fun i s Q E hi st hQ => by
    obtain ⟨st1, its, r, st2⟩ := st
    have hl : its.length = ns.length := by have := r.length; simpa using this.symm
    refine (Walks.list (prog := prog) (w := w) (A := A) hh I0 l hne its.toArray).toS.item i s Q E (by simpa [hl] using hi) ⟨st1, st2⟩ fun v s' hP st' hm => ?_
    exact hQ v s' (vals_at r (by simpa using hP)) ⟨st'.1, its, r, st'.2⟩ hm
  done := fun s Q E st hQ => by
    obtain ⟨st1, its, r, st2⟩ := st
    have hl : its.length = ns.length := by have := r.length; simpa using this.symm
    refine (Walks.list (prog := prog) (w := w) (A := A) hh I0 l hne its.toArray).toS.done s Q E ?_ hQ
    exact ⟨by simpa [hl] using st1, st2⟩
  self := fun i s Q E st hQ => by
    obtain ⟨st1, its, r, st2⟩ := st
    exact (Walks.list (prog := prog) (w := w) (A := A) hh I0 l hne its.toArray).toS.self i s Q E ⟨st1, st2⟩ hQ
theorem above_ok (I : Inv X pins σ H s) {b : Addr} (hb : s.heap.objs.size ≤ b) : H b = none ∧ b ≠ X.env.locals ∧ X.s_0.heap.objs.size ≤ b ∧ (∀ x c, X.env.cells.lookup x = some c → c ≠ b) ∧ ∀ p ∈ X.pn ++ pins, p.1 ≠ b := by
  refine ⟨I.hok.fresh hb, fun z => ?_, Nat.le_trans I.sz hb, fun x c e z => ?_, fun p hp z => ?_⟩
  · have := I.lt
    rw [z] at hb
    exact Nat.lt_irrefl _ (Nat.lt_of_lt_of_le this hb)
  · obtain ⟨w, o, ho, _⟩ := I.cell x c e
    have := Heap.lt_size ho
    rw [z] at this
    exact Nat.lt_irrefl _ (Nat.lt_of_lt_of_le this hb)
  · have := Heap.lt_size (I.pin p hp).1
    rw [z] at this
    exact Nat.lt_irrefl _ (Nat.lt_of_lt_of_le this hb)
theorem above_fr (I : Inv X pins σ H s) {b : Addr} (hb : s.heap.objs.size ≤ b) : b ∉ frs X.stack := fun z => by
  rcases List.mem_cons.mp (I.stkSub b z) with e | e
  · have := I.lt
    rw [← e] at this
    exact Nat.lt_irrefl _ (Nat.lt_of_lt_of_le this hb)
  · exact I.nofs hb e
theorem key_run {op : CmpOp} {bt : Nat → Nat → Bool} {scope : Scope} {l f c' S I0 : Addr} {j : Nat} {x : Str} {pm ctv : Value} {params : Arguments} {body : Expr} {tb : TE} {ns ks : List Int} (I : Inv X pins σ H s) (hl : H l = some (.lst (ns.map V.int))) (hI : s.heap.objs.size ≤ I0) (hS : s.heap.objs.size ≤ S) (L : Lam1 X.env.scope scope x) (hj : X.N[j]? = some x) (hN : X.N.Nodup)
    (hf : s.heap.get? f = some (PySem.W.kla_obj "<lambda>" (X.env.qual ++ "<lambda>") params body scope (cloFrom X.env.cells scope.names []) pm c' ctv)) (hfn : H f = none) (hfr : f ∉ frs X.stack) (hc : H c' = some (CodeO c' (X.env.qual ++ "<lambda>")))
    (hbind : ∀ u : Value, bindArgs (PySem.W.kla_fn "<lambda>" (X.env.qual ++ "<lambda>") params body scope (cloFrom X.env.cells scope.names []) pm (.ref c') ctv) ⟨[u], []⟩ = pure [(x, u)]) (hr : Room 0 X.A.in1)
    (hbody : ∀ (A : Around) (outer : List PySem.Env) (s : Shared) (H : Hp), PE (lamCx X A outer s H (fun _ _ _ => False) scope f c') body tb) (ht : ∀ (i : Nat) (z : Int), ns[i]? = some z → tb (σ.set j (some (.int z))) H fun v H' => v = .int (ks.getD i 0) ∧ H' = H)
    (cmp : CmpOf X.prog X.w X.A.in1 op (fun i v => ∃ t, v = .int (ks.getD i 0) t) bt) :
    KeyRun X.prog X.w X.A.in1 (.ref f) op S [I0] (fun a b => b = a) ns.length (fun i v => ∃ z t, ns[i]? = some z ∧ v = .int z t) (fun i s => s.heap.IsListIter I0 l i ∧ ∃ its : List Value, Vals (ns.map V.int) its ∧ s.heap.IsList l its.toArray)
      (fun s' => Inv X pins σ H s' ∧ s'.heap.get? f = some (PySem.W.kla_obj "<lambda>" (X.env.qual ++ "<lambda>") params body scope (cloFrom X.env.cells scope.names []) pm c' ctv)) (fun i k _ => ∃ t, k = .int (ks.getD i 0) t) bt := by
  have lt := Heap.lt_size hf
  have nf : f ∉ [S, I0] := fun z => by
    simp only [List.mem_cons, List.not_mem_nil, or_false] at z
    rcases z with z | z
    · rw [z] at lt; exact Nat.lt_irrefl _ (Nat.lt_of_lt_of_le lt hS)
    · rw [z] at lt; exact Nat.lt_irrefl _ (Nat.lt_of_lt_of_le lt hI)
  have ab : ∀ b ∈ [S, I0], s.heap.objs.size ≤ b := fun b hb => by
    simp only [List.mem_cons, List.not_mem_nil, or_false] at hb
    rcases hb with rfl | rfl <;> assumption
  refine ⟨fun s1 s2 hJ hm => ⟨inv_moved hJ.1 hm fun b hb => above_ok I (ab b hb), hm.heap f _ nf hJ.2⟩, fun i k s1 s2 h _ => h, fun i v s1 o Q E hi hP hJ hst hSo hk => ?_, fun i j2 ki kj s1 Q E _ h1 h2 q => cmp i j2 ki kj s1 Q E h1 h2 q⟩
  obtain ⟨I1, h1⟩ := hJ
  obtain ⟨z, t, hz, rfl⟩ := hP
  refine lam1_call (v := .int z) I1 L hj hN h1 hc (hbind _) hr ⟨t, rfl⟩ hbody (ht i z hz) fun w s2 v' H' un os bare hok rv q => ?_
  obtain ⟨rfl, rfl⟩ := q
  have J2 : Inv X pins σ H' s2 := by
    obtain ⟨_, _, J, _, rfl⟩ := I1.after (u := w) (Q := fun _ H2 => H2 = H') ⟨_, _, os, bare, un, hok, rv, rfl⟩
    exact J
  have kp : ∀ b o, s1.heap.get? b = some o → H' b = none → b ∉ frs X.stack → s2.heap.get? b = some o := fun b o e n h => un.keep b o e n h (by simp)
  obtain ⟨⟨oI, i1, i2, i3⟩, _⟩ := hst
  obtain ⟨_, its, n, r, g⟩ := (show _ ∧ _ from J2.hok l _ hl)
  refine hk w s2 ⟨J2, kp f _ h1 hfn hfr⟩ ⟨⟨oI, kp I0 oI i1 (above_ok I hI).1 (above_fr I hI), i2, i3⟩, its, r, ⟨_, g, rfl, n, rfl⟩⟩ (kp S o hSo (above_ok I hS).1 (above_fr I hS)) ?_ fun _ _ h => h
  exact rv
def btB (b : Bool) (ks : List Int) (i j : Nat) : Bool := if b then decide (ks.getD i 0 > ks.getD j 0) else decide (ks.getD i 0 < ks.getD j 0)
theorem mxk_call {b : Bool} {scope : Scope} {l f c' : Addr} {j : Nat} {x : Str} {pm ctv : Value} {params : Arguments} {body : Expr} {tb : TE} {ns ks : List Int} {R Ex : Value → Shared → Prop} (I : Inv X pins σ H s) (hl : H l = some (.lst (ns.map V.int))) (hne : 0 < ns.length) (L : Lam1 X.env.scope scope x) (hj : X.N[j]? = some x) (hN : X.N.Nodup)
    (hf : s.heap.get? f = some (PySem.W.kla_obj "<lambda>" (X.env.qual ++ "<lambda>") params body scope (cloFrom X.env.cells scope.names []) pm c' ctv)) (hfn : H f = none) (hfr : f ∉ frs X.stack) (hc : H c' = some (CodeO c' (X.env.qual ++ "<lambda>")))
    (hbind : ∀ u : Value, bindArgs (PySem.W.kla_fn "<lambda>" (X.env.qual ++ "<lambda>") params body scope (cloFrom X.env.cells scope.names []) pm (.ref c') ctv) ⟨[u], []⟩ = pure [(x, u)]) (hr : Room 1 X.A)
    (hbody : ∀ (A : Around) (outer : List PySem.Env) (s : Shared) (H : Hp), PE (lamCx X A outer s H (fun _ _ _ => False) scope f c') body tb) (ht : ∀ (i : Nat) (z : Int), ns[i]? = some z → tb (σ.set j (some (.int z))) H fun v H' => v = .int (ks.getD i 0) ∧ H' = H)
    (hR : ∀ z t s', ns[argBest (btB b ks) (ns.length - 1)]? = some z → Inv X pins σ H s' → R (.int z t) s') :
    wpAny (model X.prog X.w) X.A (call (.builtin (if b then "max" else "min")) [.ref l] [(Str.ofString "key", .ref f)]) R Ex s := by
  obtain ⟨_, its, n, r, g⟩ := (show _ ∧ _ from I.hok l _ hl)
  have hls : s.heap.IsList l its.toArray := ⟨_, g, rfl, n, rfl⟩
  have ll := Heap.lt_size g
  have hh : X.A.in1.handled = none := hr.hd
  have sz : (s.heap.push { cls := .type "list_iterator", data := .fields #[.ref l, .int 0 0] }).objs.size = s.heap.objs.size + 1 := size_push' ..
  have kp : ∀ c o, s.heap.get? c = some o → (s.heap.push { cls := .type "list_iterator", data := .fields #[.ref l, .int 0 0] }).get? c = some o := fun c o e => Heap.get?_push_of_some _ e
  have st0 : (s.heap.push { cls := .type "list_iterator", data := .fields #[.ref l, .int 0 0] }).IsListIter s.heap.objs.size l 0 ∧ ∃ its : List Value, Vals (ns.map V.int) its ∧ (s.heap.push { cls := .type "list_iterator", data := .fields #[.ref l, .int 0 0] }).IsList l its.toArray := ⟨⟨_, Heap.get?_push_size _ rfl, rfl, rfl⟩, its, r, ⟨_, kp _ _ g, rfl, n, rfl⟩⟩
  have fpb : ∀ c ∈ [s.heap.objs.size, l], c < (s.heap.push { cls := .type "list_iterator", data := .fields #[.ref l, .int 0 0] }).objs.size := fun c hc => by
    rw [sz]
    simp only [List.mem_cons, List.not_mem_nil, or_false] at hc
    rcases hc with rfl | rfl
    · exact Nat.lt_succ_self _
    · exact Nat.lt_succ_of_lt ll
  have fin : ∀ v s', (∃ z t, ns[argBest (btB b ks) (ns.length - 1)]? = some z ∧ v = .int z t) → (Inv X pins σ H s' ∧ s'.heap.get? f = some (PySem.W.kla_obj "<lambda>" (X.env.qual ++ "<lambda>") params body scope (cloFrom X.env.cells scope.names []) pm c' ctv)) → R v s' := fun v s' ⟨z, t, h1, h2⟩ hJ => by
    rw [h2]
    exact hR z t s' h1 hJ.1
  have I2 : Inv X pins σ H { s with heap := s.heap.push { cls := .type "list_iterator", data := .fields #[.ref l, .int 0 0] } } := I.kept (t' := s.toks) kp
  cases b with
  | true => exact call_max_walkK (wpAny_pyIter_list hls ⟨s.heap.objs.size, _, _, _, ns.length, _, _, _, _, _, rfl, walk_ints hh _ l (Nat.ne_of_lt ll) ns, st0, fpb, hne, key_run I hl (Nat.le_refl _) (by rw [sz]; omega) L hj hN hf hfn hfr hc hbind hr.in1 hbody ht (CmpOf.ints_gt (fun i => ks.getD i 0) fun i v h => h), ⟨I2, kp _ _ hf⟩, fin⟩)
  | false => exact call_min_walkK (wpAny_pyIter_list hls ⟨s.heap.objs.size, _, _, _, ns.length, _, _, _, _, _, rfl, walk_ints hh _ l (Nat.ne_of_lt ll) ns, st0, fpb, hne, key_run I hl (Nat.le_refl _) (by rw [sz]; omega) L hj hN hf hfn hfr hc hbind hr.in1 hbody ht (CmpOf.ints_lt (fun i => ks.getD i 0) fun i v h => h), ⟨I2, kp _ _ hf⟩, fin⟩)
def SzOk (H : Hp) : Prop := (∀ a vs, H a = some (.lst vs) → vs.length ≤ sizeLine) ∧ ∀ a vs, H a = some (.tup vs) → vs.length ≤ sizeLine
theorem SzOk.of {P : Program} {w : World} {H : Hp} {h : Heap} (k : HOk P w H h) : SzOk H := ⟨fun a vs e => (show _ ∧ _ from k a _ e).1, fun a vs e => (show _ ∧ _ from k a _ e).1⟩
def args1 (x : Str) (p : Pos) : Arguments := ⟨[], [⟨x, none, p⟩], none, [], [], none, []⟩
theorem bind1 {p : Pos} {q : Str} {body : Expr} {scope : Scope} {cl : List (Str × Addr)} {pm cv ctv u : Value} : bindArgs (PySem.W.kla_fn "<lambda>" q (args1 "kind" p) body scope cl pm cv ctv) ⟨[u], []⟩ = (pure [(("kind" : Str), u)] : Sem (List (Str × Value))) := rfl
def tMxk (r : Rx) (b : Bool) (j : Nat) (te tb : TE) : TE := fun σ H Q => te σ H fun v H1 => ∃ (l : Addr) (ns ks : List Int), [v] = [V.ref l] ∧ H1 l = some (.lst (ns.map V.int)) ∧ 0 < ns.length ∧ Tabs r.T H1 ∧
  ∀ H2, ExtN H1 H2 → Tabs r.T H2 → SzOk H2 → j < σ.length → (∀ (i : Nat) (z : Int), ns[i]? = some z → tb (σ.set j (some (.int z))) H2 fun v H' => v = .int (ks.getD i 0) ∧ H' = H2) ∧ ∀ z, ns[argBest (btB b ks) (ns.length - 1)]? = some z → Q (.int z) H2
theorem pe_mxk {r : Rx} {b : Bool} {e body : Expr} {te tb : TE} {j : Nat} {scope : Scope} {p xp lp kp pos : Pos} (hg : Gl X (mxN b)) (hm : X.mg (mxN b) = none) (hs : noStar e = true) (he : PE X e te) (lam : LamOk X.base X.mg r X.env.code X.env.qual) (L : Lam1 X.env.scope scope "kind") (hj : X.N[j]? = some "kind") (hN : X.N.Nodup) (hr : Room 1 X.A)
    (hbody : ∀ (A : Around) (outer : List PySem.Env) (s : Shared) (H : Hp) (f c' : Addr), PE (lamCx X A outer s H (fun _ _ _ => False) scope f c') body tb) :
    PE X (.Call (.Name (mxN b) p) [e] [⟨some "key", .Lambda (args1 "kind" xp) body scope lp, kp⟩] pos) (tMxk r b j te tb) := by
  obtain ⟨c, P, hcode, TB, hmT, hu⟩ := lam
  refine ⟨fun pins s σ H Q I h => ?_⟩
  refine wpAny_Call_Name_kw (ld_blt I hg hm (show bootBuiltins (mxN b) = some (.builtin (if b then "max" else "min")) by cases b <;> rfl) ?_ (by cases b <;> decide) (by cases b <;> decide))
  have hv : tCons te tNil σ H fun vs H1 => ∃ (l : Addr) (ns ks : List Int), vs = [V.ref l] ∧ H1 l = some (.lst (ns.map V.int)) ∧ 0 < ns.length ∧ Tabs r.T H1 ∧
      ∀ H2, ExtN H1 H2 → Tabs r.T H2 → SzOk H2 → j < σ.length → (∀ (i : Nat) (z : Int), ns[i]? = some z → tb (σ.set j (some (.int z))) H2 fun v H' => v = .int (ks.getD i 0) ∧ H' = H2) ∧ ∀ z, ns[argBest (btB b ks) (ns.length - 1)]? = some z → Q (.int z) H2 := h
  refine PyProof.Rows.callWith_kw (thn ((pa_cons he pa_nil (star_of hs)).run pos pins s σ H _ I hv) fun us s1 ⟨vs, H1, I1, r1, l, ns, ks, ev, hl, hne, hT, hq⟩ => ?_) (by rw [star_of hs] <;> rfl) (by rw [star_of hs] <;> rfl) rfl rfl
  subst ev
  obtain ⟨u, hu1, rfl⟩ : ∃ u, RelV (.ref l) u ∧ us = [u] := by
    cases r1 with
    | cons q t => cases t; exact ⟨_, q, rfl⟩
  obtain rfl : u = Value.ref l := hu1
  show wpAny _ _ (evalAll ((do let v ← eval (.Lambda (args1 "kind" xp) body scope lp) X.env; standAt pos; pure v) :: [])) _ _ s1
  refine wpAny_evalAll_cons (wpAny_bind (lam_make2 I1 TB hcode hmT hu hT rfl (L.caps I1.ok) fun f c' pm ctv H2 s2 I2 eN T2 hf hfn hfr hco => wpAny_bind (wpAny_standAt (wpAny_pure (wpAny_evalAll_nil ?_)))))
  obtain ⟨hk, hQ⟩ := hq H2 eN T2 (SzOk.of I2.hok) (by rw [I2.len]; exact (List.getElem?_eq_some_iff.mp hj).1)
  have hl2 : H2 l = some (.lst (ns.map V.int)) := eN l _ hl (fun _ z => by cases z)
  exact mxk_call I2 hl2 hne L hj hN hf hfn hfr hco (fun u => bind1) hr (fun A outer s H => hbody A outer s H f c') hk fun z t s3 hz I3 => ⟨.int z, H2, I3, ⟨t, rfl⟩, hQ z hz⟩
def tKey (a j : Nat) (m : Int) : TE := fun σ H Q => ∃ (va : Addr) (xs ys : List V) (k z : Int) (t : Addr), σ[a]? = some (some (.ref va)) ∧ σ[j]? = some (some (.int k)) ∧ H va = some (.lst xs) ∧ atI xs k = some (.ref t) ∧ H t = some (.tup ys) ∧ atI ys m = some (.int z) ∧ Q (.int z) H
theorem pe_key {Y : Cx} {a j : Nat} {m : Int} {V : Str} {p1 p2 p3 p4 p5 : Pos} {kk : Nat} (hV : Y.N[a]? = some V) (vV : Vis Y.env.scope V) (n1 : (V == ("__debug__" : Str)) = false) (n2 : (V == ("__classdict__" : Str)) = false) (hk : Y.N[j]? = some "kind") (vk : Vis Y.env.scope "kind") :
    PE Y (.Subscript (.Subscript (.Name V p1) (.Name "kind" p2) p3) (.Constant (.int m) kk p4) p5) (tKey a j m) := by
  refine PE.imp (pe_ix ix_seq (pe_ix ix_seq (pe_var hV vV n1 n2) (pe_var hk vk) (plainIx_of rfl)) pe_int (plainIx_of rfl)) fun σ H Q q => ?_
  obtain ⟨va, xs, ys, k, z, t, q1, q2, q3, q4, q5, q6, q7⟩ := q
  refine ⟨_, q1, _, q2, .inl ⟨va, xs, k, _, rfl, rfl, .of q3, q4, ?_⟩⟩
  exact .inr (.inl ⟨t, ys, m, _, rfl, rfl, .of q5, q6, q7⟩)
theorem Sim.extN {r : Rx} {ms xs : List Addr} {H H2 : Hp} {S : Store} (s : Sim r ms xs H S) (eN : ExtN H H2) (T2 : Tabs r.T H2) (sz : SzOk H2) : Ext ms H ms H2 ∧ Sim r ms xs H2 S := by
  have e : Ext ms H ms H2 := ⟨⟨[], by simp, fun _ h => by cases h⟩, fun a o h _ t => eN a o h t⟩
  refine ⟨e, s.len, s.nd, s.dis, fun a ha => ?_, fun n o a hS hm => ?_, sz.1, sz.2, T2⟩
  · obtain ⟨o, q, t⟩ := s.xin a ha
    exact ⟨o, eN a o q t.1, t⟩
  · have q := s.obj n o a hS hm
    have same : H2 a = H a := by
      cases hH : H a with
      | some u => exact eN a u hH (fun ps z => by rw [hH, z] at q; exact (relC_no q).1 ps rfl)
      | none =>
        exfalso
        rw [hH] at q
        cases o with
        | lst ds => obtain ⟨_, e, _⟩ := q; cases e
        | ins c fs => obtain ⟨_, _, _, e, _⟩ := q; cases e
        | dic kvs => obtain ⟨_, e, _⟩ := q; cases e
    rw [same]
    exact q.map fun d v z => z.mono e
theorem bestN_eq (bt : Nat → Nat → Bool) : ∀ k, bestN bt k = argBest bt k
  | 0 => rfl
  | k + 1 => by simp only [bestN, argBest, bestN_eq bt k]
theorem mapO_get {α β : Type} {f : α → Option β} : ∀ {l : List α} {m : List β} {i : Nat} {a : α}, mapO f l = some m → l[i]? = some a → ∃ b, m[i]? = some b ∧ f a = some b
  | [], m, i, a, h, e => by simp at e
  | x :: l, m, i, a, h, e => by
    simp only [mapO] at h
    split at h
    · rename_i y ys h1 h2
      cases h
      cases i with
      | zero => simp at e; subst e; exact ⟨y, rfl, h1⟩
      | succ i =>
        obtain ⟨b, q1, q2⟩ := mapO_get h2 (by simpa using e)
        exact ⟨b, by simpa using q1, q2⟩
    · cases h
theorem ints_V {r : Rx} {ms xs : List Addr} {H : Hp} : ∀ {ds : List D} {us : List V} {ns : List Int}, RelDs r ms xs H ds us → intsO ds = some ns → us = ns.map V.int
  | [], us, ns, q, h => by
    simp [intsO, mapO] at h
    subst h
    simp only [RelDs] at q
    exact q
  | d :: ds, us, ns, q, h => by
    obtain ⟨v, vs, rfl, q1, q2⟩ := q.uncons
    simp only [intsO, mapO] at h
    split at h
    · rename_i y ys h1 h2
      cases h
      have := asI_some h1
      subst this
      rw [q1.int_eq, ints_V q2 (show intsO ds = some ys from h2)]
      rfl
    · cases h
end
end Mi
namespace Mi
open PySem L2 LamX
open PyProof.Rows (envOfC)
section
variable {X : Cx} {k : Nat}
def tIsx (i : Nat) (a : Addr) (b : Bool) : TE := fun σ H Q => σ[i]? = some (some (.ref a)) ∧ Q (.bl b) H
theorem pe_isx {a D Cc : Addr} {oe : Obj} {pn : List (Addr × Obj)} {i : Nat} {n y : Str} {b : Bool} {p p1 p2 pos : Pos} (C : ExcC X.K D) (hz : Zc (.ref D) none oe) (hf : ∃ vs, oe.data = .fields vs) (hg : Gl X "isinstance") (hm : X.mg "isinstance" = none)
    (hN : X.N[i]? = some n) (hv : Vis X.env.scope n) (hgy : Gl X y) (hy : X.mg y = some (.ref Cc)) (hk : PySem.W.kitOne X.K (.ref D) (.ref Cc) = some b) (hdn : (n == ("__debug__" : Str)) = false) (hcn : (n == ("__classdict__" : Str)) = false) (hdy : (y == ("__debug__" : Str)) = false) :
    PE (X.suite a ((a, oe) :: pn)) (.Call (.Name "isinstance" p) [.Name n p1, .Name y p2] [] pos) (tIsx i a b) := by
  have h := pe_callB (X := X.suite a ((a, oe) :: pn)) (p := p) (pos := pos) (call_isE (pn := pn) C hz hf) hg hm PyProof.Rows.boot_isinstance (pa_cons (pe_var (pos := p1) (i := i) hN hv hdn hcn) (pa_cons (pe_glob (pos := p2) (v := .ref Cc) hgy hy rfl hdy) pa_nil)) (by decide +kernel) (by decide +kernel) (by rfl) (by rfl)
  refine PE.imp h fun σ H Q q => ?_
  exact ⟨.ref a, q.1, .ref Cc, .ref Cc, b, rfl, fun u z => z, hk, q.2⟩
theorem pe_isxB {a D : Addr} {oe : Obj} {pn : List (Addr × Obj)} {i : Nat} {n y : Str} {b : Bool} {t : String} {p p1 p2 pos : Pos} (C : ExcC X.K D) (hz : Zc (.ref D) none oe) (hf : ∃ vs, oe.data = .fields vs) (hg : Gl X "isinstance") (hm : X.mg "isinstance" = none)
    (hN : X.N[i]? = some n) (hv : Vis X.env.scope n) (hgy : Gl X y) (hy : X.mg y = none) (hb : bootBuiltins y = some (.type t)) (hk : PySem.W.kitOne X.K (.ref D) (.type t) = some b) (hdn : (n == ("__debug__" : Str)) = false) (hcn : (n == ("__classdict__" : Str)) = false) (hdy : (y == ("__debug__" : Str)) = false) (hny : y ≠ "__name__") :
    PE (X.suite a ((a, oe) :: pn)) (.Call (.Name "isinstance" p) [.Name n p1, .Name y p2] [] pos) (tIsx i a b) := by
  have h := pe_callB (X := X.suite a ((a, oe) :: pn)) (p := p) (pos := pos) (call_isE (pn := pn) C hz hf) hg hm PyProof.Rows.boot_isinstance (pa_cons (pe_var (pos := p1) (i := i) hN hv hdn hcn) (pa_cons (pe_bltn (pos := p2) (v := .ty t) hgy hy hb rfl hny hdy) pa_nil)) (by decide +kernel) (by decide +kernel) (by rfl) (by rfl)
  refine PE.imp h fun σ H Q q => ?_
  exact ⟨.ref a, q.1, .ty t, .type t, b, rfl, fun u z => z, hk, q.2⟩
section
variable {pins : List (Addr × Obj)} {σ : L2.St} {H : Hp} {s : Shared}
abbrev cxG (X : Cx) (Ng : List Str) (x : Str) (sg : Scope) (g : Addr) (cdg : Value) (s : Shared) (H : Hp) : Cx := cxOf C8.CX0 X.prog X.w X.K X.mg X.base Ng x sg g cdg X.A X.stack s H C8.E0
theorem pe_actS {Ng : List Str} {qg : Str} {sg : Scope} {g f c' : Addr} {cdg pm ctv : Value} {prm : Arguments} {body : Expr} {scope : Scope} {i : Nat} {a : Str} {pn : List (Addr × Obj)} {xe : Value → Shared → Prop} {W : WX} {tb : XK → TE} {p1 p2 : Pos}
    (I : Inv X pins σ H s) (L : LamS X.env.scope scope) (of0 : s.heap.get? f = some (PySem.W.kla_obj "<lambda>" (X.env.qual ++ "<lambda>") prm body scope (cloFrom X.env.cells scope.names []) pm c' ctv)) (nH : H f = none) (nS : f ∉ frs X.stack)
    (hbi : bindArgs (PySem.W.kla_fn "<lambda>" (X.env.qual ++ "<lambda>") prm body scope (cloFrom X.env.cells scope.names []) pm (.ref c') ctv) ⟨[], []⟩ = pure [])
    (tk : Takes ((cxG X Ng qg sg g cdg s H).tr pn xe) W) (hr : Room (k + 1) (X.A.deeper (envOfC qg sg s.heap.objs.size g cdg)))
    (hbody : ∀ (A : Around) (outer : List PySem.Env) (s : Shared) (H : Hp) (E : XK), Room k (A.deeper (lamEnv X scope s.heap.objs.size f c')) → PE (lamCx X A outer s H E scope f c') body (tb E))
    (hN : Ng[i]? = some a) (hv : Vis sg a) (hd : (a == ("__debug__" : Str)) = false) (hcd : (a == ("__classdict__" : Str)) = false) :
    PE ((cxG X Ng qg sg g cdg s H).tr pn xe) (.Call (.Name a p1) [] [] p2) (fun σZ HZ Q => σZ[i]? = some (some (.ref f)) ∧ HZ c' = some (CodeO c' (X.env.qual ++ "<lambda>")) ∧ tb (WE W σZ) σ HZ Q) := by
  refine ⟨fun pz sz σZ HZ Q IZ h => ?_⟩
  obtain ⟨h1, h2, h3⟩ := h
  have rd := (pe_var (pos := p1) (i := i) hN hv hd hcd).run pz sz σZ HZ (fun v G => v = .ref f ∧ G = HZ) IZ ⟨.ref f, h1, rfl, rfl⟩
  refine wpAny_Call_Name_kw (thn rd fun u z1 ⟨v, G, J1, rv, e1, e2⟩ => ?_)
  subst e1 e2
  obtain rfl : u = Value.ref f := rv
  have of1 := J1.base.keep f _ of0 nH nS (fun z => nomatch (show f ∈ ([] : List Addr) from z))
  refine PySem.W.callWith_F0 ⟨_, _, _, _, of1⟩ ?_
  have un : Un (frs X.stack) [] H G s.heap z1.heap := J1.base
  obtain ⟨⟨oc, vs, t, k1, k2, k3⟩, _, _⟩ := J1.hok c' _ h2
  have run : codeAny (model X.prog X.w) (X.A.deeper (envOfC qg sg s.heap.objs.size g cdg)) (.call (.ref f) ⟨[], []⟩) (CR (L2.CX X.prog X.w) (envOfC qg sg s.heap.objs.size g cdg :: X.stack) X.prog X.w G z1 Q (WE W σZ)) z1 := by
    refine PySem.W.kla_callFunE hr.depth of1 rfl L.co L.gen rfl ⟨c', oc, vs, t, rfl, k1, k2, k3⟩ ?_
    rw [hbi]
    refine wpAny_pure (wpAny_newFunctionEnv (fun y hy => (L.own y hy).2) (fun y hy => absurd hy (by simp)) (fun h1 ns sb => ⟨J1.nolimit.fresh _ sb, ?_⟩) L.kind)
    show codeAny _ _ (.expr body (lamEnv X scope z1.heap.objs.size f c')) _ _
    have kp : ∀ b o, z1.heap.get? b = some o → h1.get? b = some o := fun b o e => sb.extBut b o (Nat.ne_of_lt (Heap.lt_size e)) (Heap.get?_push_of_some _ e)
    have st := lam_start2 (f := f) (c' := c') (E := WE W σZ) (tk := z1.toks + ([] : List (Str × Value)).length) I L J1.env0 hr.hd un ns kp
    refine PySem.W.kla_codeExpr (wpAny_mono ((hbody _ _ z1 G (WE W σZ) (hr.deeper _)).run [] _ _ G Q st h3) (fun v s' hq => ?_) fun e s' hq => hq)
    obtain ⟨w2, H2, J2, rv2, q2⟩ := hq
    exact ⟨w2, H2, J2.os, J2.bare, J2.base, J2.hok, rv2, q2⟩
  refine wpAny_call (codeAny_mono run fun r s' hq => ?_)
  cases r with
  | error e => exact passAt tk σZ pz G z1 e s' J1 hq
  | ok fl => cases fl <;> first | exact J1.after hq | exact False.elim hq
end
def Gives (X : Cx) (Ng : List Str) (x : Str) (sg : Scope) (g : Addr) (cdg : Value) (bg : List Stmt) (a : Str) (q : Str) (TT : (XK → Hp → VK → Prop) → Hp → VK → Prop) : Prop :=
  ∀ (f c' : Addr) (s : Shared) (H : Hp) (Q : VK) (tl : XK → Hp → VK → Prop),
    (∀ (W : WX) (pn : List (Addr × Obj)) (xe : Value → Shared → Prop) (p1 p2 : Pos), Takes ((cxG X Ng x sg g cdg s H).tr pn xe) W →
      PE ((cxG X Ng x sg g cdg s H).tr pn xe) (.Call (.Name a p1) [] [] p2) (fun σZ HZ Q => σZ[0]? = some (some (.ref f)) ∧ HZ c' = some (CodeO c' q) ∧ tl (WE W σZ) HZ Q)) →
    H c' = some (CodeO c' q) → TT tl H Q →
    ∃ t, PSs (cxG X Ng x sg g cdg s H).nox bg t ∧ t { nx := fun _ H' => Q .non H', rt := Q } (L2.start Ng [.ref f]) H
def tLamS (T : List (Addr × Str)) (TT : (XK → Hp → VK → Prop) → Hp → VK → Prop) (t : XK → TE) : TE := fun σ H Q => Tabs T H ∧ ∀ G, ExtN H G → Tabs T G → SzOk G → TT (fun E H' Q' => t E σ H' Q') G Q
theorem pe_lamS {T : List (Addr × Str)} {TT : (XK → Hp → VK → Prop) → Hp → VK → Prop} {x a : Str} {g c P : Addr} {pg : Arguments} {bg : List Stmt} {sg : Scope} {dV kV doc pm cdv ct oc : Value} {an od : Option Addr} {osl : Array (Option Value)} {Ng : List Str}
    {prm : Arguments} {body : Expr} {scope : Scope} {t : XK → TE} {p lpos pos : Pos} (hg : Gl X x) (hm : X.mg x = some (.ref g)) (hk : PySem.W.keepIn X.K (.ref g) = true)
    (lk : X.K.lookup g = some ⟨oc, od, .func (PySem.W.fnOf x x pg bg sg dV kV doc pm an cdv ct), osl⟩) (hcg : PySem.W.codeIn X.K cdv x = true) (hb : L2.Binds X.K (PySem.W.fnOf x x pg bg sg dV kV doc pm an cdv ct) [a] []) (Sg : FnScope Ng [a] sg) (hNg : Ng[0]? = some a) (hva : Vis sg a)
    (hG : Gives X Ng x sg g cdv bg a (X.env.qual ++ "<lambda>") TT) (TB : TabB X.base X.mg c P) (hco : X.env.code = .ref c) (hmT : (P, X.env.qual ++ "<lambda>") ∈ T) (hu : ∀ p ∈ T, p.1 = P → p.2 = X.env.qual ++ "<lambda>") (hr : Room (k + 2) X.A) (L : LamS X.env.scope scope) (hdf : defaultsOf prm X.env = ([], []))
    (hbi : ∀ (q : Str) (cl : List (Str × Addr)) (pm cv ctv : Value), bindArgs (PySem.W.kla_fn "<lambda>" q prm body scope cl pm cv ctv) ⟨[], []⟩ = pure [])
    (hbody : ∀ (A : Around) (outer : List PySem.Env) (s : Shared) (H : Hp) (E : XK) (f c' : Addr), Room k (A.deeper (lamEnv X scope s.heap.objs.size f c')) → PE (lamCx X A outer s H E scope f c') body (t E))
    (hdb : (x == ("__debug__" : Str)) = false) (hd : (a == ("__debug__" : Str)) = false) (hcd : (a == ("__classdict__" : Str)) = false) :
    PE X (.Call (.Name x p) [.Lambda prm body scope lpos] [] pos) (tLamS T TT t) := by
  refine ⟨fun pins s σ H Q I h => ?_⟩
  obtain ⟨hT, h⟩ := h
  refine wpAny_Call_Name_kw (ld_glob I hg hm ?_ hdb)
  refine PySem.W.callWith_K (h₀ := X.base) I.ok.mod.kin hk ?_ (by rfl) (by rfl)
  refine Calls.spliced_cons (lam_make2 I TB hco hmT hu hT hdf (L.has I.ok) fun f c' pm' ctv G s' J eN T1 of0 nH nS code => ?_)
  refine Calls.spliced_nil ⟨J.kIn, ?_⟩
  have run : codeAny (model X.prog X.w) X.A (.call (.ref g) ⟨[.ref f], []⟩) (CR C8.CX0 X.stack X.prog X.w G s' Q C8.E0) s' := by
    refine run_ofS (N := Ng) (ps := [a]) (us := [.ref f]) (vs := [.ref f]) lk hcg Sg hr J.env0 (hb s' [.ref f] J.kIn rfl) (.cons rfl .nil) rfl fun hr2 => ?_
    have act := fun (W : WX) (pn : List (Addr × Obj)) (xe : Value → Shared → Prop) (p1 p2 : Pos) tk => pe_actS (p1 := p1) (p2 := p2) (pn := pn) (xe := xe) (W := W) (i := 0) (tb := t) J L of0 nH nS (hbi _ _ _ _ _) tk hr2 (fun A outer s H E hr3 => hbody A outer s H E f c' hr3) hNg hva hd hcd
    obtain ⟨t2, ht2, hq2⟩ := hG f c' s' G Q (fun E H' Q' => t E σ H' Q') act code (h G eN T1 (SzOk.of J.hok))
    exact ⟨t2, ht2.nox, hq2⟩
  refine wpAny_call (codeAny_mono run fun r s2 hq => ?_)
  cases r with
  | error e => exact (show False from hq).elim
  | ok fl => cases fl <;> first | exact J.after hq | exact False.elim hq
structure Exq (H H' : Hp) : Prop where
  keep : ∀ b o, H b = some o → H' b = some o
  lst : ∀ b vs, H' b = some (.lst vs) → H b = some (.lst vs) ∨ vs.length ≤ 100
  tup : ∀ b vs, H' b = some (.tup vs) → H b = some (.tup vs)
theorem Exq.refl {H : Hp} : Exq H H := ⟨fun _ _ h => h, fun _ _ h => .inl h, fun _ _ h => h⟩
theorem Exq.no {H H' : Hp} {p : Addr} (e : Exq H H') (h : H' p = none) : H p = none := by
  cases q : H p with
  | none => rfl
  | some o => rw [e.keep p o q] at h; cases h
theorem Exq.put {H H' : Hp} {p : Addr} {vs : List V} (e : Exq H H') (h : H p = none) (hl : vs.length ≤ 100) : Exq H (upd H' p (.lst vs)) := by
  refine ⟨fun b o q => ?_, fun b us q => ?_, fun b us q => ?_⟩
  · rw [upd_ne (fun z => by rw [z, h] at q; cases q)]; exact e.keep b o q
  · by_cases z : b = p
    · subst z; rw [upd_same] at q; cases q; exact .inr hl
    · rw [upd_ne z] at q; exact e.lst b us q
  · by_cases z : b = p
    · subst z; rw [upd_same] at q; cases q
    · rw [upd_ne z] at q; exact e.tup b us q
theorem sz100 {n : Nat} (h : n ≤ 100) : n ≤ sizeLine := by rw [sizeLine_eq]; omega
def TTf (K : PySem.W.Frag) (CS A B : Addr) : (XK → Hp → VK → Prop) → Hp → VK → Prop := fun tl H Q =>
  ∀ (E : XK) (Q2 : VK), (∀ (D : Addr) (H' : Hp) (b1 b2 : Bool), ExcC K D → PySem.W.exmOne K (.ref D) (.ref CS) = some true → PySem.W.kitOne K (.ref D) (.ref A) = some b1 → PySem.W.kitOne K (.ref D) (.ref B) = some b2 → Q (.bl (b1 && !b2)) H' → E (.ref D) none H') →
    (∀ v H', Q (.bl false) H' → Q2 v H') → tl E H Q2
theorem full_gives {Ng : List Str} {x a fn en cn yA yB q : Str} {sg : Scope} {g CS A B : Addr} {cdg : Value} {j : Nat} {p1 p2 p3 p4 p5 p6 p7 p8 p9 p10 p11 p12 p13 p14 p15 p16 p17 p18 p19 p20 p21 p22 p23 : Pos} (hNg : Ng = [a, fn, en]) (hnd : Ng.Nodup)
    (hfn : lcOk sg fn) (hen : lcOk sg en) (hcn : nmOk sg cn) (hA : nmOk sg yA) (hB : nmOk sg yB) (hi : nmOk sg "isinstance") (mi : X.mg "isinstance" = none) (mc : X.mg cn = some (.ref CS)) (mA : X.mg yA = some (.ref A)) (mB : X.mg yB = some (.ref B)) :
    Gives X Ng x sg g cdg [.Assign [.Name fn p1] (.Constant (.bool false) j p2) p3,
      .Try [.Expr (.Call (.Name a p4) [] [] p5) p6] [.ExceptHandler (some (.Name cn p7)) (some en) [.Assign [.Name fn p8] (.BoolOp .And [.Call (.Name "isinstance" p9) [.Name en p10, .Name yA p11] [] p12, .UnaryOp .Not (.Call (.Name "isinstance" p13) [.Name en p14, .Name yB p15] [] p16) p17] p18) p19] p20] [] [] p21,
      .Return (some (.Name fn p22)) p23] a q (TTf X.K CS A B) := by
  intro f c' s H Q tl act hc h
  subst hNg
  have s1 := ps_set (X := (cxG X [a, fn, en] x sg g cdg s H).nox) (i := 1) (x := fn) (pos := p3) (pos' := p1) hnd rfl (.inl hfn.1) (pe_bl (b := false) (j := j) (pos := p2)) (by rfl) (.inl rfl)
  have s3 := ps_ret (X := (cxG X [a, fn, en] x sg g cdg s H).nox) (pos := p23) (pe_var (pos := p22) (i := 1) (x := fn) rfl (.inl hfn.1) hfn.2.1 hfn.2.2)
  have s2 := ps_try_as (X := (cxG X [a, fn, en] x sg g cdg s H).nox) (x := cn) (np := p7) (pos' := p20) (pos := p21) (n := en) (i := 2) (c := .ref CS)
    (b₀ := .Assign [.Name fn p8] (.BoolOp .And [.Call (.Name "isinstance" p9) [.Name en p10, .Name yA p11] [] p12, .UnaryOp .Not (.Call (.Name "isinstance" p13) [.Name en p14, .Name yB p15] [] p16) p17] p18) p19) (suite := []) (body := [.Expr (.Call (.Name a p4) [] [] p5) p6])
    (tb := fun W D σ H => σ[0]? = some (some (.ref f)) ∧ H c' = some (CodeO c' q) ∧ tl (WE W σ) H (fun _ H' => D.nx σ H'))
    (ts := fun a cls d D σ H => ∃ (Dd : Addr) (b1 b2 : Bool), cls = .ref Dd ∧ d = none ∧ ExcC X.K Dd ∧ PySem.W.kitOne X.K (.ref Dd) (.ref A) = some b1 ∧ PySem.W.kitOne X.K (.ref Dd) (.ref B) = some b2 ∧ σ[2]? = some (some (.ref a)) ∧ D.nx (σ.set 1 (some (.bl (b1 && !b2)))) H)
    rfl rfl hnd rfl hen.1 ⟨hcn.1, hcn.2, .inl mc⟩ LamX.takes0 (fun W pn xe tk _ => ?_) (fun ad oe cls d pn hz hf => ?_)
  · refine ⟨_, pss_cons s1 (pss_cons s2 (pss_one s3)), ?_⟩
    refine ⟨rfl, hc, h _ _ (fun D H' b1 b2 hC hx hk1 hk2 q2 => ?_) fun v H' q2 => ⟨_, rfl, q2⟩⟩
    refine ⟨true, hx, fun _ a' ha' => ⟨D, b1, b2, rfl, rfl, hC, hk1, hk2, rfl, ⟨_, rfl, q2⟩⟩, fun z => by cases z⟩
  · refine ⟨fun pins s' σ H' D I h' => ?_⟩
    have e := pss_one (ps_expr (pos := p6) (act W pn xe p4 p5 tk) (by rfl))
    exact e.run pins s' σ H' D I h'
  · refine ⟨fun pins s' σ H' D I h' => ?_⟩
    obtain ⟨Dd, b1, b2, rfl, rfl, hC, hk1, hk2, h2, h3⟩ := h'
    have i1 := pe_isx (X := (cxG X [a, fn, en] x sg g cdg s H).nox) (a := ad) (pn := pn) (i := 2) (n := en) (y := yA) (p := p9) (p1 := p10) (p2 := p11) (pos := p12) hC hz hf hi.1 mi rfl (.inl hen.1) hA.1 mA hk1 hen.2.1 hen.2.2 hA.2
    have i2 := pe_isx (X := (cxG X [a, fn, en] x sg g cdg s H).nox) (a := ad) (pn := pn) (i := 2) (n := en) (y := yB) (p := p13) (p1 := p14) (p2 := p15) (pos := p16) hC hz hf hi.1 mi rfl (.inl hen.1) hB.1 mB hk2 hen.2.1 hen.2.2 hB.2
    have e := pss_one (ps_set (X := (cxG X [a, fn, en] x sg g cdg s H).nox.suite ad ((ad, oe) :: pn)) (i := 1) (x := fn) (pos := p19) (pos' := p8) hnd rfl (.inl hfn.1) (pe_and (pos := p18) i1 (pe_one (pe_not (pos := p17) i2))) (by rfl) (.inl rfl))
    refine e.run pins s' σ H' D I ?_
    refine ⟨h2, b1, rfl, ?_⟩
    cases b1 with
    | true => exact ⟨h2, b2, rfl, h3⟩
    | false => exact h3
def bls (b : Nat → Bool) (m : Nat) : List V := (List.range m).map fun i => V.bl (b i)
def TTk (K : PySem.W.Frag) (CS : Addr) (A : Nat → Addr) : (XK → Hp → VK → Prop) → Hp → VK → Prop := fun tl H Q =>
  ∀ (p : Addr), H p = none → ∀ (E : XK) (Q2 : VK), (∀ (D : Addr) (H' : Hp) (b : Nat → Bool), ExcC K D → PySem.W.exmOne K (.ref D) (.ref CS) = some true → (∀ i < 12, PySem.W.kitOne K (.ref D) (.ref (A i)) = some (b i)) → PySem.W.kitOne K (.ref D) (.type "ValueError") = some true →
      (∀ p2 H2, Exq H' H2 → H' p2 = none → H2 p2 = some (.lst (bls b 12 ++ [.bl true])) → Q (.ref p2) H2) → E (.ref D) none H') →
    (∀ v H', Q (.ref p) H' → Q2 v H') → tl E (upd H p (.lst [])) Q2
def t3x (i : Nat) (a : Addr) (b0 b1 b2 : Bool) : TE := fun σ H Q => σ[i]? = some (some (.ref a)) ∧ ∀ p, H p = none → Q (.ref p) (upd H p (.lst [.bl b0, .bl b1, .bl b2]))
theorem pe_l3 {e0 e1 e2 : Expr} {i : Nat} {a : Addr} {b0 b1 b2 : Bool} {pos : Pos} (h0 : PE X e0 (tIsx i a b0)) (h1 : PE X e1 (tIsx i a b1)) (h2 : PE X e2 (tIsx i a b2)) (n0 : noStar e0 = true) (n1 : noStar e1 = true) (n2 : noStar e2 = true) : PE X (.List [e0, e1, e2] pos) (t3x i a b0 b1 b2) := by
  refine PE.imp (pe_lst (pos := pos) (pa_cons h0 (pa_cons h1 (pa_cons h2 pa_nil (star_of n2)) (star_of n1)) (star_of n0))) fun σ H Q q => ?_
  exact ⟨q.1, q.1, q.1, sz100 (by simp), q.2⟩
theorem kinds_gives {Ng : List Str} {x a fn en cn q : Str} {sg : Scope} {g CS : Addr} {A : Nat → Addr} {cdg : Value} {p1 p2 p3 p4 p5 p6 p7 p20 p21 p22 p23 s0 s1 s2 s6 s7 s8 s9 s10 s12 s13 s14 s15 s16 s18 s19 s20 s21 s22 s24 s25 s26 s27 q0 q1 q2 q3 q4 q5 q6 q7 q8 q9 q10 q11 q12 q13 q14 q15 q16 q17 q18 q19 q20 q21 q22 q23 q24 q25 q26 q27 q28 q29 q30 q31 q32 q33 q34 q35 q36 q37 q38 q39 q40 q41 q42 q43 q44 q45 q46 q47 q48 q49 q50 q51 : Pos} (hNg : Ng = [a, fn, en]) (hnd : Ng.Nodup)
    (hfn : lcOk sg fn) (hen : lcOk sg en) (hcn : nmOk sg cn) (hA : ∀ y ∈ yK, nmOk sg y) (hV : nmOk sg "ValueError") (hi : nmOk sg "isinstance") (hl : (s25.endLine == s26.line) = true) (mi : X.mg "isinstance" = none) (mc : X.mg cn = some (.ref CS)) (mA : ∀ i y, yK[i]? = some y → X.mg y = some (.ref (A i))) (mV : X.mg "ValueError" = none) :
    Gives X Ng x sg g cdg [.Assign [.Name fn p1] (.List [] p2) p3,
      .Try [.Expr (.Call (.Name a p4) [] [] p5) p6] [.ExceptHandler (some (.Name cn p7)) (some en) [.Assign [.Name fn s0] (.List [.Call (.Name "isinstance" q0) [.Name en q1, .Name "BadKinds" q2] [] q3, .Call (.Name "isinstance" q4) [.Name en q5, .Name "BadChute" q6] [] q7, .Call (.Name "isinstance" q8) [.Name en q9, .Name "BadWish" q10] [] q11] s1) s2,
        .Assign [.Name fn s6] (.BinOp (.Name fn s7) .Add (.List [.Call (.Name "isinstance" q12) [.Name en q13, .Name "BadGroups" q14] [] q15, .Call (.Name "isinstance" q16) [.Name en q17, .Name "BadNumber" q18] [] q19, .Call (.Name "isinstance" q20) [.Name en q21, .Name "BadRooms" q22] [] q23] s8) s9) s10,
        .Assign [.Name fn s12] (.BinOp (.Name fn s13) .Add (.List [.Call (.Name "isinstance" q24) [.Name en q25, .Name "BadRow" q26] [] q27, .Call (.Name "isinstance" q28) [.Name en q29, .Name "BadKind" q30] [] q31, .Call (.Name "isinstance" q32) [.Name en q33, .Name "BadBox" q34] [] q35] s14) s15) s16,
        .Assign [.Name fn s18] (.BinOp (.Name fn s19) .Add (.List [.Call (.Name "isinstance" q36) [.Name en q37, .Name "BadTale" q38] [] q39, .Call (.Name "isinstance" q40) [.Name en q41, .Name "NotOne" q42] [] q43, .Call (.Name "isinstance" q44) [.Name en q45, .Name "Full" q46] [] q47] s20) s21) s22,
        .Expr (.Call (.Attribute (.Name fn s24) "append" s25) [.Call (.Name "isinstance" q48) [.Name en q49, .Name "ValueError" q50] [] q51] [] s26) s27] p20] [] [] p21,
      .Return (some (.Name fn p22)) p23] a q (TTk X.K CS A) := by
  intro f c' s H Q tl act hc h
  subst hNg
  have st1 := ps_set (X := (cxG X [a, fn, en] x sg g cdg s H).nox) (i := 1) (x := fn) (pos := p3) (pos' := p1) hnd rfl (.inl hfn.1) (pe_lst (pos := p2) pa_nil) (by rfl) (.inl rfl)
  have st3 := ps_ret (X := (cxG X [a, fn, en] x sg g cdg s H).nox) (pos := p23) (pe_var (pos := p22) (i := 1) (x := fn) rfl (.inl hfn.1) hfn.2.1 hfn.2.2)
  have st2 := ps_try_as (X := (cxG X [a, fn, en] x sg g cdg s H).nox) (x := cn) (np := p7) (pos' := p20) (pos := p21) (n := en) (i := 2) (c := .ref CS)
    (b₀ := .Assign [.Name fn s0] (.List [.Call (.Name "isinstance" q0) [.Name en q1, .Name "BadKinds" q2] [] q3, .Call (.Name "isinstance" q4) [.Name en q5, .Name "BadChute" q6] [] q7, .Call (.Name "isinstance" q8) [.Name en q9, .Name "BadWish" q10] [] q11] s1) s2) (suite := [.Assign [.Name fn s6] (.BinOp (.Name fn s7) .Add (.List [.Call (.Name "isinstance" q12) [.Name en q13, .Name "BadGroups" q14] [] q15, .Call (.Name "isinstance" q16) [.Name en q17, .Name "BadNumber" q18] [] q19, .Call (.Name "isinstance" q20) [.Name en q21, .Name "BadRooms" q22] [] q23] s8) s9) s10, .Assign [.Name fn s12] (.BinOp (.Name fn s13) .Add (.List [.Call (.Name "isinstance" q24) [.Name en q25, .Name "BadRow" q26] [] q27, .Call (.Name "isinstance" q28) [.Name en q29, .Name "BadKind" q30] [] q31, .Call (.Name "isinstance" q32) [.Name en q33, .Name "BadBox" q34] [] q35] s14) s15) s16, .Assign [.Name fn s18] (.BinOp (.Name fn s19) .Add (.List [.Call (.Name "isinstance" q36) [.Name en q37, .Name "BadTale" q38] [] q39, .Call (.Name "isinstance" q40) [.Name en q41, .Name "NotOne" q42] [] q43, .Call (.Name "isinstance" q44) [.Name en q45, .Name "Full" q46] [] q47] s20) s21) s22, .Expr (.Call (.Attribute (.Name fn s24) "append" s25) [.Call (.Name "isinstance" q48) [.Name en q49, .Name "ValueError" q50] [] q51] [] s26) s27]) (body := [.Expr (.Call (.Name a p4) [] [] p5) p6])
    (tb := fun W D σ H => σ[0]? = some (some (.ref f)) ∧ H c' = some (CodeO c' q) ∧ tl (WE W σ) H (fun _ H' => D.nx σ H'))
    (ts := fun ad cls d D σ H => ∃ (Dd : Addr) (b : Nat → Bool), cls = .ref Dd ∧ d = none ∧ ExcC X.K Dd ∧ (∀ i < 12, PySem.W.kitOne X.K (.ref Dd) (.ref (A i)) = some (b i)) ∧ PySem.W.kitOne X.K (.ref Dd) (.type "ValueError") = some true ∧ σ.length = 3 ∧ σ[2]? = some (some (.ref ad)) ∧
      ∀ p2 H2, Exq H H2 → H p2 = none → H2 p2 = some (.lst (bls b 12 ++ [.bl true])) → ∀ σ2, σ2.length = 3 → σ2[1]? = some (some (.ref p2)) → D.nx σ2 H2)
    rfl rfl hnd rfl hen.1 ⟨hcn.1, hcn.2, .inl mc⟩ LamX.takes0 (fun W pn xe tk _ => ?_) (fun ad oe cls d pn hz hf => ?_)
  · refine ⟨_, pss_cons st1 (pss_cons st2 (pss_one st3)), ?_⟩
    refine ⟨sz100 (by simp), fun p hp => ?_⟩
    refine ⟨rfl, ?_, h p hp _ _ (fun D H' b hC hx hk hv q2 => ?_) fun v H' q2 => ⟨_, rfl, q2⟩⟩
    · rw [upd_ne (fun z => by rw [← z, hc] at hp; cases hp)]; exact hc
    · refine ⟨true, hx, fun _ a' ha' => ⟨D, b, rfl, rfl, hC, hk, hv, rfl, rfl, fun p2 H2 e1 e2 e3 σ2 l2 g2 => ?_⟩, fun z => by cases z⟩
      have hs : (σ2.set 2 none)[1]? = some (some (.ref p2)) := by rw [List.getElem?_set_ne (by decide)]; exact g2
      exact ⟨.ref p2, hs, q2 p2 H2 e1 e2 e3⟩
  · refine ⟨fun pins s' σ H' D I h' => ?_⟩
    have e := pss_one (ps_expr (pos := p6) (act W pn xe p4 p5 tk) (by rfl))
    exact e.run pins s' σ H' D I h'
  · refine ⟨fun pins s' σ H' D I h' => ?_⟩
    obtain ⟨Dd, b, rfl, rfl, hC, hk, hv, hl3, h2, h3⟩ := h'
    have ix : ∀ (i : Nat) (y : Str) (hy : yK[i]? = some y) (p p1 p2 pos : Pos), PE ((cxG X [a, fn, en] x sg g cdg s H).nox.suite ad ((ad, oe) :: pn)) (.Call (.Name "isinstance" p) [.Name en p1, .Name y p2] [] pos) (tIsx 2 ad (b i)) := fun i y hy p p1 p2 pos => by
      have hlt : i < 12 := (List.getElem?_eq_some_iff.mp hy).1
      have hm : y ∈ yK := List.mem_of_getElem? hy
      exact pe_isx (X := (cxG X [a, fn, en] x sg g cdg s H).nox) (a := ad) (pn := pn) (i := 2) (n := en) (y := y) hC hz hf hi.1 mi rfl (.inl hen.1) (hA y hm).1 (mA i y hy) (hk i hlt) hen.2.1 hen.2.2 (hA y hm).2
    have iv := pe_isxB (X := (cxG X [a, fn, en] x sg g cdg s H).nox) (a := ad) (pn := pn) (i := 2) (n := en) (y := "ValueError") (p := q48) (p1 := q49) (p2 := q50) (pos := q51) hC hz hf hi.1 mi rfl (.inl hen.1) hV.1 mV (t := "ValueError") (by decide +kernel) hv hen.2.1 hen.2.2 hV.2 (by decide +kernel)
    have vr : ∀ pos : Pos, PE ((cxG X [a, fn, en] x sg g cdg s H).nox.suite ad ((ad, oe) :: pn)) (.Name fn pos) (tVar 1) := fun pos => pe_var (pos := pos) (i := 1) (x := fn) rfl (.inl hfn.1) hfn.2.1 hfn.2.2
    have as := fun (p' p : Pos) (e : Expr) (te : TE) (he : PE ((cxG X [a, fn, en] x sg g cdg s H).nox.suite ad ((ad, oe) :: pn)) e te) (hs : swapsWith e (some (.Name fn p')) p.line ((cxG X [a, fn, en] x sg g cdg s H).nox.suite ad ((ad, oe) :: pn)).env = pure false) => ps_set (i := 1) (x := fn) (pos := p) (pos' := p') hnd rfl (.inl hfn.1) he hs (.inl rfl)
    have e := pss_cons (as s0 s2 _ _ (pe_l3 (pos := s1) (ix 0 _ rfl q0 q1 q2 q3) (ix 1 _ rfl q4 q5 q6 q7) (ix 2 _ rfl q8 q9 q10 q11) rfl rfl rfl) (by rfl))
      (pss_cons (as s6 s10 _ _ (pe_op (pos := s9) op_cat (vr s7) (pe_l3 (pos := s8) (ix 3 _ rfl q12 q13 q14 q15) (ix 4 _ rfl q16 q17 q18 q19) (ix 5 _ rfl q20 q21 q22 q23) rfl rfl rfl)) (by rfl))
      (pss_cons (as s12 s16 _ _ (pe_op (pos := s15) op_cat (vr s13) (pe_l3 (pos := s14) (ix 6 _ rfl q24 q25 q26 q27) (ix 7 _ rfl q28 q29 q30 q31) (ix 8 _ rfl q32 q33 q34 q35) rfl rfl rfl)) (by rfl))
      (pss_cons (as s18 s22 _ _ (pe_op (pos := s21) op_cat (vr s19) (pe_l3 (pos := s20) (ix 9 _ rfl q36 q37 q38 q39) (ix 10 _ rfl q40 q41 q42 q43) (ix 11 _ rfl q44 q45 q46 q47) rfl rfl rfl)) (by rfl))
      (pss_one (ps_expr (pos := s27) (pe_bm (apos := s25) (cpos := s26) PySem.F.plainAttrs_list PySem.F.slot_list_append PySem.F.type_list_append mt_append (vr s24) (pa_cons iv pa_nil) (by rfl) (by rfl) hl) (by rfl))))))
    refine e.run pins s' σ H' D I ?_
    have set1 : ∀ (σ : L2.St) (v : V), σ.length = 3 → (σ.set 1 (some v))[1]? = some (some v) := fun σ v hl => List.getElem?_set_self (by omega)
    have set2 : ∀ (σ : L2.St) (v : V), σ[2]? = some (some (.ref ad)) → (σ.set 1 (some v))[2]? = some (some (.ref ad)) := fun σ v hl => by rw [List.getElem?_set_ne (by decide)]; exact hl
    -- a list and three more
    have more : ∀ (σ : L2.St) (G : Hp) (r : Addr) (xs : List V) (b0 b1 b2 : Bool) (Q : VK), σ.length = 3 → σ[2]? = some (some (.ref ad)) → σ[1]? = some (some (.ref r)) → Exq H' G → H' r = none → G r = some (.lst xs) → xs.length ≤ 50 →
        (∀ r' G', Exq H' G' → H' r' = none → G' r' = some (.lst (xs ++ [.bl b0, .bl b1, .bl b2])) → Q (.ref r') G') → tOp rCat (tVar 1) (t3x 2 ad b0 b1 b2) σ G Q := by
      intro σ G r xs b0 b1 b2 Q l3 k2 k1 ex nr gr lx fin
      refine ⟨.ref r, k1, k2, fun r1 hr1 => ?_⟩
      have n1 : H' r1 = none := ex.no hr1
      have ne : r ≠ r1 := fun z => by rw [z, hr1] at gr; cases gr
      refine ⟨r, r1, xs, _, rfl, rfl, by rw [upd_ne ne]; exact gr, upd_same, sz100 (by simp; omega), fun r2 hr2 => ?_⟩
      have ex1 := ex.put (vs := [.bl b0, .bl b1, .bl b2]) n1 (by simp)
      have n2 := ex1.no hr2
      exact fin r2 _ (ex1.put n2 (by simp; omega)) n2 upd_same
    refine ⟨h2, fun r0 hr0 => ?_⟩
    refine more _ _ r0 _ _ _ _ _ (by simp [hl3]) (set2 _ _ h2) (set1 _ _ hl3) (Exq.refl.put hr0 (by simp)) hr0 upd_same (by simp) fun r1 G1 x1 n1 g1 => ?_
    refine more _ _ r1 _ _ _ _ _ (by simp [hl3]) (set2 _ _ (set2 _ _ h2)) (set1 _ _ (by simp [hl3])) x1 n1 g1 (by simp) fun r2 G2 x2 n2 g2 => ?_
    refine more _ _ r2 _ _ _ _ _ (by simp [hl3]) (set2 _ _ (set2 _ _ (set2 _ _ h2))) (set1 _ _ (by simp [hl3])) x2 n2 g2 (by simp) fun r3 G3 x3 n3 g3 => ?_
    refine ⟨.ref r3, set1 _ _ (by simp [hl3]), ⟨.inl ⟨rfl, _, .of g3⟩, set2 _ _ (set2 _ _ (set2 _ _ (set2 _ _ h2))), ?_⟩⟩
    refine ⟨r3, _, _, rfl, rfl, g3, Nat.lt_of_lt_of_le (show _ < 100 from by simp) (by rw [sizeLine_eq]; omega), ?_⟩
    exact h3 r3 _ (x3.put n3 (by simp)) n3 (by rw [upd_same]; rfl) _ (by simp [hl3]) (set1 _ _ (by simp [hl3]))
def GivesT (X : Cx) (Ng : List Str) (x : Str) (sg : Scope) (g : Addr) (cdg : Value) (bg : List Stmt) (a : Str) (q w : Str) (TT : (XK → Hp → VK → Prop) → Hp → VK → Prop) : Prop :=
  ∀ (f c' : Addr) (s : Shared) (H : Hp) (Q : VK) (tl : XK → Hp → VK → Prop),
    (∀ (W : WX) (pn : List (Addr × Obj)) (xe : Value → Shared → Prop) (p1 p2 : Pos), Takes ((cxG X Ng x sg g cdg s H).tr pn xe) W →
      PE ((cxG X Ng x sg g cdg s H).tr pn xe) (.Call (.Name a p1) [] [] p2) (fun σZ HZ Q => σZ[0]? = some (some (.ref f)) ∧ HZ c' = some (CodeO c' q) ∧ tl (WE W σZ) HZ Q)) →
    H c' = some (CodeO c' q) → TT tl H Q →
    ∃ t, PSs (cxG X Ng x sg g cdg s H).nox bg t ∧ t { nx := fun _ H' => Q .non H', rt := Q } (L2.start Ng [.ref f, .str w]) H
theorem pe_lamT {T : List (Addr × Str)} {TT : (XK → Hp → VK → Prop) → Hp → VK → Prop} {x a b w : Str} {g c P : Addr} {pg : Arguments} {bg : List Stmt} {sg : Scope} {dV kV doc pm cdv ct oc : Value} {an od : Option Addr} {osl : Array (Option Value)} {Ng : List Str}
    {prm : Arguments} {body : Expr} {scope : Scope} {t : XK → TE} {p lpos cpos pos : Pos} {j : Nat} (hg : Gl X x) (hm : X.mg x = some (.ref g)) (hk : PySem.W.keepIn X.K (.ref g) = true)
    (lk : X.K.lookup g = some ⟨oc, od, .func (PySem.W.fnOf x x pg bg sg dV kV doc pm an cdv ct), osl⟩) (hcg : PySem.W.codeIn X.K cdv x = true) (hb : L2.Binds X.K (PySem.W.fnOf x x pg bg sg dV kV doc pm an cdv ct) [a, b] []) (Sg : FnScope Ng [a, b] sg) (hNg : Ng[0]? = some a) (hva : Vis sg a)
    (hG : GivesT X Ng x sg g cdv bg a (X.env.qual ++ "<lambda>") w TT) (TB : TabB X.base X.mg c P) (hco : X.env.code = .ref c) (hmT : (P, X.env.qual ++ "<lambda>") ∈ T) (hu : ∀ p ∈ T, p.1 = P → p.2 = X.env.qual ++ "<lambda>") (hr : Room (k + 2) X.A) (L : LamS X.env.scope scope) (hdf : defaultsOf prm X.env = ([], []))
    (hbi : ∀ (q : Str) (cl : List (Str × Addr)) (pm cv ctv : Value), bindArgs (PySem.W.kla_fn "<lambda>" q prm body scope cl pm cv ctv) ⟨[], []⟩ = pure [])
    (hbody : ∀ (A : Around) (outer : List PySem.Env) (s : Shared) (H : Hp) (E : XK) (f c' : Addr), Room k (A.deeper (lamEnv X scope s.heap.objs.size f c')) → PE (lamCx X A outer s H E scope f c') body (t E))
    (hdb : (x == ("__debug__" : Str)) = false) (hd : (a == ("__debug__" : Str)) = false) (hcd : (a == ("__classdict__" : Str)) = false) :
    PE X (.Call (.Name x p) [.Lambda prm body scope lpos, .Constant (.str w) j cpos] [] pos) (tLamS T TT t) := by
  refine ⟨fun pins s σ H Q I h => ?_⟩
  obtain ⟨hT, h⟩ := h
  refine wpAny_Call_Name_kw (ld_glob I hg hm ?_ hdb)
  refine PySem.W.callWith_K (h₀ := X.base) I.ok.mod.kin hk ?_ (by rfl) (by rfl)
  refine Calls.spliced_cons (lam_make2 I TB hco hmT hu hT hdf (L.has I.ok) fun f c' pm' ctv G s' J eN T1 of0 nH nS code => ?_)
  refine Calls.spliced_cons (Calls.Constant_str (pos := cpos) (k := j) ?_)
  obtain ⟨z, hz⟩ : ∃ z : Shared, z = { s' with toks := s'.toks + 1 } := ⟨_, rfl⟩
  have J : Inv X pins σ G z := by rw [hz]; exact J.tok (s'.toks + 1)
  replace of0 : z.heap.get? f = some (PySem.W.kla_obj "<lambda>" (X.env.qual ++ "<lambda>") prm body scope (cloFrom X.env.cells scope.names []) pm' c' ctv) := by rw [hz]; exact of0
  refine Calls.spliced_nil ?_
  show X.K.In (Shared.heap { s' with toks := s'.toks + 1 }) ∧ wpAny (model X.prog X.w) X.A _ (EP X pins σ Q) X.xe { s' with toks := s'.toks + 1 }
  rw [← hz]
  refine ⟨J.kIn, ?_⟩
  have run : codeAny (model X.prog X.w) X.A (.call (.ref g) ⟨[.ref f, .str w s'.toks], []⟩) (CR C8.CX0 X.stack X.prog X.w G z Q C8.E0) z := by
    refine run_ofS (N := Ng) (ps := [a, b]) (us := [.ref f, .str w s'.toks]) (vs := [.ref f, .str w]) lk hcg Sg hr J.env0 (hb z [.ref f, .str w s'.toks] J.kIn rfl) (.cons rfl (.cons ⟨_, rfl⟩ .nil)) rfl fun hr2 => ?_
    have act := fun (W : WX) (pn : List (Addr × Obj)) (xe : Value → Shared → Prop) (p1 p2 : Pos) tk => pe_actS (p1 := p1) (p2 := p2) (pn := pn) (xe := xe) (W := W) (i := 0) (tb := t) J L of0 nH nS (hbi _ _ _ _ _) tk hr2 (fun A outer s H E hr3 => hbody A outer s H E f c' hr3) hNg hva hd hcd
    obtain ⟨t2, ht2, hq2⟩ := hG f c' z G Q (fun E H' Q' => t E σ H' Q') act code (h G eN T1 (SzOk.of J.hok))
    exact ⟨t2, ht2.nox, hq2⟩
  refine wpAny_call (codeAny_mono run fun r s2 hq => ?_)
  cases r with
  | error e => exact (show False from hq).elim
  | ok fl => cases fl <;> first | exact J.after hq | exact False.elim hq
def TTt (K : PySem.W.Frag) (CS A B : Addr) (w0 wA wB w : Str) : (XK → Hp → VK → Prop) → Hp → VK → Prop := fun tl H Q =>
  ∀ (E : XK) (Q2 : VK), (∀ (D : Addr) (H' : Hp) (b1 b2 : Bool), ExcC K D → PySem.W.exmOne K (.ref D) (.ref CS) = some true → PySem.W.kitOne K (.ref D) (.ref A) = some b1 → PySem.W.kitOne K (.ref D) (.ref B) = some b2 → (b1 && b2) = false → Q (.bl (decide ((if b1 then wA else if b2 then wB else w0) = w))) H' → E (.ref D) none H') →
    (∀ v H', Q (.bl (decide (w0 = w))) H' → Q2 v H') → tl E H Q2
theorem dec_strV {u w : Str} : decide (V.str u = V.str w) = decide (u = w) := by
  rw [decide_eq_decide]
  constructor
  · intro h; cases h; rfl
  · intro h; rw [h]
theorem text_gives {Ng : List Str} {x a b fn en cn yA yB q w0 wA wB w : Str} {sg : Scope} {g CS A B : Addr} {cdg : Value} {j j1 j2 : Nat} {p1 p2 p3 p4 p5 p6 p7 p20 p21 p22 p23 p24 p25 q0 q1 q2 q3 q4 q5 q6 q7 q8 q9 q10 q11 q12 q13 q14 q15 q16 q17 : Pos} (hNg : Ng = [a, b, fn, en]) (hnd : Ng.Nodup)
    (hbb : lcOk sg b) (hfn : lcOk sg fn) (hen : lcOk sg en) (hcn : nmOk sg cn) (hA : nmOk sg yA) (hB : nmOk sg yB) (hi : nmOk sg "isinstance") (mi : X.mg "isinstance" = none) (mc : X.mg cn = some (.ref CS)) (mA : X.mg yA = some (.ref A)) (mB : X.mg yB = some (.ref B)) (k3 : w0 ++ wB = wB) (k4 : w0.length + wB.length ≤ 1000) :
    GivesT X Ng x sg g cdg [.Assign [.Name fn p1] (.Constant (.str w0) j p2) p3,
      .Try [.Expr (.Call (.Name a p4) [] [] p5) p6] [.ExceptHandler (some (.Name cn p7)) (some en) [.If (.Call (.Name "isinstance" q0) [.Name en q1, .Name yA q2] [] q3) [.Assign [.Name fn q4] (.Constant (.str wA) j1 q5) q6] [] q7,
        .If (.Call (.Name "isinstance" q8) [.Name en q9, .Name yB q10] [] q11) [.Assign [.Name fn q12] (.BinOp (.Name fn q13) .Add (.Constant (.str wB) j2 q14) q15) q16] [] q17] p20] [] [] p21,
      .Return (some (.Compare (.Name fn p22) [.Eq] [.Name b p23] p24)) p25] a q w (TTt X.K CS A B w0 wA wB w) := by
  intro f c' s H Q tl act hc h
  subst hNg
  have s1 := ps_set (X := (cxG X [a, b, fn, en] x sg g cdg s H).nox) (i := 2) (x := fn) (pos := p3) (pos' := p1) hnd rfl (.inl hfn.1) (pe_str (x := w0) (j := j) (pos := p2)) (by rfl) (.inl rfl)
  have s3 := ps_ret (X := (cxG X [a, b, fn, en] x sg g cdg s H).nox) (pos := p25) (pe_cmpR (pos := p24) op_eq (pe_var (pos := p22) (i := 2) (x := fn) rfl (.inl hfn.1) hfn.2.1 hfn.2.2) (pe_var (pos := p23) (i := 1) (x := b) rfl (.inl hbb.1) hbb.2.1 hbb.2.2) rfl)
  have s2 := ps_try_as (X := (cxG X [a, b, fn, en] x sg g cdg s H).nox) (x := cn) (np := p7) (pos' := p20) (pos := p21) (n := en) (i := 3) (c := .ref CS)
    (b₀ := .If (.Call (.Name "isinstance" q0) [.Name en q1, .Name yA q2] [] q3) [.Assign [.Name fn q4] (.Constant (.str wA) j1 q5) q6] [] q7) (suite := [.If (.Call (.Name "isinstance" q8) [.Name en q9, .Name yB q10] [] q11) [.Assign [.Name fn q12] (.BinOp (.Name fn q13) .Add (.Constant (.str wB) j2 q14) q15) q16] [] q17]) (body := [.Expr (.Call (.Name a p4) [] [] p5) p6])
    (tb := fun W D σ H => (σ[0]? = some (some (.ref f)) ∧ σ[1]? = some (some (.str w)) ∧ σ[2]? = some (some (.str w0)) ∧ σ.length = 4) ∧ H c' = some (CodeO c' q) ∧ tl (WE W σ) H (fun _ H' => D.nx σ H'))
    (ts := fun ad cls d D σ H => ∃ (Dd : Addr) (b1 b2 : Bool), cls = .ref Dd ∧ d = none ∧ ExcC X.K Dd ∧ PySem.W.kitOne X.K (.ref Dd) (.ref A) = some b1 ∧ PySem.W.kitOne X.K (.ref Dd) (.ref B) = some b2 ∧ (b1 && b2) = false ∧ σ.length = 4 ∧ σ[3]? = some (some (.ref ad)) ∧ σ[2]? = some (some (.str w0)) ∧ D.nx (σ.set 2 (some (.str (if b1 then wA else if b2 then wB else w0)))) H)
    rfl rfl hnd rfl hen.1 ⟨hcn.1, hcn.2, .inl mc⟩ LamX.takes0 (fun W pn xe tk _ => ?_) (fun ad oe cls d pn hz hf => ?_)
  · refine ⟨_, pss_cons s1 (pss_cons s2 (pss_one s3)), ?_⟩
    have fin : ∀ (u : Str) (H' : Hp) (σ2 : L2.St), σ2[2]? = some (some (.str u)) → σ2[1]? = some (some (.str w)) → Q (.bl (decide (u = w))) H' → tOp rEq (tVar 2) (tVar 1) σ2 H' Q := fun u H' σ2 h2 h1 q => ⟨_, h2, _, h1, rfl, by rw [dec_strV]; exact q⟩
    refine ⟨⟨rfl, rfl, rfl, rfl⟩, hc, h _ _ (fun D H' b1 b2 hC hx hk1 hk2 hn q2 => ?_) fun v H' q2 => fin w0 H' _ rfl rfl q2⟩
    refine ⟨true, hx, fun _ a' ha' => ⟨D, b1, b2, rfl, rfl, hC, hk1, hk2, hn, rfl, rfl, rfl, fin _ H' _ rfl rfl q2⟩, fun z => by cases z⟩
  · refine ⟨fun pins s' σ H' D I h' => ?_⟩
    have e := pss_one (ps_expr (pos := p6) (act W pn xe p4 p5 tk) (by rfl))
    exact e.run pins s' σ H' D I ⟨h'.1.1, h'.2⟩
  · refine ⟨fun pins s' σ H' D I h' => ?_⟩
    obtain ⟨Dd, b1, b2, rfl, rfl, hC, hk1, hk2, hn, l4, h3, h2, hD⟩ := h'
    have i1 := pe_isx (X := (cxG X [a, b, fn, en] x sg g cdg s H).nox) (a := ad) (pn := pn) (i := 3) (n := en) (y := yA) (p := q0) (p1 := q1) (p2 := q2) (pos := q3) hC hz hf hi.1 mi rfl (.inl hen.1) hA.1 mA hk1 hen.2.1 hen.2.2 hA.2
    have i2 := pe_isx (X := (cxG X [a, b, fn, en] x sg g cdg s H).nox) (a := ad) (pn := pn) (i := 3) (n := en) (y := yB) (p := q8) (p1 := q9) (p2 := q10) (pos := q11) hC hz hf hi.1 mi rfl (.inl hen.1) hB.1 mB hk2 hen.2.1 hen.2.2 hB.2
    have a1 := ps_set (X := (cxG X [a, b, fn, en] x sg g cdg s H).nox.suite ad ((ad, oe) :: pn)) (i := 2) (x := fn) (pos := q6) (pos' := q4) hnd rfl (.inl hfn.1) (pe_str (x := wA) (j := j1) (pos := q5)) (by rfl) (.inl rfl)
    have a2 := ps_set (X := (cxG X [a, b, fn, en] x sg g cdg s H).nox.suite ad ((ad, oe) :: pn)) (i := 2) (x := fn) (pos := q16) (pos' := q12) hnd rfl (.inl hfn.1) (pe_op (pos := q15) op_add_str (pe_var (pos := q13) (i := 2) (x := fn) rfl (.inl hfn.1) hfn.2.1 hfn.2.2) (pe_str (x := wB) (j := j2) (pos := q14))) (by rfl) (.inl rfl)
    have e := pss_cons (ps_if (pos := q7) (pt_val i1 (isTrue_of rfl _)) (pss_one a1) pss_nil) (pss_one (ps_if (pos := q17) (pt_val i2 (isTrue_of rfl _)) (pss_one a2) pss_nil))
    refine e.run pins s' σ H' D I ?_
    refine ⟨h3, b1, rfl, ?_⟩
    have st3 : ∀ v : V, (σ.set 2 (some v))[3]? = some (some (.ref ad)) := fun v => by rw [List.getElem?_set_ne (by decide)]; exact h3
    have same : σ.set 2 (some (.str w0)) = σ := by
      refine List.ext_getElem? fun i => ?_
      by_cases z : i = 2
      · subst z; rw [List.getElem?_set_self (by omega), h2]
      · rw [List.getElem?_set_ne (Ne.symm z)]
    cases b1 with
    | true =>
      have z : b2 = false := by simpa using hn
      subst z
      refine ⟨st3 _, false, rfl, ?_⟩
      exact hD
    | false =>
      refine ⟨h3, b2, rfl, ?_⟩
      cases b2 with
      | true =>
        refine ⟨_, h2, w0, wB, rfl, rfl, by rw [sizeLine_eq]; omega, ?_⟩
        rw [k3]
        exact hD
      | false =>
        have hD2 : D.nx (σ.set 2 (some (.str w0))) H' := hD
        rw [same] at hD2
        exact hD2
end
end Mi
namespace Mi
open PySem PySem.Spec L2 LamX
open PyProof.Rows (envOfC)
theorem clo_nil {cells : List (Str × Addr)} : ∀ {l : List (Str × NameKind)} {acc : List (Str × Addr)}, (∀ y ∈ l, y.2 ≠ .free) → cloFrom cells l acc = acc
  | [], acc, _ => rfl
  | (x, k) :: l, acc, h => by
    have h2 := h (x, k) (.head _)
    have h3 : ∀ y ∈ l, y.2 ≠ .free := fun y hy => h y (.tail _ hy)
    cases k <;> first | exact absurd rfl h2 | exact (show cloFrom cells l acc = acc from clo_nil h3)
theorem lmo_ok {P : Program} {w : World} {G : Hp} {h : Heap} {q : Str} {prm : Arguments} {body : Expr} {scope : Scope} {c f : Addr} {pm ctv : Value} (e : h.get? f = some (PySem.W.kla_obj "<lambda>" q prm body scope [] pm c ctv)) : ObjOk P w G h f (LmO q prm body scope c f) :=
  ⟨⟨pm, ctv, e⟩, ⟨_, e⟩, fun h1 h2 ⟨pm, ctv, z⟩ st => ⟨pm, ctv, st _ z⟩⟩
section
variable {X : Cx} {pins : List (Addr × Obj)} {σ : L2.St} {H : Hp} {s : Shared}
theorem lam_makeV {T : List (Addr × Str)} {c P : Addr} {prm : Arguments} {body : Expr} {scope : Scope} {pos : Pos} {E Q : Value → Shared → Prop} (I : Inv X pins σ H s) (TB : TabB X.base X.mg c P) (hco : X.env.code = .ref c)
    (hmT : (P, X.env.qual ++ "<lambda>") ∈ T) (hu : ∀ p ∈ T, p.1 = P → p.2 = X.env.qual ++ "<lambda>") (hT : Tabs T H) (hdf : defaultsOf prm X.env = ([], [])) (hfr : ∀ y ∈ scope.names, y.2 ≠ .free)
    (h : ∀ (f c' : Addr) (G : Hp) (s' : Shared), Inv X pins σ (upd G f (LmO (X.env.qual ++ "<lambda>") prm body scope c' f)) s' → ExtN H G → Tabs T G → G f = none → G c' = some (CodeO c' (X.env.qual ++ "<lambda>")) → Q (.ref f) s') :
    wpAny (model X.prog X.w) X.A (eval (.Lambda prm body scope pos) X.env) Q E s := by
  obtain ⟨ps, hP, ht, ha⟩ := hT _ hmT
  have ec : cloFrom X.env.cells scope.names [] = [] := clo_nil hfr
  have cl := closure_ok (scope := scope) (env := X.env) fun y hy e => absurd e (hfr y hy)
  rw [ec] at cl
  refine PySem.W.kla_eval hdf ?_
  have oP : s.heap.get? P = some { cls := .none, data := .fields ps } := I.hok P _ hP
  cases hc : codeAmong pos ps.toList with
  | some cv =>
    obtain ⟨c', rfl, hcc⟩ := ha pos cv hc
    refine PySem.W.kla_makeFunctionHit (mg := X.mg) (c := c) (P := P) (ps := ps) cl I.ok.glob (I.mod.glob.keeps I.bk) hco (TB.code.keeps I.bk) oP ht hc (TB.bm.keeps I.bk) fun ctv h' tk hx hz => ?_
    have J := I.laid (t' := tk) (h' := h'.push (PySem.W.kla_obj "<lambda>" (X.env.qual ++ "<lambda>") prm body scope [] ((X.mg "__name__").getD .none) c' ctv)) (fun b o e => Heap.get?_push_of_some _ (hx b o e)) hz (lmo_ok (Heap.get?_push_size _ rfl))
    exact h _ c' H _ J (ExtN.refl H) hT (I.hok.fresh hz) hcc
  | none =>
    refine PySem.W.kla_makeFunction (mg := X.mg) (c := c) (P := P) (ps := ps) cl I.ok.glob (I.mod.glob.keeps I.bk) hco (TB.code.keeps I.bk) oP ht hc TB.gP (TB.bm.keeps I.bk) fun c' ctv h' tk hx hge hlt hrec htb => ?_
    obtain ⟨c2, oc, vs, t, e2, hoc, hd, hv⟩ := hrec
    cases e2
    have nC : H c' = none := I.hok.fresh hge
    have I1 := inv_table (t' := tk) (more := #[rawInt pos.line, rawInt pos.col, .ref c']) (h' := h') I hP (fun b o hb e => hx b o hb e) htb hge ⟨oc, vs, t, hoc, hd, hv⟩
    have J := I1.laid (t' := tk) (h' := h'.push (PySem.W.kla_obj "<lambda>" (X.env.qual ++ "<lambda>") prm body scope [] ((X.mg "__name__").getD .none) c' ctv)) (fun b o e => Heap.get?_push_of_some _ e) (Nat.le_refl _) (lmo_ok (Heap.get?_push_size _ rfl))
    have eN : ExtN H (upd (upd H P (.tbl (ps ++ #[rawInt pos.line, rawInt pos.col, .ref c']))) c' (CodeO c' (X.env.qual ++ "<lambda>"))) := fun b o e n => by
      have z1 : b ≠ c' := ne_of_none e nC
      have z2 : b ≠ P := fun z => by rw [z] at e; exact n ps (Option.some.inj (e.symm.trans hP))
      rw [upd_ne z1, upd_ne z2]
      exact e
    have eL : (ps ++ #[rawInt pos.line, rawInt pos.col, .ref c']).toList = ps.toList ++ [rawInt pos.line, rawInt pos.col, .ref c'] := by simp
    refine h _ c' _ _ J eN (fun p hp => ?_) (I1.hok.fresh (Nat.le_refl _)) upd_same
    by_cases hb : p.1 = P
    · have q2 := hu p hp hb
      refine ⟨_, by rw [hb, upd_ne (ne_of_none hP nC), upd_same], by rw [eL]; exact PySem.TriplesOk_snoc _ _ _ _ ht, fun p' cv z => ?_⟩
      rw [eL] at z
      rcases among_app _ ht z with z | z
      · obtain ⟨c0, e1, e2⟩ := ha p' cv z
        exact ⟨c0, e1, by rw [q2]; exact eN _ _ e2 codeO_ne⟩
      · exact ⟨c', z, by rw [q2, upd_same]⟩
    · obtain ⟨ps', a1, a2, a3⟩ := hT p hp
      refine ⟨ps', by rw [upd_ne (ne_of_none a1 nC), upd_ne hb]; exact a1, a2, fun p' cv z => ?_⟩
      obtain ⟨c0, e1, e2⟩ := a3 p' cv z
      exact ⟨c0, e1, eN _ _ e2 codeO_ne⟩
def tLamV (T : List (Addr × Str)) (q : Str) (prm : Arguments) (body : Expr) (scope : Scope) : TE := fun σ H Q => Tabs T H ∧ ∀ (f c' : Addr) (G : Hp), ExtN H G → Tabs T G → SzOk G → G f = none → G c' = some (CodeO c' q) → Q (.ref f) (upd G f (LmO q prm body scope c' f))
theorem pe_lamV {T : List (Addr × Str)} {c P : Addr} {prm : Arguments} {body : Expr} {scope : Scope} {pos : Pos} (TB : TabB X.base X.mg c P) (hco : X.env.code = .ref c) (hmT : (P, X.env.qual ++ "<lambda>") ∈ T) (hu : ∀ p ∈ T, p.1 = P → p.2 = X.env.qual ++ "<lambda>") (hdf : defaultsOf prm X.env = ([], [])) (hfr : ∀ y ∈ scope.names, y.2 ≠ .free) :
    PE X (.Lambda prm body scope pos) (tLamV T (X.env.qual ++ "<lambda>") prm body scope) := by
  refine ⟨fun pins s σ H Q I ⟨hT, h⟩ => lam_makeV I TB hco hmT hu hT hdf hfr fun f c' G s' J eN TG hf hc => ?_⟩
  have sz := SzOk.of J.hok
  have up : ∀ b o, G b = some o → upd G f (LmO (X.env.qual ++ "<lambda>") prm body scope c' f) b = some o := fun b o e => by
    rw [upd_ne (ne_of_none e hf)]; exact e
  exact ⟨.ref f, _, J, rfl, h f c' G eN TG ⟨fun a vs e => sz.1 a vs (up a _ e), fun a vs e => sz.2 a vs (up a _ e)⟩ hf hc⟩
variable {k : Nat} {x : Str} {p pos : Pos} {e : Expr} {es : List Expr}
theorem cx_no {P : Program} {w : World} {outer : List PySem.Env} {H : Hp} {s : Shared} {u : Value} {s2 : Shared} (h : L2.CX P w outer H s (fun _ _ _ => False) u s2) : False := by
  obtain ⟨_, _, _, _, _, _, _, _, _, _, _, _, z⟩ := h
  exact z
def tCallL (X : Cx) (r : Rx) (k i : Nat) (t : TA) : TE := fun σ H Q => ∃ (a c : Addr) (q : Str) (prm : Arguments) (body : Expr) (scope : Scope) (f : Nat) (Φ : List D → M D), σ[i]? = some (some (.ref a)) ∧ LamFn X.prog X.w X.K X.mg X.base k r f Φ ∧ r.lam f q prm body scope ∧ H a = some (LmO q prm body scope c a) ∧
  t σ H fun vs H1 => H1 a = some (LmO q prm body scope c a) ∧ H1 c = some (CodeO c q) ∧ spF r 1 (fun ds => noX (Φ ds)) vs H1 Q (fun _ _ _ => False)
theorem fn_at {P : Program} {w : World} {G : Hp} {h : Heap} {q : Str} {prm : Arguments} {body : Expr} {scope : Scope} {c a : Addr} (k : HOk P w G h) (e : G a = some (LmO q prm body scope c a)) : PySem.W.FnAt a h := by
  obtain ⟨⟨pm, ctv, z⟩, _, _⟩ := k a _ e
  exact ⟨_, _, _, _, z⟩
theorem pe_callL {r : Rx} {i : Nat} {t : TA} (hr : Room k X.A) (hN : X.N[i]? = some x) (hv : Vis X.env.scope x) (ha : PA X (e :: es) t) (hdb : (x == ("__debug__" : Str)) = false) (hcd : (x == ("__classdict__" : Str)) = false)
    (he : starEach (e :: es) X.env = (false, eval e X.env) :: starEach es X.env) (hpl : (backTo pos (starEach es X.env)).any (·.1) = false) : PE X (.Call (.Name x p) (e :: es) [] pos) (tCallL X r k i t) := by
  refine ⟨fun pins s σ H Q I h => ?_⟩
  obtain ⟨a, c, q, prm, body, scope, f, Φ, hs, F, hl, hH, ht⟩ := h
  refine wpAny_Call_Name_kw (thn ((pe_var (pos := p) hN hv hdb hcd).run pins s σ H (fun v H1 => v = .ref a ∧ H1 = H) I ⟨.ref a, hs, rfl, rfl⟩) fun u s1 ⟨v, H1, I1, r1, q1⟩ => ?_)
  obtain ⟨rfl, rfl⟩ := q1
  cases r1
  refine PySem.W.callWith_F (fn_at I1.hok hH) (thn (ha.run pos pins s1 σ _ _ I1 ht) fun us s2 ⟨vs, H2, I2, rv, hq⟩ => ⟨fn_at I2.hok hq.1, ?_⟩) he hpl
  refine wpAny_call (codeAny_mono (F X.A X.stack s2 H2 a c q prm body scope us vs Q hl hr I2.env0 hq.1 hq.2.1 rv hq.2.2) fun o s3 ho => ?_)
  cases o with
  | error z => exact (cx_no (show L2.CX X.prog X.w X.stack H2 s2 (fun _ _ _ => False) z s3 from ho)).elim
  | ok fl => cases fl <;> first | exact I2.after ho | exact False.elim ho
theorem pe_or2 {e : Expr} {t1 t2 : TE} (h1 : PE X e t1) (h2 : PE X e t2) : PE X e fun σ H Q => t1 σ H Q ∨ t2 σ H Q := ⟨fun pins s σ H Q I h => h.elim (h1.run pins s σ H Q I) (h2.run pins s σ H Q I)⟩
end
theorem run_lamV {P : Program} {w : World} {K : PySem.W.Frag} {mg : Str → Option Value} {base : Heap} {k : Nat} {q : Str} {prm : Arguments} {body : Expr} {scope : Scope} {c f : Addr} {N ps : List Str} {A : Around} {outer : List PySem.Env} {s : Shared} {H : Hp} {us : List Value} {vs : List V} {Q : VK} {E : XK} {t : TE}
    (S : FnScope N ps scope) (hr : Room (k + 1) A) (e0 : Env0 P w K mg base A outer s H) (hf : H f = some (LmO q prm body scope c f)) (hc : H c = some (CodeO c q)) (hb : ∀ pm ctv : Value, bindArgs (PySem.W.kla_fn "<lambda>" q prm body scope [] pm (.ref c) ctv) ⟨us, []⟩ = pure (ps.zip us)) (rv : Vals vs us) (hl : vs.length = ps.length)
    (hbody : Room k (A.deeper (envOfC q scope s.heap.objs.size f (.ref c))) → PE (cxOf (L2.CX P w) P w K mg base N q scope f (.ref c) A outer s H E) body t) (ht : t (L2.start N vs) H Q) :
    codeAny (model P w) A (.call (.ref f) ⟨us, []⟩) (CR (L2.CX P w) outer P w H s Q E) s := by
  obtain ⟨⟨pm, ctv, of⟩, _, _⟩ := e0.hok f _ hf
  obtain ⟨⟨oc, ws, tk, k1, k2, k3⟩, _, _⟩ := e0.hok c _ hc
  have lim : s.heap.NoLimit := e0.mod.nolimit.keeps fun b o e => (e0.bs b o e).1
  have kinds : ∀ y ∈ ps.zip us, scope.names.lookup y.1 = some .local ∨ (scope.names.lookup y.1 = some .cell ∧ ((cellsFrom (s.heap.objs.size + 1) scope.names []).lookup y.1).isSome = true) := fun ⟨n, v⟩ hy => by
    rcases S.par n (List.of_mem_zip hy).1 with z | z
    · exact .inl z
    · exact .inr ⟨z, PySem.W.cellsFrom_some _ _ _ (.inl z)⟩
  refine PySem.W.kla_callFunE hr.depth of rfl S.co S.gen rfl ⟨c, oc, ws, tk, rfl, k1, k2, k3⟩ ?_
  rw [hb pm ctv]
  refine wpAny_pure (wpAny_newFunctionEnv_cells S.kind kinds fun env he s1 x => ?_)
  subst he
  refine ⟨lim.keeps x.toInCall.keep, ?_⟩
  have I : Inv (cxOf (L2.CX P w) P w K mg base N q scope f (.ref c) A outer s H E) [] (L2.start N vs) H s1 := inv_start S hr.hd e0 hl rv x
  refine PySem.W.kla_codeExpr (wpAny_mono ((hbody (hr.deeper _)).run [] s1 (L2.start N vs) H Q I ht) (fun u s2 z => ?_) fun u s2 z => z)
  obtain ⟨v, H2, J, rv2, q2⟩ := z
  exact ⟨v, H2, J.os, J.bare, J.base, J.hok, rv2, q2⟩
end Mi
namespace Mi
open PySem L2
section
variable {X : Cx} {r : Rx} {C : Cf} {W : WX} {tx : Tx} {k : Nat} {ck : Ck} {i : E} {e : Expr} {es : List Expr} {is : Es}
theorem Good.ext {α : Type} {xs ms ms' : List Addr} {H H' : Hp} {q : R α} {ok : α → Store → List Addr → Hp → Prop} {ex : Nat → Store → List Addr → Hp → Prop} (x : Ext ms H ms' H') (h : Good r xs ms H q ok ex) : Good r xs ms' H' q ok ex := by
  cases q with
  | stuck => exact h
  | ok a S => exact fun ms2 H2 x2 s2 => h ms2 H2 (x.trans x2) s2
  | exc c S => exact fun ms2 H2 x2 s2 => h ms2 H2 (x.trans x2) s2
theorem Good.ns {α : Type} {xs ms : List Addr} {H : Hp} {q : R α} {ok : α → Store → List Addr → Hp → Prop} {ex : Nat → Store → List Addr → Hp → Prop} (h : Good r xs ms H q ok ex) : q ≠ .stuck := fun z => by subst z; exact h

section
variable {ms xs : List Addr} {H : Hp} {S : Store} {Q : VK} {n : Nat} {p : Addr} {ds ds' : List D} {vs vs' : List V} {d : D} {v : V}
theorem put_list (s : Sim r ms xs H S) (hm : ms[n]? = some p) (hr : RelDs r ms xs H ds' vs') (hz : vs'.length ≤ sizeLine) (rv : RelD r ms xs H d v) (g : VG r xs ms H (.ok d (S.set n (.lst ds'))) Q) : Q v (upd H p (.lst vs')) := by
  have x : Ext ms H ms (upd H p (.lst vs')) := Ext.put hm
  exact g ms _ x (s.put hm ⟨vs', rfl, hr.mono x⟩ (fun us z => by cases z; exact hz) (fun us z => by cases z)) v (rv.mono x)
theorem onL_inv {f : List D → Option (D × List D)} (s : Sim r ms xs H S) (rx : RelD r ms xs H (.ref n) (.ref p)) (g : VG r xs ms H (onL n f S) Q) :
    ∃ ds vs d ds', ms[n]? = some p ∧ H p = some (.lst vs) ∧ RelDs r ms xs H ds vs ∧ f ds = some (d, ds') ∧ VG r xs ms H (.ok d (S.set n (.lst ds'))) Q := by
  unfold onL at g
  simp only [RelD] at rx
  obtain ⟨a, ha, e⟩ := rx
  cases e
  split at g
  · rename_i ds hn
    split at g
    · rename_i d ds' hf
      obtain ⟨vs, hv, q⟩ := s.obj _ _ _ hn ha
      exact ⟨ds, vs, d, ds', ha, hv, q, hf, g⟩
    · exact (VG.no g).elim
  · exact (VG.no g).elim
end
theorem pe_lm0 {p : Op} {o : E} {x : Expr} {name : Str} {id : String} {apos q : Pos} {rr : V → List V → Hp → VK → Prop} (slot : Slot "list" name id) (hty : typeOf (.builtin id) = pure (.type "method_descriptor")) (hm : MtR X id rr) (ho : PE X x (tE r C W o)) (hb : baseOk x = true) (hl : (apos.endLine == q.line) = true)
    (hv : ∀ ms xs H S Q n a, Sim r ms xs H S → RelD r ms xs H (.ref n) (.ref a) → VG r xs ms H (opD C.pr p [.ref n] S) Q → rr (.ref a) [] H Q) : PE X (.Call (.Attribute x name apos) [] [] q) (tE r C W (.lm p o .nil)) := by
  refine PE.imp (pe_bm0 PySem.F.plainAttrs_list slot hty hm ho (base_of hb) hl) fun σ H Q q => ?_
  obtain ⟨ms, xs, S, ρ, s, e, g⟩ := q
  simp only [evE] at g
  refine tE_of s e g fun d v S1 m1 H1 x1 s1 e1 q1 g1 => ?_
  cases d <;> first | exact (show False from g1).elim | skip
  rename_i n
  have q2 := q1
  simp only [RelD] at q2
  obtain ⟨a, ha, rfl⟩ := q2
  dsimp only at g1
  split at g1
  · rename_i ds hn
    obtain ⟨vs, hv', _⟩ := s1.obj _ _ _ hn ha
    simp only [evEs, bnd_ret] at g1
    exact ⟨.inl ⟨rfl, vs, .of hv'⟩, hv m1 xs H1 S1 Q n a s1 q1 (Good.mono g1 (fun _ _ _ _ _ _ z => z) fun _ _ _ _ _ _ _ => True.intro)⟩
  · exact (show False from g1).elim
theorem fewB_of {cpos : Pos} {env : PySem.Env} {es : List Expr} (h : es.all noStar = true) (hl : es.length < 20) : ((backTo cpos (starEach es env)).all (fun x => !x.1) && (backToKw cpos (keywordEach [] env)).all (fun x => x.1.isSome) && decide (es.length + ([] : List Keyword).length + (if ([] : List Keyword).isEmpty then 0 else 1) < 30)) = true := few_of (cpos := cpos) (env := env) h hl
theorem pe_lm1 {p : Op} {o : E} {x y : Expr} {ys : List Expr} {name : Str} {id : String} {apos q : Pos} {rr : V → List V → Hp → VK → Prop} (slot : Slot "list" name id) (hty : typeOf (.builtin id) = pure (.type "method_descriptor")) (hm : MtR X id rr) (ho : PE X x (tE r C W o)) (hb : baseOk x = true) (hl : (apos.endLine == q.line) = true)
    (a : AllE X r C W is (y :: ys)) (hlen : (y :: ys).length < 20)
    (hv : ∀ ms xs H S Q n a ds vs, Sim r ms xs H S → RelD r ms xs H (.ref n) (.ref a) → RelDs r ms xs H ds vs → VG r xs ms H (opD C.pr p (.ref n :: ds) S) Q → rr (.ref a) vs H Q) : PE X (.Call (.Attribute x name apos) (y :: ys) [] q) (tE r C W (.lm p o is)) := by
  have st := a.star
  have st' := st
  simp only [List.all_cons, Bool.and_eq_true] at st
  refine PE.imp (pe_bm PySem.F.plainAttrs_list slot hty hm ho (pa_all a) (base_of hb) (fewB_of st' hlen) hl (star_of st.1) (noStars st.2)) fun σ H Q q => ?_
  obtain ⟨ms, xs, S, ρ, s, e, g⟩ := q
  simp only [evE] at g
  refine tE_of s e g fun d v S1 m1 H1 x1 s1 e1 q1 g1 => ?_
  cases d <;> first | exact (show False from g1).elim | skip
  rename_i n
  have q2 := q1
  simp only [RelD] at q2
  obtain ⟨a, ha, rfl⟩ := q2
  dsimp only at g1
  split at g1
  · rename_i ds hn
    obtain ⟨vs, hv', _⟩ := s1.obj _ _ _ hn ha
    refine ⟨.inl ⟨rfl, vs, .of hv'⟩, tEs_of s1 e1 g1 fun ds vs S2 m2 H2 x2 s2 e2 r2 g2 => ?_⟩
    exact hv m2 xs H2 S2 Q n a ds vs s2 (q1.mono x2) r2 (Good.mono g2 (fun _ _ _ _ _ _ z => z) fun _ _ _ _ _ _ _ => True.intro)
  · exact (show False from g1).elim
theorem RelDs.dropLast {ms xs : List Addr} {H : Hp} {ds : List D} {vs : List V} (h : RelDs r ms xs H ds vs) : RelDs r ms xs H ds.dropLast vs.dropLast := by
  rw [List.dropLast_eq_take, List.dropLast_eq_take, h.length]
  exact h.take _
theorem pe_lq1 {p : Op} {o : E} {x y : Expr} {name : Str} {id : String} {apos q : Pos} {rr : V → List V → Hp → VK → Prop} (slot : Slot "list" name id) (hty : typeOf (.builtin id) = pure (.type "method_descriptor")) (hm : MtR X id rr) (ho : PE X x (tE r C W o)) (hb : baseOk x = true) (hl : (apos.endLine == q.line) = true)
    (a : AllE X r C W is [y])
    (hv : ∀ ms xs H S Q d v ds vs, Sim r ms xs H S → RelD r ms xs H d v → RelDs r ms xs H ds vs → VG r xs ms H (opD C.pr p (d :: ds) S) Q → rr v vs H Q) : PE X (.Call (.Attribute x name apos) [y] [] q) (tE r C W (.lq p o is)) := by
  have st := a.star
  have st' := st
  simp only [List.all_cons, Bool.and_eq_true] at st
  refine PE.imp (pe_bm PySem.F.plainAttrs_list slot hty hm ho (pa_all a) (base_of hb) (fewB_of st' (by simp)) hl (star_of st.1) (noStars st.2)) fun σ H Q q => ?_
  obtain ⟨ms, xs, S, ρ, s, e, g⟩ := q
  simp only [evE] at g
  refine tE_of s e g fun d v S1 m1 H1 x1 s1 e1 q1 g1 => ?_
  split at g1
  · rename_i zs hn
    obtain ⟨b, vs, rfl, hb', _⟩ := asL_rel s1 q1 hn
    refine ⟨.inl ⟨rfl, vs, .of hb'⟩, tEs_of s1 e1 g1 fun ds vs S2 m2 H2 x2 s2 e2 r2 g2 => ?_⟩
    exact hv m2 xs H2 S2 Q d _ ds vs s2 (q1.mono x2) r2 (Good.mono g2 (fun _ _ _ _ _ _ z => z) fun _ _ _ _ _ _ _ => True.intro)
  · exact (show False from g1).elim
theorem first_some {α : Type} {p : α → Bool} : ∀ {l : List α} {j : Nat}, firstN p l = some j → ∃ z, l[j]? = some z ∧ p z = true ∧ ∀ m z', m < j → l[m]? = some z' → p z' = false
  | [], j, h => by cases h
  | x :: l, j, h => by
    unfold firstN at h
    split at h
    · rename_i q
      cases h
      exact ⟨x, rfl, q, fun m z' hm => absurd hm (Nat.not_lt_zero _)⟩
    · rename_i q
      cases e : firstN p l with
      | none => rw [e] at h; cases h
      | some i =>
        rw [e] at h
        cases h
        obtain ⟨z, h1, h2, h3⟩ := first_some e
        refine ⟨z, h1, h2, fun m z' hm hz => ?_⟩
        cases m with
        | zero => cases hz; simpa using q
        | succ m =>
          have hm : m + 1 < i + 1 := hm
          exact h3 m z' (by omega) hz
theorem pyofs_at {tt : List Str} : ∀ {ds : List D} {pds : List PyData}, PyOfs tt ds pds → (∀ (j : Nat) (z : D), ds[j]? = some z → ∃ zd, pds[j]? = some zd ∧ PyOf tt z zd) ∧ ∀ (j : Nat) (zd : PyData), pds[j]? = some zd → ∃ z, ds[j]? = some z ∧ PyOf tt z zd
  | [], pds, q => by
    simp only [PyOfs] at q
    subst q
    exact ⟨fun j z h => (by simp at h), fun j z h => (by simp at h)⟩
  | x :: xs, pds, q => by
    simp only [PyOfs] at q
    obtain ⟨p, ps, rfl, q1, q2⟩ := q
    obtain ⟨a, b⟩ := pyofs_at q2
    refine ⟨fun j z h => ?_, fun j z h => ?_⟩
    · cases j with
      | zero => cases h; exact ⟨p, rfl, q1⟩
      | succ j => exact a j z h
    · cases j with
      | zero => cases h; exact ⟨x, rfl, q1⟩
      | succ j => exact b j z h
theorem so_lq {tx : Tx} {k : Nat} {p : Op} {o : E} {x y : Expr} {u q : Pos} (cx : Cxt X r C tx k) (ho : PE X x (tE r C W o)) (hb : baseOk x = true) (hl : (u.endLine == q.line) = true) (a : AllE X r C W is [y]) (hp : p = .index ∨ p = .count) : PE X (.Call (.Attribute x (lmN p) u) [y] [] q) (tE r C W (.lq p o is)) := by
  rcases hp with rfl | rfl
  · have hu : X.A.units + 65 < cLine := by have := cx.room.un; omega
    refine pe_lq1 PySem.F.slot_list_index PySem.F.type_list_index (mt_indexD hu) ho hb hl a fun ms xs H S Q d v ds vs s rx rs g => ?_
    match ds, rs, g with
    | [d2], rs, g =>
      obtain ⟨w, rfl, rw_⟩ := rs.one_inv
      simp only [opD] at g
      split at g
      · rename_i zs qd h1 h2
        split at g
        · rename_i ps h3
          split at g
          · rename_i j hj
            obtain ⟨b, ws, rfl, hb', qz⟩ := asL_rel s rx h1
            have tok : r.txts.all PyData.strOk = true := by rw [cx.txts]; exact cx.tok
            obtain ⟨pd, R1⟩ := read_of s tok _ _ _ _ rw_ h2
            obtain ⟨qs, R2⟩ := reads_of _ deep (read_of s tok deep) qz h3
            obtain ⟨z, z1, z2, z3⟩ := first_some hj
            have ndt : r.txts.Nodup := by rw [cx.txts]; exact cx.tnd.1
            have at_ := pyofs_at R2.of
            obtain ⟨zd, e1, e2⟩ := at_.1 j z z1
            refine ⟨b, w, pd, qs, j, zd, rfl, rfl, cx.kk ▸ .lst (.of hb') R2.dp, cx.kk ▸ R1.dp, ?_, R1.shaped (by decide), e1, by rw [eqv_eqP ndt e2 R1.of]; exact z2, fun m z' hm hz' => ?_, VG.val g s .of_int⟩
            · unfold SeqAt.shaped
              rw [Bool.and_eq_true, decide_eq_true_eq]
              refine ⟨by simp only [PyData.canLay0]; exact R2.lay, ?_⟩
              simp only [PyData.depth]
              have := R2.depth
              unfold deep at this
              omega
            · obtain ⟨y', e3, e4⟩ := at_.2 m z' hz'
              rw [eqv_eqP ndt e4 R1.of]
              exact z3 m y' hm e3
          · exact (VG.no g).elim
        · exact (VG.no g).elim
      · exact (VG.no g).elim
    | [], _, g => exact (VG.no g).elim
    | _ :: _ :: _, _, g => exact (VG.no g).elim
  · refine pe_lq1 PySem.F.slot_list_count PySem.F.type_list_count mt_lcount ho hb hl a fun ms xs H S Q d v ds vs s rx rs g => ?_
    match ds, rs, g with
    | [d2], rs, g =>
      obtain ⟨w, rfl, rw_⟩ := rs.one_inv
      simp only [opD] at g
      split at g
      · rename_i ns k h1
        obtain ⟨zs, h2, h3⟩ := bi_bind h1
        obtain ⟨b, ws, rfl, hb', qz⟩ := asL_rel s rx h2
        have := ints_rel qz h3; subst this
        rw [rw_.int_eq]
        exact ⟨b, ns, k, rfl, rfl, .of hb', VG.val g s .of_int⟩
      · exact (VG.no g).elim
    | [], _, g => exact (VG.no g).elim
    | _ :: _ :: _, _, g => exact (VG.no g).elim
theorem so_lm {p : Op} {o : E} {x : Expr} {xs : List Expr} {u q : Pos} (ho : PE X x (tE r C W o)) (hb : baseOk x = true) (hl : (u.endLine == q.line) = true) (a : AllE X r C W is xs) (hlen : xs.length < 20)
    (hp : xs.length = lmA p) : PE X (.Call (.Attribute x (lmN p) u) xs [] q) (tE r C W (.lm p o is)) := by
  cases p <;> first | (simp only [lmA] at hp; omega) | skip
  · -- append
    cases xs with
    | nil => cases hp
    | cons y ys =>
      refine pe_lm1 PySem.F.slot_list_append PySem.F.type_list_append mt_append ho hb hl a hlen fun ms xs H S Q n b ds vs s rx rs g => ?_
      match ds, rs, g with
      | [d], rs, g =>
        obtain ⟨v, rfl, rv⟩ := rs.one_inv
        simp only [opD] at g
        obtain ⟨ds, us, d', ds', h1, h2, h3, h4, h5⟩ := onL_inv s rx g
        split at h4
        · rename_i hz
          cases h4
          have hz' : us.length + 1 ≤ sizeLine := by rw [h3.length]; exact sz_of (by unfold line at hz; omega)
          exact ⟨b, us, v, rfl, rfl, h2, hz', put_list s h1 (h3.append (.one rv)) (by simpa using hz') .of_non h5⟩
        · cases h4
      | [], _, g => exact (VG.no g).elim
      | _ :: _ :: _, _, g => exact (VG.no g).elim
  · -- extend
    cases xs with
    | nil => cases hp
    | cons y ys =>
      refine pe_lm1 PySem.F.slot_list_extend PySem.F.type_list_extend mt_extend ho hb hl a hlen fun ms xs H S Q n b ds vs s rx rs g => ?_
      match ds, rs, g with
      | [d], rs, g =>
        obtain ⟨v, rfl, rv⟩ := rs.one_inv
        simp only [opD] at g
        split at g
        · rename_i zs hz0
          split at g
          · exact (VG.no g).elim
          · obtain ⟨c, ws, rfl, hc, qz⟩ := asL_rel s rv hz0
            obtain ⟨ds, us, d', ds', h1, h2, h3, h4, h5⟩ := onL_inv s rx g
            split at h4
            · rename_i hz
              cases h4
              have hz' : us.length + ws.length ≤ sizeLine := by rw [h3.length, qz.length]; exact sz_of (by unfold line at hz; omega)
              exact ⟨b, c, us, ws, rfl, rfl, h2, hc, hz', put_list s h1 (h3.append qz) (by simpa using hz') .of_non h5⟩
            · cases h4
        · exact (VG.no g).elim
      | [], _, g => exact (VG.no g).elim
      | _ :: _ :: _, _, g => exact (VG.no g).elim
  · -- pop
    cases xs with
    | cons y ys => cases hp
    | nil =>
      cases a
      refine pe_lm0 PySem.F.slot_list_pop PySem.F.type_list_pop mt_pop ho hb hl fun ms xs H S Q n b s rx g => ?_
      simp only [opD] at g
      obtain ⟨ds, us, d', ds', h1, h2, h3, h4, h5⟩ := onL_inv s rx g
      split at h4
      · rename_i dl hd
        cases h4
        rw [List.getLast?_eq_getElem?] at hd
        obtain ⟨v, hv, rv⟩ := h3.get hd
        refine ⟨b, us, v, rfl, rfl, h2, by rw [h3.length]; exact hv, put_list s h1 h3.dropLast ?_ rv h5⟩
        rw [List.length_dropLast]
        exact Nat.le_trans (Nat.sub_le _ _) (s.szl b us h2)
      · cases h4
  · -- clear
    cases xs with
    | cons y ys => cases hp
    | nil =>
      cases a
      refine pe_lm0 PySem.F.slot_list_clear PySem.F.type_list_clear mt_clear ho hb hl fun ms xs H S Q n b s rx g => ?_
      simp only [opD] at g
      obtain ⟨ds, us, d', ds', h1, h2, h3, h4, h5⟩ := onL_inv s rx g
      cases h4
      exact ⟨b, us, rfl, rfl, h2, put_list s h1 (by simp only [RelDs]) (Nat.zero_le _) .of_non h5⟩
  · -- reverse
    cases xs with
    | cons y ys => cases hp
    | nil =>
      cases a
      refine pe_lm0 PySem.F.slot_list_reverse PySem.F.type_list_reverse mt_reverse ho hb hl fun ms xs H S Q n b s rx g => ?_
      simp only [opD] at g
      obtain ⟨ds, us, d', ds', h1, h2, h3, h4, h5⟩ := onL_inv s rx g
      cases h4
      exact ⟨b, us, rfl, rfl, h2, put_list s h1 h3.reverse (by rw [List.length_reverse]; exact s.szl b us h2) .of_non h5⟩
  · -- insert
    cases xs with
    | nil => cases hp
    | cons y ys =>
      refine pe_lm1 PySem.F.slot_list_insert PySem.F.type_list_insert mt_insert ho hb hl a hlen fun ms xs H S Q n b ds vs s rx rs g => ?_
      match ds, rs, g with
      | [d1, d2], rs, g =>
        obtain ⟨v1, us1, rfl, r1, rs2⟩ := rs.uncons
        obtain ⟨v2, rfl, r2⟩ := rs2.one_inv
        cases d1 <;> first | exact (VG.no g).elim | skip
        rename_i i
        have e1 := r1.int_eq
        subst e1
        simp only [opD] at g
        obtain ⟨ds, us, d', ds', h1, h2, h3, h4, h5⟩ := onL_inv s rx g
        split at h4
        · rename_i hz
          cases h4
          have hz' : us.length + 1 ≤ sizeLine := by rw [h3.length]; exact sz_of (by have := hz.2.2; unfold line at this; omega)
          have hl3 := h3.length
          refine ⟨b, us, i, v2, rfl, rfl, h2, hz', hz.1, by have := hz.2.2; unfold line at this; omega, put_list s h1 (by rw [List.append_assoc]; exact (h3.take _).append (.cons r2 (h3.drop _))) ?_ .of_non h5⟩
          simp only [List.length_append, List.length_take, List.length_cons, List.length_drop, List.length_nil]
          omega
        · cases h4
      | [], _, g => exact (VG.no g).elim
      | [_], _, g => exact (VG.no g).elim
      | _ :: _ :: _ :: _, _, g => exact (VG.no g).elim

structure Here (X : Cx) (r : Rx) (C : Cf) (W : WX) (ck : Ck) (k : Nat) : Prop where
  cx : Cxt X r C ck.tx k
  sc : X.env.scope = ck.sc
  N : X.N = ck.N
  tk : Takes X W
  lam : ck.lm = true → LamOk X.base X.mg r X.env.code X.env.qual ∧ Room (k + 3) X.A
theorem pass_of (h : Here X r C W ck k) (σ : L2.St) : PassesAt (L2.CX X.prog X.w) X σ (WE W σ) := passAt h.tk σ
theorem sp_of {f : List D → M D} {np : Nat} {ms xs : List Addr} {H : Hp} {S : Store} {ds : List D} {vs : List V} {σ : L2.St} {Q : VK} (hl : ∀ ds S, f ds S ≠ .stuck → ds.length = np) (s : Sim r ms xs H S) (q : RelDs r ms xs H ds vs)
    (g : Good r xs ms H (f ds S) (fun d _ ms' H' => ∀ v, RelD r ms' xs H' d v → Q v H') (exW r W σ)) : spF r np f vs H Q (WE W σ) :=
  ⟨by rw [q.length]; exact hl ds S g.ns, ms, xs, S, ds, s, q, g⟩
theorem so_call {f : Nat} {x : Str} {p pos : Pos} (h : Here X r C W ck k) (hf : ck.tx.fns[f]? = some (some x)) (hg : glB ck.sc x = true) (hn : okNm x = true) (a : AllE X r C W is es) : PE X (.Call (.Name x p) es [] pos) (tE r C W (.call f is)) := by
  obtain ⟨A, hA, hm⟩ := h.cx.fns f x hf
  obtain ⟨fd, ps, F, hb, hk, hl⟩ := h.cx.call f A hA
  have gl : Gl X x := gl_of h.sc (glB_iff hg)
  have hr : Room k X.A := h.cx.room.mono (Nat.le_succ k)
  cases es with
  | nil =>
    cases a
    refine PE.imp (pe_callS0 F hr gl hm hk hb (pass_of h) (okNm_iff hn).1) fun σ H Q q => ?_
    obtain ⟨ms, xs, S, ρ, s, e, g⟩ := q
    simp only [evE, evEs, bnd_ret] at g
    exact sp_of hl s (by simp only [RelDs]) g
  | cons y ys =>
    have st := a.star
    simp only [List.all_cons, Bool.and_eq_true] at st
    refine PE.imp (pe_callS F hr gl hm hk hb (pass_of h) (pa_all a) (okNm_iff hn).1 (star_of st.1) (noStars st.2)) fun σ H Q q => ?_
    obtain ⟨ms, xs, S, ρ, s, e, g⟩ := q
    simp only [evE] at g
    exact tEs_of s e g fun ds vs S1 m1 H1 x1 s1 e1 r1 g1 => sp_of hl s1 r1 g1
theorem so_callv {i : Nat} {x : Str} {y : Expr} {ys : List Expr} {p pos : Pos} (h : Here X r C W ck k) (hi : ck.N[i]? = some x) (hv : visB ck.sc x = true) (hn : okNm x = true) (a : AllE X r C W is (y :: ys)) : PE X (.Call (.Name x p) (y :: ys) [] pos) (tE r C W (.callv i is)) := by
  have hr : Room k X.A := h.cx.room.mono (Nat.le_succ k)
  have st := a.star
  simp only [List.all_cons, Bool.and_eq_true] at st
  refine PE.imp (pe_or2 (pe_callU (i := i) hr (by rw [h.N]; exact hi) (by rw [h.sc]; exact visB_iff hv) (pass_of h) (pa_all a) (okNm_iff hn).1 (okNm_iff hn).2.1 (star_of st.1) (noStars st.2)) (pe_callL (r := r) (i := i) hr (by rw [h.N]; exact hi) (by rw [h.sc]; exact visB_iff hv) (pa_all a) (okNm_iff hn).1 (okNm_iff hn).2.1 (star_of st.1) (noStars st.2))) fun σ H Q q => ?_
  obtain ⟨ms, xs, S, ρ, s, e, g⟩ := q
  simp only [evE] at g
  obtain ⟨d, hd, g⟩ := g.opt
  obtain ⟨v, hv', rv⟩ := e.get hd
  cases d with
  | fn f =>
    simp only [RelD] at rv
    obtain ⟨A, hA, rfl⟩ := rv
    obtain ⟨fd, ps, F, hb, hk, hl⟩ := h.cx.call f A hA
    exact .inl ⟨A, fd, ps, _, hv', F, hb, hk, tEs_of s e g fun ds vs S1 m1 H1 x1 s1 e1 r1 g1 => sp_of hl s1 r1 g1⟩
  | lam f =>
    simp only [RelD] at rv
    obtain ⟨A, c, q, prm, body, scope, rfl, hl, hA, hc, ⟨n1, n2⟩, n3, n4⟩ := rv
    refine .inr ⟨A, c, q, prm, body, scope, f, C.Φ f, hv', h.cx.lamc f, hl, hA, tEs_of s e g fun ds vs S1 m1 H1 x1 s1 e1 r1 g1 => ⟨x1.keep A _ hA n1 (fun _ z => by cases z), x1.keep c _ hc n3 (fun _ z => by cases z), ?_⟩⟩
    have ns : noX (C.Φ f ds) S1 ≠ .stuck := g1.ns
    have g2 : Good r xs m1 H1 (noX (C.Φ f ds) S1) (fun d _ ms' H' => ∀ v, RelD r ms' xs H' d v → Q v H') (fun c _ _ H' => ∀ a, r.ca c = some a → (fun _ _ _ => False : XK) (.ref a) none H') := by
      unfold noX at g1 ⊢
      cases hq : C.Φ f ds S1 with
      | stuck => rw [hq] at g1; exact g1
      | exc c S' => rw [hq] at g1; exact g1
      | ok d S' => rw [hq] at g1; exact g1
    refine ⟨?_, m1, xs, S1, ds, s1, r1, g2⟩
    rw [r1.length]
    exact h.cx.laml f _ _ _ _ hl ds S1 fun z => ns (by unfold noX; rw [z])
  | _ => exact (show False from g).elim
theorem so_meth {m : Nat} {o : E} {x : Expr} {f : Str} {u pos : Pos} (h : Here X r C W ck k) (hm : ck.tx.attrs[m]? = some f) (hb : baseOk x = true) (hline : (u.endLine == pos.line) = true) (hlen : es.length < 20) (ho : PE X x (tE r C W o)) (a : AllE X r C W is es) : PE X (.Call (.Attribute x f u) es [] pos) (tE r C W (.meth o m is)) := by
  have hr : Room k X.A := h.cx.room.mono (Nat.le_succ k)
  have key : ∀ {σ : L2.St} {ρ : Env} {xs m1 : List Addr} {H1 : Hp} {S1 : Store} {d : D} {v : V} {Q : VK} {t : TA}, Sim r m1 xs H1 S1 → REnv r m1 xs H1 ρ σ → RelD r m1 xs H1 d v →
      Good r xs m1 H1 (match d with
        | .ref a => match S1[a]? with
          | some (.ins c fs) => match C.pr.meth c m, lookN m fs with
            | some f, none => bnd (evEs C is ρ) (fun ds => C.Φ f (.ref a :: ds)) S1
            | _, _ => .stuck
          | _ => .stuck
        | _ => .stuck) (fun d _ ms' H' => ∀ v, RelD r ms' xs H' d v → Q v H') (exW r W σ) →
      (∀ n f' np, RelD r m1 xs H1 (.ref n) v → (∀ ds S, C.Φ f' ds S ≠ .stuck → ds.length = np) → Good r xs m1 H1 (bnd (evEs C is ρ) (fun ds => C.Φ f' (.ref n :: ds)) S1) (fun d _ ms' H' => ∀ v, RelD r ms' xs H' d v → Q v H') (exW r W σ) → t σ H1 fun vs H2 => spF r np (C.Φ f') (v :: vs) H2 Q (WE W σ)) →
      ∃ a A dx fs f' fd ps sp, v = .ref a ∧ H1 a = some (.ins A dx fs) ∧ Cls X.K A ∧ Meth X.K A f f' ∧ fs.lookup f = none ∧ FnOk X.prog X.w X.K X.mg X.base (L2.CX X.prog X.w) k f' fd ps sp ∧ Binds X.K fd ps [] ∧ t σ H1 fun vs H2 => sp (.ref a :: vs) H2 Q (WE W σ) := by
    intro σ ρ xs m1 H1 S1 d v Q t s1 e1 q1 g1 ht
    cases d <;> first | exact (show False from g1).elim | skip
    rename_i n
    have q2 := q1
    simp only [RelD] at q2
    obtain ⟨p, hp, rfl⟩ := q2
    dsimp only at g1
    split at g1
    · rename_i c fs hn
      split at g1
      · rename_i f' hf' hfs
        obtain ⟨A, dx, gs, e2, e3, e4⟩ := s1.obj _ _ p hn hp
        obtain ⟨hmk, G, hG, M⟩ := h.cx.meth c m f' A f e3 hf' hm
        obtain ⟨fd, ps, F, hB, hk, hl⟩ := h.cx.call f' G hG
        have hno : gs.lookup f = none := by
          rcases fld_rel h.cx hm e4 with ⟨_, q⟩ | ⟨d, v, q, _⟩
          · exact q
          · rw [hfs] at q; cases q
        exact ⟨p, A, dx, gs, G, fd, ps, _, rfl, e2, (h.cx.ins c A e3 hmk).cl, M, hno, F, hB, ht n f' ps.length q1 hl g1⟩
      · exact (show False from g1).elim
    · exact (show False from g1).elim
  cases es with
  | nil =>
    cases a
    refine PE.imp (pe_methU0 hr ho (pass_of h) hb hline) fun σ H Q q => ?_
    obtain ⟨ms, xs, S, ρ, s, e, g⟩ := q
    simp only [evE] at g
    refine tE_of s e g fun d v S1 m1 H1 x1 s1 e1 q1 g1 => key s1 e1 q1 g1 fun n f' np rn hl g2 => ?_
    simp only [evEs, bnd_ret] at g2
    exact sp_of hl s1 (.one rn) g2
  | cons y ys =>
    have st := a.star
    refine PE.imp (pe_methU hr ho (pass_of h) (pa_all a) hb st hlen hline) fun σ H Q q => ?_
    obtain ⟨ms, xs, S, ρ, s, e, g⟩ := q
    simp only [evE] at g
    refine tE_of s e g fun d v S1 m1 H1 x1 s1 e1 q1 g1 => key s1 e1 q1 g1 fun n f' np rn hl g2 => ?_
    exact tEs_of s1 e1 g2 fun ds vs S2 m2 H2 x2 s2 e2 r2 g3 => sp_of hl s2 (.cons (rn.mono x2) r2) g3
theorem made_rel {c : Nat} {A x dx : Addr} {ms xs : List Addr} {H : Hp} {S : Store} (hA : r.ca c = some A) (s : Sim r ms xs H S) (hx : H x = none) (hd : H dx = none) (ne : dx ≠ x) :
    Ext ms H (ms ++ [x]) (upd (upd H dx (.own x)) x (.ins A dx [])) ∧ Sim r (ms ++ [x]) xs (upd (upd H dx (.own x)) x (.ins A dx [])) (S ++ [.ins c []]) ∧ RelD r (ms ++ [x]) xs (upd (upd H dx (.own x)) x (.ins A dx [])) (.ref S.length) (.ref x) := by
  have s1 : Sim r ms xs (upd H dx (.own x)) S := s.new hd (fun vs z => by cases z) (fun vs z => by cases z)
  have x1 : Ext ms H ms (upd H dx (.own x)) := Ext.new hd
  have hx1 : upd H dx (.own x) x = none := by rw [upd_ne (Ne.symm ne)]; exact hx
  refine ⟨x1.trans (Ext.cell s1 hx1), s1.cell hx1 ⟨A, dx, [], rfl, hA, rfl⟩ (fun vs z => by cases z) (fun vs z => by cases z), ?_⟩
  simp only [RelD]
  exact ⟨x, by rw [← s.len]; simp, rfl⟩
theorem so_mk {c : Nat} {x : Str} {p pos : Pos} (h : Here X r C W ck k) (hf : ck.tx.cls[c]? = some x) (hg : glB ck.sc x = true) (hn : okNm x = true) (a : AllE X r C W is es) : PE X (.Call (.Name x p) es [] pos) (tE r C W (.mk c is)) := by
  obtain ⟨A, hA, hm⟩ := h.cx.clsN c x hf
  have gl : Gl X x := gl_of h.sc (glB_iff hg)
  have hdb := (okNm_iff hn).1
  cases hc : C.pr.cls[c]? with
  | none =>
    refine ⟨fun pins s σ H Q I q => ?_⟩
    obtain ⟨ms, xs, S, ρ, s, e, g⟩ := q
    simp only [evE, hc] at g
    exact (show False from g).elim
  | some d =>
    cases hi : d.init with
    | some f =>
      obtain ⟨G, hG, M⟩ := h.cx.init c f A d hA hc hi
      obtain ⟨fd, ps, F, hB, hk, hl⟩ := h.cx.call f G hG
      have key : ∀ {σ : L2.St} {xs ms : List Addr} {H : Hp} {S : Store} {ds : List D} {vs : List V} {Q : VK}, Sim r ms xs H S → RelDs r ms xs H ds vs →
          Good r xs ms H (bnd (C.Φ f (.ref S.length :: ds)) (fun r => match r with | .non => Mi.ret (.ref S.length) | _ => stk) (S ++ [.ins c []])) (fun d _ ms' H' => ∀ v, RelD r ms' xs H' d v → Q v H') (exW r W σ) →
          ∀ x dx, H x = none → H dx = none → dx ≠ x → spF r ps.length (C.Φ f) (.ref x :: vs) (upd (upd H dx (.own x)) x (.ins A dx [])) (fun v H2 => v = .non ∧ Q (.ref x) H2) (WE W σ) := by
        intro σ xs ms H S ds vs Q s q g x dx hx hd ne
        obtain ⟨x1, s1, r1⟩ := made_rel hA s hx hd ne
        have g1 := (Good.ext x1 g).bind
        refine sp_of hl s1 (.cons r1 (q.mono x1)) (g1.mono (fun z S' ms' H' x' s' g' v rv => ?_) fun _ _ _ _ _ _ z => z)
        cases z <;> first | exact (show False from g').elim | skip
        exact ⟨rv.non_eq, g' ms' H' .refl s' _ (r1.mono x')⟩
      cases es with
      | nil =>
        cases a
        refine PE.imp (pe_makeS0 M F h.cx.room gl hm hB (pass_of h) hdb) fun σ H Q q => ?_
        obtain ⟨ms, xs, S, ρ, s, e, g⟩ := q
        simp only [evE, evEs, bnd_ret, hc, hi] at g
        exact key s (by simp only [RelDs]) g
      | cons y ys =>
        have st := a.star
        simp only [List.all_cons, Bool.and_eq_true] at st
        refine PE.imp (pe_makeS M F h.cx.room gl hm hB (pass_of h) (pa_all a) hdb (star_of st.1) (noStars st.2)) fun σ H Q q => ?_
        obtain ⟨ms, xs, S, ρ, s, e, g⟩ := q
        simp only [evE, hc, hi] at g
        exact tEs_of s e g fun ds vs S1 m1 H1 x1 s1 e1 r1 g1 => key s1 r1 g1
    | none =>
      cases es with
      | nil =>
        cases a
        cases hin : d.inst with
        | false =>
          refine ⟨fun pins s σ H Q I q => ?_⟩
          obtain ⟨ms, xs, S, ρ, s, e, g⟩ := q
          simp only [evE, hc, hi, hin] at g
          exact (show False from g).elim
        | true =>
        refine PE.imp (pe_make00 (h.cx.init0 c A d hA hc hi hin) gl hm hdb) fun σ H Q q => ?_
        obtain ⟨ms, xs, S, ρ, s, e, g⟩ := q
        simp only [evE, evEs, bnd_ret, hc, hi, hin, if_true] at g
        intro x dx hx hd ne
        obtain ⟨x1, s1, r1⟩ := made_rel hA s hx hd ne
        exact g _ _ x1 s1 _ r1
      | cons y ys =>
        cases a with
        | cons _ _ _ =>
          refine ⟨fun pins s σ H Q I q => ?_⟩
          obtain ⟨ms, xs, S, ρ, s, e, g⟩ := q
          simp only [evE, hc, hi] at g
          exact (show False from g).elim

open LamX in
theorem so_mxk (h : Here X r C W ck k) (hlm : ck.lm = true) {b : Bool} {a i : Nat} {m : Int} {e : E} {y : Expr} {V : Str} {scope : Scope} {p xp p1 p2 p3 p4 p5 lp kp pos : Pos} {kk : Nat} (h2 : glB ck.sc (mxN b) = true) (h7 : ck.N[a]? = some V) (h8 : ck.N[i]? = some "kind") (h9 : a ≠ i) (h10 : okNm V = true) (h11 : scope.names.lookup V = some .free) (L : Lam1 ck.sc scope "kind") (h13 : noStar y = true) (he : PE X y (tE r C W e)) :
    PE X (.Call (.Name (mxN b) p) [y] [⟨some "key", .Lambda ⟨[], [⟨"kind", none, xp⟩], none, [], [], none, []⟩ (.Subscript (.Subscript (.Name V p1) (.Name "kind" p2) p3) (.Constant (.int m) kk p4) p5) scope lp, kp⟩] pos) (tE r C W (.mxk b a i m e)) := by
  have gl : Gl X (mxN b) := by
    show X.env.scope.names.lookup (mxN b) = some .globalImplicit
    rw [h.sc]
    exact glB_iff h2
  have hm : X.mg (mxN b) = none := h.cx.bi _ (by cases b <;> simp [mxN])
  have L2 : Lam1 X.env.scope scope "kind" := by rw [h.sc]; exact L
  have hn : (V == ("__debug__" : Str)) = false ∧ (V == ("__classdict__" : Str)) = false := by
    simp only [okNm, Bool.and_eq_true, decide_eq_true_eq] at h10
    exact ⟨by simpa using h10.1.1, by simpa using h10.1.2⟩
  refine PE.imp (pe_mxk (r := r) (tb := tKey a i m) gl hm h13 he (h.lam hlm).1 L2 (by rw [h.N]; exact h8) h.cx.nd (h.cx.room.mono (by omega)) fun A outer s H f c' => pe_key (by show X.N[a]? = _; rw [h.N]; exact h7) (.inr (.inr h11)) hn.1 hn.2 (by show X.N[i]? = _; rw [h.N]; exact h8) (.inl L.par)) fun σ H Q q => ?_
  obtain ⟨ms, xs, S, ρ, s, en, g⟩ := q
  simp only [evE] at g
  refine tE_of s en g fun d v S1 m1 H1 x1 s1 e1 r1 g1 => ?_
  obtain ⟨va, hva, g2⟩ := g1.opt
  unfold mxkD at g2
  split at g2
  · rename_i ds vs hd hv
    split at g2
    · rename_i ns hns
      split at g2
      · rename_i ks hks
        split at g2
        · rename_i hpos
          split at g2
          · rename_i z hz
            obtain ⟨l, us, rfl, hl, q⟩ := asL_rel s1 r1 hd
            have eu := ints_V q hns
            subst eu
            obtain ⟨v2, hv2, r2⟩ := e1.get hva
            obtain ⟨l2, ws, rfl, hl2, q2⟩ := asL_rel s1 r2 hv
            refine ⟨l, ns, ks, rfl, hl, hpos, s1.tabs, fun H2 eN T2 sz hj => ⟨fun i' z' hz' => ?_, fun z2 hz2 => ?_⟩⟩
            · obtain ⟨k', hk1, hk2⟩ := mapO_get hks hz'
              unfold keyD at hk2
              split at hk2
              · rename_i ys hy
                split at hk2
                · rename_i z3 hz3
                  cases hk2
                  obtain ⟨w, hw, rw_⟩ := atI_rel q2 hy
                  simp only [RelD] at rw_
                  obtain ⟨t, us2, rfl, ht, _, _, q3⟩ := rw_
                  obtain ⟨w2, hw2, rw2⟩ := atI_rel q3 hz3
                  refine ⟨l2, ws, us2, z', k', t, by rw [List.getElem?_set_ne (Ne.symm h9)]; exact hv2, by rw [List.getElem?_set_self hj], eN l2 _ hl2 (fun _ z => by cases z), hw, eN t _ ht (fun _ z => by cases z), by rw [hw2, rw2.int_eq], ?_, rfl⟩
                  rw [List.getD_eq_getElem?_getD, hk1]
                  rfl
                · cases hk2
              · cases hk2
            · obtain ⟨x2, s2⟩ := s1.extN eN T2 sz
              rw [bestN_eq] at hz
              have ez : z2 = z := Option.some.inj (hz2.symm.trans hz)
              rw [ez]
              exact g2 m1 H2 x2 s2 _ .of_int
          · exact g2.elim
        · exact g2.elim
      · exact g2.elim
    · exact g2.elim
  · exact g2.elim
theorem here_blk (h : Here X r C W ck k) {s : Shared} {H : Hp} {sc : Scope} {cl : List (Str × Addr)} {Cc : Addr} {fp : List Addr} :
    Here (X.blk s H sc (compEnvC sc cl Cc X.env) fp) r C (fun _ _ _ _ => False) { ck with sc := relS sc ck.sc } k :=
  ⟨⟨h.cx.calm, h.cx.nd, h.cx.room, h.cx.kk, h.cx.txts, h.cx.attrs, h.cx.tnd, h.cx.tok, h.cx.and_, h.cx.bi, h.cx.nums, h.cx.fns, h.cx.ins, h.cx.noat, h.cx.kit, h.cx.kitB, h.cx.kitO, h.cx.clsN, h.cx.exc, h.cx.cdb, h.cx.call, h.cx.meth, h.cx.init, h.cx.init0, h.cx.kitX, h.cx.excX, h.cx.vx, h.cx.exmX, h.cx.askF, h.cx.lamc, h.cx.lamI, h.cx.laml⟩, by rw [← h.sc]; rfl, h.N, L2.takes0, h.lam⟩
theorem here_lam (h : Here X r C W ck k) {A : Around} {outer : List PySem.Env} {s : Shared} {H : Hp} {E : XK} {scope : Scope} {f c' : Addr} (hr : Room (k + 1) (A.deeper (LamX.lamEnv X scope s.heap.objs.size f c'))) :
    Here (LamX.lamCx X A outer s H E scope f c') r C (fun c d _ H => E c d H) { ck with sc := scope, lm := false } k :=
  ⟨⟨rfl, h.cx.nd, hr, h.cx.kk, h.cx.txts, h.cx.attrs, h.cx.tnd, h.cx.tok, h.cx.and_, h.cx.bi, h.cx.nums, h.cx.fns, h.cx.ins, h.cx.noat, h.cx.kit, h.cx.kitB, h.cx.kitO, h.cx.clsN, h.cx.exc, h.cx.cdb, h.cx.call, h.cx.meth, h.cx.init, h.cx.init0, h.cx.kitX, h.cx.excX, h.cx.vx, h.cx.exmX, h.cx.askF, h.cx.lamc, h.cx.lamI, h.cx.laml⟩, rfl, h.N, takes_of rfl rfl rfl rfl, fun z => by cases z⟩
theorem Sim.exq {ms xs : List Addr} {H H' : Hp} {S : Store} (s : Sim r ms xs H S) (e : Exq H H') : Ext ms H ms H' ∧ Sim r ms xs H' S := by
  refine s.extN (fun b o q _ => e.keep b o q) (s.tabs.ext e.keep) ⟨fun a vs q => ?_, fun a vs q => ?_⟩
  · rcases e.lst a vs q with z | z
    · exact s.szl a vs z
    · exact sz100 z
  · exact s.szt a vs (e.tup a vs q)
theorem rel_bls {ms xs : List Addr} {H : Hp} (b : Nat → Bool) (l : List Nat) : RelDs r ms xs H (l.map fun i => D.bl (b i)) (l.map fun i => V.bl (b i)) := by
  induction l with
  | nil => simp only [List.map_nil, RelDs]
  | cons a l ih => exact .cons .of_bl ih
theorem so_ask (h : Here X r C W ck k) (hlm : ck.lm = true) {g : Nat} {e : E} {x : Str} {body : Expr} {scope : Scope} {p lp pos : Pos} (hf : ck.tx.fns[g]? = some (some x)) (hg : glB ck.sc x = true) (hn : okNm x = true) (L : LamX.LamS ck.sc scope)
    (hb : ∀ (A : Around) (outer : List PySem.Env) (s : Shared) (H : Hp) (E : XK) (f c' : Addr), Room (k + 1) (A.deeper (LamX.lamEnv X scope s.heap.objs.size f c')) → PE (LamX.lamCx X A outer s H E scope f c') body (tE r C (fun c d _ H => E c d H) e)) :
    PE X (.Call (.Name x p) [.Lambda ⟨[], [], none, [], [], none, []⟩ body scope lp] [] pos) (tE r C W (.ask g e)) := by
  obtain ⟨⟨c, P, hco, TB, hmT, hu⟩, hr⟩ := h.lam hlm
  have gl : Gl X x := gl_of h.sc (glB_iff hg)
  have L2 : LamX.LamS X.env.scope scope := by rw [h.sc]; exact L
  have mi : X.mg "isinstance" = none := h.cx.bi _ (by decide +kernel)
  cases ht : lookN g C.pr.asks_ with
  | none =>
    refine ⟨fun pins s σ H Q I q => ?_⟩
    obtain ⟨ms, xs, S, ρ, s, en, gd⟩ := q
    exfalso
    simp only [evE, Prog.askV, ht] at gd
    split at gd <;> exact gd
  | some t =>
    obtain ⟨A, st, fd, ps, Ng, hA, hm, F, B, sh⟩ := h.cx.askF g t x ht hf
    obtain ⟨oc, od, kV, doc, pm, an, cdv, ct, osl, rfl, lk, hcd⟩ := F.ex
    have nz : C.pr.asks_ ≠ [] := fun z => by rw [z] at ht; cases ht
    have use := fun (a : Str) (B : Binds X.K (PySem.W.fnOf x x (defArgs st) (defBody st) (defScope st) .none kV doc pm an cdv ct) [a] []) (TT : (XK → Hp → VK → Prop) → Hp → VK → Prop) (hG : Gives X Ng x (defScope st) A cdv (defBody st) a (X.env.qual ++ "<lambda>") TT) (sc : FnScope Ng [a] (defScope st)) (hN0 : Ng[0]? = some a) (ha : lcOk (defScope st) a) =>
      pe_lamS (prm := ⟨[], [], none, [], [], none, []⟩) (p := p) (lpos := lp) (pos := pos) (k := k + 1) (T := r.T) (TT := TT) (t := fun E => tE r C (fun c d _ H => E c d H) e) gl hm F.kp lk hcd B sc hN0 (.inl ha.1) hG TB hco hmT hu hr L2 (by rfl) (fun _ _ _ _ _ => rfl) hb (okNm_iff hn).1 ha.2.1 ha.2.2
    cases sh with
    | @full cl ca cb j a fn en cn yA yB _ _ _ _ _ _ _ _ _ _ _ _ _ _ _ _ _ _ _ _ _ _ _ hp h1 h2 h3 hbd sc hN ha hfn hen hcn hyA hyB hi =>
      obtain ⟨CS, k1, m1⟩ := h.cx.clsN cl cn h1
      obtain ⟨aA, k2, m2⟩ := h.cx.clsN ca yA h2
      obtain ⟨aB, k3, m3⟩ := h.cx.clsN cb yB h3
      have hG : Gives X Ng x (defScope st) A cdv (defBody st) a (X.env.qual ++ "<lambda>") (TTf X.K CS aA aB) := by
        rw [hbd]
        exact full_gives hN sc.nd hfn hen hcn hyA hyB hi mi m1 m2 m3
      subst hp
      refine PE.imp (use a B _ hG sc (by rw [hN]; rfl) ha) fun σ H Q q => ?_
      obtain ⟨ms, xs, S, ρ, s, en, gd⟩ := q
      refine ⟨s.tabs, fun H1 eN T1 sz E Q2 hE hQ2 => ?_⟩
      obtain ⟨x1, s1⟩ := s.extN eN T1 sz
      refine ⟨ms, xs, S, ρ, s1, en.mono x1, ?_⟩
      replace gd := Good.ext x1 gd
      simp only [evE, Prog.askV, ht] at gd
      cases hq : evE C e ρ S with
      | stuck => rw [hq] at gd; exact gd
      | ok d S' =>
        rw [hq] at gd
        intro ms' H' x2 s2 v rv
        exact hQ2 v H' (gd ms' H' x2 s2 (.bl false) .of_bl)
      | exc c S' =>
        rw [hq] at gd
        intro ms' H' x2 s2 ac hac
        dsimp only at gd
        split at gd
        · rename_i hrs
          simp only [Bool.and_eq_true] at hrs
          obtain ⟨e1, e2⟩ := h.cx.excX c ac hac hrs.1 nz
          obtain ⟨e4, e5⟩ := h.cx.exmX c g (.full cl ca cb) ac CS hac k1 hrs.1 ht
          have e5 : PySem.W.exmOne X.K (.ref ac) (.ref CS) = some (C.pr.sub c cl) := e5
          rw [hrs.2] at e5
          exact hE ac H' _ _ e1 e5 (h.cx.kitX c ca ac aA hac k2 hrs.1 (e4 _ (by simp [AskT.cs]))) (h.cx.kitX c cb ac aB hac k3 hrs.1 (e4 _ (by simp [AskT.cs]))) (gd ms' H' x2 s2 _ .of_bl)
        · exact gd.elim
    | @kinds cl cs a fn en cn _ _ _ _ _ _ _ _ _ _ _ _ _ _ _ _ _ _ _ _ _ _ _ _ _ _ _ _ _ _ _ _ _ _ _ _ _ _ _ _ _ _ _ _ _ _ _ _ _ _ _ _ _ _ _ _ _ _ _ _ _ _ _ _ _ _ _ _ _ _ _ _ _ _ _ _ _ _ _ _ _ _ _ _ _ hp h1 h2 hbd sc hN ha hfn hen hcn hyA hV hi hl =>
      obtain ⟨CS, k1, m1⟩ := h.cx.clsN cl cn h1
      have at_ : ∀ (i : Nat) y, yK[i]? = some y → ∃ d, cs[i]? = some d ∧ ck.tx.cls[d]? = some y := fun i y hy => by
        have z : (cs.map fun c => ck.tx.cls[c]?)[i]? = (yK.map some)[i]? := by rw [h2]
        rw [List.getElem?_map, List.getElem?_map, hy] at z
        cases hc : cs[i]? with
        | none => rw [hc] at z; cases z
        | some d => rw [hc] at z; exact ⟨d, rfl, Option.some.inj z⟩
      have len : cs.length = 12 := by
        have := congrArg List.length h2
        simpa [yK] using this
      let aK : Nat → Addr := fun i => (r.ca (cs.getD i 0)).getD 0
      have aKs : ∀ (i : Nat) y, yK[i]? = some y → r.ca (cs.getD i 0) = some (aK i) ∧ X.mg y = some (.ref (aK i)) := fun i y hy => by
        obtain ⟨d, h3, h4⟩ := at_ i y hy
        obtain ⟨b, h5, h6⟩ := h.cx.clsN d y h4
        have e1 : cs.getD i 0 = d := by simp [List.getD, h3]
        have e2 : aK i = b := by show (r.ca (cs.getD i 0)).getD 0 = b; rw [e1, h5]; rfl
        rw [e1, e2]
        exact ⟨h5, h6⟩
      have mV := h.cx.vx nz
      · have hG : Gives X Ng x (defScope st) A cdv (defBody st) a (X.env.qual ++ "<lambda>") (TTk X.K CS aK) := by
          rw [hbd]
          exact kinds_gives hN sc.nd hfn hen hcn hyA hV hi hl mi m1 (fun i y hy => (aKs i y hy).2) mV
        subst hp
        refine PE.imp (use a B _ hG sc (by rw [hN]; rfl) ha) fun σ H Q q => ?_
        obtain ⟨ms, xs, S, ρ, s, en, gd⟩ := q
        refine ⟨s.tabs, fun H1 eN T1 sz pl hpl E Q2 hE hQ2 => ?_⟩
        obtain ⟨x1, s1⟩ := s.extN eN T1 sz
        have x2 : Ext ms H1 ms (upd H1 pl (.lst [])) := Ext.new hpl
        have s2 := s1.new (o := .lst []) hpl (fun vs z => by cases z; exact Nat.zero_le _) (fun vs z => by cases z)
        refine ⟨ms, xs, S, ρ, s2, (en.mono x1).mono x2, ?_⟩
        replace gd := Good.ext x2 (Good.ext x1 gd)
        simp only [evE, Prog.askV, ht] at gd
        cases hq : evE C e ρ S with
        | stuck => rw [hq] at gd; exact gd
        | ok d S' =>
          rw [hq] at gd
          intro ms' H' x3 s3 v rv
          refine hQ2 v H' (gd ms' H' x3 s3 (.ref pl) ?_)
          simp only [RelD]
          exact ⟨pl, [], rfl, x3.keep pl _ upd_same (s1.fresh hpl).1 (fun ps z => by cases z), x3.notin upd_same (s1.fresh hpl).1 (fun ps z => by cases z), (s1.fresh hpl).2, by simp only [RelDs]⟩
        | exc c S' =>
          rw [hq] at gd
          intro ms' H' x3 s3 ac hac
          dsimp only at gd
          split at gd
          · rename_i hrs
            simp only [Bool.and_eq_true] at hrs
            obtain ⟨e1, e2⟩ := h.cx.excX c ac hac hrs.1 nz
            obtain ⟨e4, e5⟩ := h.cx.exmX c g (.kinds cl cs) ac CS hac k1 hrs.1 ht
            have e5 : PySem.W.exmOne X.K (.ref ac) (.ref CS) = some (C.pr.sub c cl) := e5
            rw [hrs.2] at e5
            refine hE ac H' (fun i => C.pr.sub c (cs.getD i 0)) e1 e5 (fun i hi => ?_) e2 fun p2 H2 xq n2 g2 => ?_
            · obtain ⟨y, hy⟩ : ∃ y, yK[i]? = some y := ⟨_, List.getElem?_eq_getElem (show i < yK.length from hi)⟩
              have mem : cs.getD i 0 ∈ cs := by
                have : i < cs.length := by omega
                simp [List.getD, this]
              exact h.cx.kitX c _ ac _ hac (aKs i y hy).1 hrs.1 (e4 _ (List.mem_cons_of_mem _ mem))
            · obtain ⟨x4, s4⟩ := s3.exq xq
              refine gd ms' H2 (x3.trans x4) s4 (.ref p2) ?_
              simp only [RelD]
              refine ⟨p2, _, rfl, g2, (s3.fresh n2).1, (s3.fresh n2).2, ?_⟩
              have ec : cs.map (fun d => D.bl (C.pr.sub c d)) = (List.range 12).map fun i => D.bl (C.pr.sub c (cs.getD i 0)) := by
                refine List.ext_getElem (by simp [len]) fun i h1 h2 => ?_
                simp at h1
                simp [List.getD, h1]
              rw [ec]
              exact (rel_bls _ _).append (.one .of_bl)
          · exact gd.elim
    | text =>
      refine ⟨fun pins s σ H Q I q => ?_⟩
      obtain ⟨ms, xs, S, ρ, s, en, gd⟩ := q
      exfalso
      simp only [evE, Prog.askV, ht] at gd
      split at gd <;> exact gd
theorem so_askT (h : Here X r C W ck k) (hlm : ck.lm = true) {g tw : Nat} {e : E} {x w : Str} {body : Expr} {scope : Scope} {p lp cp pos : Pos} {jc : Nat} (hf : ck.tx.fns[g]? = some (some x)) (hg : glB ck.sc x = true) (hn : okNm x = true) (L : LamX.LamS ck.sc scope) (hw : ck.tx.txts[tw]? = some w)
    (hb : ∀ (A : Around) (outer : List PySem.Env) (s : Shared) (H : Hp) (E : XK) (f c' : Addr), Room (k + 1) (A.deeper (LamX.lamEnv X scope s.heap.objs.size f c')) → PE (LamX.lamCx X A outer s H E scope f c') body (tE r C (fun c d _ H => E c d H) e)) :
    PE X (.Call (.Name x p) [.Lambda ⟨[], [], none, [], [], none, []⟩ body scope lp, .Constant (.str w) jc cp] [] pos) (tE r C W (.askT g e tw)) := by
  obtain ⟨⟨c, P, hco, TB, hmT, hu⟩, hr⟩ := h.lam hlm
  have gl : Gl X x := gl_of h.sc (glB_iff hg)
  have L2 : LamX.LamS X.env.scope scope := by rw [h.sc]; exact L
  have mi : X.mg "isinstance" = none := h.cx.bi _ (by decide +kernel)
  have sk : (∀ oc, C.pr.askW g tw oc = none) → PE X (.Call (.Name x p) [.Lambda ⟨[], [], none, [], [], none, []⟩ body scope lp, .Constant (.str w) jc cp] [] pos) (tE r C W (.askT g e tw)) := fun hz => by
    refine ⟨fun pins s σ H Q I q => ?_⟩
    obtain ⟨ms, xs, S, ρ, s, en, gd⟩ := q
    exfalso
    simp only [evE, hz] at gd
    split at gd <;> exact gd
  cases ht : lookN g C.pr.asks_ with
  | none => exact sk fun oc => by simp only [Prog.askW, ht]
  | some t =>
    obtain ⟨A, st, fd, ps, Ng, hA, hm, F, B, sh⟩ := h.cx.askF g t x ht hf
    obtain ⟨oc, od, kV, doc, pm, an, cdv, ct, osl, rfl, lk, hcd⟩ := F.ex
    have nz : C.pr.asks_ ≠ [] := fun z => by rw [z] at ht; cases ht
    cases sh with
    | full => exact sk fun oc => by simp only [Prog.askW, ht]
    | kinds => exact sk fun oc => by simp only [Prog.askW, ht]
    | @text cl ca cb t0 ta tb j j1 j2 a b fn en cn yA yB w0 wA wB _ _ _ _ _ _ _ _ _ _ _ _ _ _ _ _ _ _ _ _ _ _ _ _ _ _ _ _ _ _ _ hp h1 h2 h3 k0 kA kB k3 k4 hbd sc hN ha hbb hfn hen hcn hyA hyB hi =>
      subst hp
      obtain ⟨CS, k1, m1⟩ := h.cx.clsN cl cn h1
      obtain ⟨aA, k2, m2⟩ := h.cx.clsN ca yA h2
      obtain ⟨aB, k5, m3⟩ := h.cx.clsN cb yB h3
      have same : ∀ (t : Nat) (u : Str), ck.tx.txts[t]? = some u → decide (u = w) = decide (t = tw) := fun t u hu => by
        have nd : ck.tx.txts.Nodup := h.cx.tnd.1
        rw [decide_eq_decide]
        constructor
        · intro e
          rw [e] at hu
          exact (List.getElem?_inj (List.getElem?_eq_some_iff.mp hu).1 nd).mp (hu.trans hw.symm)
        · intro e
          rw [e, hw] at hu
          exact (Option.some.inj hu).symm
      have hG : GivesT X Ng x (defScope st) A cdv (defBody st) a (X.env.qual ++ "<lambda>") w (TTt X.K CS aA aB w0 wA wB w) := by
        rw [hbd]
        exact text_gives hN sc.nd hbb hfn hen hcn hyA hyB hi mi m1 m2 m3 k3 k4
      refine PE.imp (pe_lamT (prm := ⟨[], [], none, [], [], none, []⟩) (p := p) (lpos := lp) (cpos := cp) (pos := pos) (j := jc) (k := k + 1) (T := r.T) (t := fun E => tE r C (fun c d _ H => E c d H) e) gl hm F.kp lk hcd B sc (by rw [hN]; rfl) (.inl ha.1) hG TB hco hmT hu hr L2 (by rfl) (fun _ _ _ _ _ => rfl) hb (okNm_iff hn).1 ha.2.1 ha.2.2) fun σ H Q q => ?_
      obtain ⟨ms, xs, S, ρ, s, en, gd⟩ := q
      refine ⟨s.tabs, fun H1 eN T1 sz E Q2 hE hQ2 => ?_⟩
      obtain ⟨x1, s1⟩ := s.extN eN T1 sz
      refine ⟨ms, xs, S, ρ, s1, en.mono x1, ?_⟩
      replace gd := Good.ext x1 gd
      simp only [evE, Prog.askW, ht] at gd
      cases hq : evE C e ρ S with
      | stuck => rw [hq] at gd; exact gd
      | ok d S' =>
        rw [hq] at gd
        intro ms' H' x2 s2 v rv
        refine hQ2 v H' ?_
        rw [same t0 w0 k0]
        exact gd ms' H' x2 s2 _ .of_bl
      | exc c S' =>
        rw [hq] at gd
        intro ms' H' x2 s2 ac hac
        dsimp only at gd
        split at gd
        · rename_i hrs
          simp only [Bool.and_eq_true] at hrs
          obtain ⟨e1, e2⟩ := h.cx.excX c ac hac hrs.1 nz
          obtain ⟨e4, e5⟩ := h.cx.exmX c g (.text cl ca cb t0 ta tb) ac CS hac k1 hrs.1 ht
          have e5 : PySem.W.exmOne X.K (.ref ac) (.ref CS) = some (C.pr.sub c cl) := e5
          rw [hrs.2] at e5
          have kA2 := h.cx.kitX c ca ac aA hac k2 hrs.1 (e4 _ (by simp [AskT.cs]))
          have kB2 := h.cx.kitX c cb ac aB hac k5 hrs.1 (e4 _ (by simp [AskT.cs]))
          cases b1 : C.pr.sub c ca <;> cases b2 : C.pr.sub c cb <;> rw [b1] at kA2 gd <;> rw [b2] at kB2 gd
          · refine hE ac H' _ _ e1 e5 kA2 kB2 rfl ?_
            simp only [Bool.false_eq_true, if_false, same t0 w0 k0]
            exact gd ms' H' x2 s2 _ .of_bl
          · refine hE ac H' _ _ e1 e5 kA2 kB2 rfl ?_
            simp only [Bool.false_eq_true, if_false, if_true, same tb wB kB]
            exact gd ms' H' x2 s2 _ .of_bl
          · refine hE ac H' _ _ e1 e5 kA2 kB2 rfl ?_
            simp only [if_true, same ta wA kA]
            exact gd ms' H' x2 s2 _ .of_bl
          · exact gd.elim
        · exact gd.elim
theorem Sim.ext_out {ms xs : List Addr} {H : Hp} {S : Store} {c : Addr} {φ : Heap → Prop} (s : Sim r ms xs H S) (h : H c = some (.ext φ)) : c ∉ ms ∧ c ∉ xs := by
  refine ⟨fun q => ?_, fun q => ?_⟩
  · obtain ⟨n, hn, e⟩ := List.getElem_of_mem q
    have hS : n < S.length := by rw [← s.len]; exact hn
    have z := s.obj n S[n] c (List.getElem?_eq_getElem hS) (by rw [List.getElem?_eq_getElem hn, e])
    rw [h] at z
    cases q2 : S[n] with
    | lst ds => rw [q2] at z; obtain ⟨_, e, _⟩ := z; cases e
    | ins c fs => rw [q2] at z; obtain ⟨_, _, _, e, _⟩ := z; cases e
    | dic kvs => rw [q2] at z; obtain ⟨_, e, _⟩ := z; cases e
  · obtain ⟨o, e, _, t⟩ := s.xin c q
    rw [h] at e
    cases e
    exact t φ rfl
theorem so_lamV (h : Here X r C W ck k) (hlm : ck.lm = true) {f : Nat} {e : E} {body : Expr} {scope : Scope} {p pos : Pos} (hf : lookN f ck.tx.lams = some e) (hs : scB [lamN] [lamN] scope = true) (hb : chE ⟨ck.tx, scope, [lamN], false⟩ e body = true) :
    PE X (.Lambda ⟨[], [⟨lamN, none, p⟩], none, [], [], none, []⟩ body scope pos) (tE r C W (.lamV f e)) := by
  obtain ⟨⟨c, P, hco, TB, hmT, hu⟩, hr⟩ := h.lam hlm
  have nf : ∀ y ∈ scope.names, y.2 ≠ .free := fun y hy z => by
    simp only [scB, Bool.and_eq_true, List.all_eq_true] at hs
    have := hs.2 y hy
    rw [z] at this
    cases this
  refine PE.imp (pe_lamV (T := r.T) TB hco hmT hu (by rfl) nf) fun σ H Q q => ?_
  obtain ⟨ms, xs, S, ρ, s, en, g⟩ := q
  simp only [evE] at g
  refine ⟨s.tabs, fun l c' G eN TG sz hl hc => ?_⟩
  obtain ⟨x1, s1⟩ := s.extN eN TG sz
  have x2 : Ext ms G ms (upd G l (LmO (X.env.qual ++ "<lambda>") ⟨[], [⟨lamN, none, p⟩], none, [], [], none, []⟩ body scope c' l)) := Ext.new hl
  have s2 := s1.new (o := LmO (X.env.qual ++ "<lambda>") ⟨[], [⟨lamN, none, p⟩], none, [], [], none, []⟩ body scope c' l) hl (fun vs z => by unfold LmO at z; cases z) (fun vs z => by unfold LmO at z; cases z)
  have ne : c' ≠ l := ne_of_none hc hl
  have hc2 : upd G l (LmO (X.env.qual ++ "<lambda>") ⟨[], [⟨lamN, none, p⟩], none, [], [], none, []⟩ body scope c' l) c' = some (LamX.CodeO c' (X.env.qual ++ "<lambda>")) := by
    rw [upd_ne ne]; exact hc
  refine g ms _ (x1.trans x2) s2 (.ref l) ?_
  simp only [RelD]
  exact ⟨l, c', _, _, body, scope, rfl, h.cx.lamI f _ _ _ _ ⟨e, p, hf, rfl, hs, hb⟩, upd_same, hc2, s1.fresh hl, s2.ext_out hc2⟩
theorem own_map (N : List Str) (own : List Nat) : (ownOf N own).map (·.2) = own := by
  unfold ownOf
  rw [List.map_map]
  exact List.map_id' _
theorem glb_rel (h : Here X r C W ck k) {x : Str} {d : D} {p : Pos} (hg : glB ck.sc x = true) (hn : okNm x = true) (hd : glbB ck.tx x d = true) : PE X (.Name x p) (tE r C W (.g d)) := by
  have gl : Gl X x := gl_of h.sc (glB_iff hg)
  have fin : ∀ v, (∃ u, X.mg x = some u ∧ RelV v u) → (∀ ms xs H, RelD r ms xs H d v) → PE X (.Name x p) (tE r C W (.g d)) := by
    intro v hv rd
    obtain ⟨u, hu, ru⟩ := hv
    refine PE.imp (pe_glob gl hu ru (okNm_iff hn).1) fun σ H Q q => ?_
    obtain ⟨ms, xs, S, ρ, s, e, g⟩ := q
    simp only [evE] at g
    exact g ms H .refl s v (rd _ _ _)
  cases d with
  | int i =>
    simp only [glbB, decide_eq_true_eq] at hd
    obtain ⟨t, ht⟩ := h.cx.nums x i hd
    exact fin (.int i) ⟨_, ht, t, rfl⟩ fun _ _ _ => .of_int
  | fn f =>
    simp only [glbB, decide_eq_true_eq] at hd
    obtain ⟨a, ha, hm⟩ := h.cx.fns f x hd
    exact fin (.ref a) ⟨_, hm, rfl⟩ fun _ _ _ => by simp only [RelD]; exact ⟨a, ha, rfl⟩
  | cls c =>
    simp only [glbB, decide_eq_true_eq] at hd
    obtain ⟨a, ha, hm⟩ := h.cx.clsN c x hd
    exact fin (.ref a) ⟨_, hm, rfl⟩ fun _ _ _ => by simp only [RelD]; exact ⟨a, ha, rfl⟩
  | _ => simp [glbB] at hd
theorem kst_rel (h : Here X r C W ck k) {d : D} {c : Const} {j : Nat} {p : Pos} (hk : kstB ck.tx d c = true) : PE X (.Constant c j p) (tE r C W (.c d)) := by
  have fin : ∀ v, PE X (.Constant c j p) (tC v) → (∀ ms xs H, RelD r ms xs H d v) → PE X (.Constant c j p) (tE r C W (.c d)) := by
    intro v hp rd
    refine PE.imp hp fun σ H Q q => ?_
    obtain ⟨ms, xs, S, ρ, s, e, g⟩ := q
    simp only [evE] at g
    exact g ms H .refl s v (rd _ _ _)
  cases d <;> cases c <;> simp only [kstB] at hk <;> first | cases hk | skip
  · exact fin .non pe_non fun _ _ _ => .of_non
  · have := eq_of_beq hk; subst this; exact fin (.bl _) pe_bl fun _ _ _ => .of_bl
  · have := of_decide_eq_true hk; subst this; exact fin (.int _) pe_int fun _ _ _ => .of_int
  · have := of_decide_eq_true hk
    exact fin (.str _) pe_str fun _ _ _ => by simp only [RelD]; exact ⟨_, by rw [h.cx.txts]; exact this, rfl⟩
theorem var_rel (h : Here X r C W ck k) {i : Nat} {x : Str} {p : Pos} (hi : ck.N[i]? = some x) (hv : visB ck.sc x = true) (hn : okNm x = true) : PE X (.Name x p) (tE r C W (.v i)) := by
  refine PE.imp (pe_var (i := i) (by rw [h.N]; exact hi) (by rw [h.sc]; exact visB_iff hv) (okNm_iff hn).1 (okNm_iff hn).2.1) fun σ H Q q => ?_
  obtain ⟨ms, xs, S, ρ, s, e, g⟩ := q
  simp only [evE] at g
  cases hd : ρ[i]?.join with
  | none => rw [hd] at g; exact g.elim
  | some d =>
    rw [hd] at g
    obtain ⟨v, h1, h2⟩ := e.get hd
    exact ⟨v, h1, g ms H .refl s v h2⟩
theorem comp_rel (h : Here X r C W ck k) {m : Bool} {own : List Nat} {tg : T} {src : Src} {ifs : Es} {elt : E} {x t it : Expr} {cs : List Expr} {sc : Scope} {p : Pos} (hb : blkC ck.N ck.sc sc (ownOf ck.N own) = true) (hi : PI X t it (tI r C W src)) (hsl : (slots tg).all (fun i => own.contains i) = true)
    (hg : tgB { ck with sc := sc } tg t = true) (hset : noSet it = true) (hl : cs.length ≤ 1)
    (hif : ∀ (s : Shared) (H : Hp) (Cc : Addr) (cl : List (Str × Addr)) (fp : List Addr), AllP (X.blk s H sc (compEnvC sc cl Cc X.env) fp) r C (fun _ _ _ _ => False) ifs cs)
    (he : ∀ (s : Shared) (H : Hp) (Cc : Addr) (cl : List (Str × Addr)) (fp : List Addr), PE (X.blk s H sc (compEnvC sc cl Cc X.env) fp) x (tE r C (fun _ _ _ _ => False) elt)) :
    PE X (.ListComp x [⟨t, it, cs, 0⟩] sc p) (tE r C W (.comp m own tg src ifs elt)) := by
  have ok : BlkOk X.N X.env.scope sc (ownOf ck.N own) := by rw [h.N, h.sc]; exact blkOk_by hb
  have hpg : ∀ (s : Shared) (H : Hp) (Cc : Addr) (cl : List (Str × Addr)) (fp : List Addr), PG (X.blk s H sc (compEnvC sc cl Cc X.env) fp) t (tG r tg) := fun s H Cc cl fp => by
    refine pg_of (X := X.blk s H sc (compEnvC sc cl Cc X.env) fp) (ck := { ck with sc := sc }) h.cx.calm h.cx.nd h.N (fun y hy => ?_) tg t hg
    have hrel : (compEnvC sc cl Cc X.env).scope = relS sc X.env.scope := rfl
    have loc := locB_iff hy
    rcases loc with l | l
    · have l2 : (relS sc X.env.scope).names.lookup y = some .local := lookup_relS_keep (by decide) l
      exact ⟨.inl l2, .inr l2⟩
    · have l2 : (relS sc X.env.scope).names.lookup y = some .cell := lookup_relS_keep (by decide) l
      exact ⟨.inr l2, .inl (by show (sc.names.lookup y == some .cell) = true; rw [l]; rfl)⟩
  refine PE.imp (pe_lc (own := ownOf ck.N own) h.cx.calm h.cx.nd hi ok hpg (fun s H Cc cl fp => pts_of (hif s H Cc cl fp) hl) he (fold_of hset)) fun σ H Q q => ?_
  obtain ⟨ms, xs, S, ρ, s, e, g⟩ := q
  simp only [evE] at g
  rw [own_map]
  refine ⟨ms, xs, S, ρ, s, e, g.bind.mono (fun w S1 m1 H1 x1 s1 g1 J hok wr => ?_) fun _ _ _ _ _ _ z => z⟩
  refine lc_of (fun i hi => ?_) s1 (e.mono x1) hok wr g1
  have := List.all_eq_true.mp hsl i hi
  exact List.contains_iff_mem.mp this
mutual
theorem sndE : ∀ (i : E) (e : Expr) (X : Cx) (W : WX) (ck : Ck), Here X r C W ck k → chE ck i e = true → PP X r C W i e
  | .c d, e, X, W, ck, h, hc => by
    simp only [chE] at hc
    split at hc
    · exact pp_plain (kst_rel h hc) rfl
    · cases hc
  | .v i, e, X, W, ck, h, hc => by
    simp only [chE] at hc
    split at hc
    · simp only [Bool.and_eq_true, decide_eq_true_eq] at hc
      exact pp_plain (var_rel h hc.1.1 hc.1.2 hc.2) rfl
    · cases hc
  | .g d, e, X, W, ck, h, hc => by
    simp only [chE] at hc
    split at hc
    · simp only [Bool.and_eq_true] at hc
      exact pp_plain (glb_rel h hc.1.1 hc.1.2 hc.2) rfl
    · cases hc
  | .op o es, e, X, W, ck, h, hc => by
    simp only [chE] at hc
    split at hc
    · rename_i xs hx
      simp only [Bool.and_eq_true] at hc
      have a := allE_of (sndEs es xs X W ck h hc.2)
      have hp := hc.1
      cases o
      case eq => exact pp_cmp (cv_eq h.cx) hx a
      case ne => exact pp_cmp (cv_ne h.cx) hx a
      case lt => exact pp_cmp (cv_lt h.cx) hx a
      case le => exact pp_cmp cv_le hx a
      case gt => exact pp_cmp cv_gt hx a
      case ge => exact pp_cmp cv_ge hx a
      case is => exact pp_cmp cv_is hx a
      case isnot => exact pp_cmp cv_isnot hx a
      case isin => exact pp_cmp (cv_isin h.cx) hx a
      case notin => exact pp_cmp (cv_notin h.cx) hx a
      all_goals exact pp_plain (so_op h.cx h.sc h.cx.cdb hx a) hp
    · cases hc
  | .and es, e, X, W, ck, h, hc => by
    simp only [chE] at hc
    split at hc
    · obtain ⟨h1, h2⟩ := pp_and (sndEs es _ X W ck h hc)
      exact ⟨h1, h2.pt⟩
    · cases hc
  | .or es, e, X, W, ck, h, hc => by
    simp only [chE] at hc
    split at hc
    · obtain ⟨h1, h2⟩ := pp_or (sndEs es _ X W ck h hc)
      exact ⟨h1, h2.pt⟩
    · cases hc
  | .not a, e, X, W, ck, h, hc => by
    simp only [chE] at hc
    split at hc
    · exact pp_not (sndE a _ X W ck h hc)
    · cases hc
  | .ite a b c, e, X, W, ck, h, hc => by
    simp only [chE] at hc
    split at hc
    · simp only [Bool.and_eq_true] at hc
      exact pp_ite (sndE a _ X W ck h hc.1.1) (sndE b _ X W ck h hc.1.2) (sndE c _ X W ck h hc.2)
    · cases hc
  | .ch o p a b c, e, X, W, ck, h, hc => by
    simp only [chE] at hc
    split at hc
    · simp only [Bool.and_eq_true, decide_eq_true_eq] at hc
      obtain ⟨⟨⟨⟨⟨⟨h1, h2⟩, h3⟩, h4⟩, h5⟩, h6⟩, h7⟩ := hc
      exact pp_ch (cv_of h.cx h1) (cv_of h.cx h2) (sndE a _ X W ck h h5).pe (sndE b _ X W ck h h6).pe (sndE c _ X W ck h h7).pe h4
    · cases hc
  | .ch3 o p q a b c d, e, X, W, ck, h, hc => by
    simp only [chE] at hc
    split at hc
    · simp only [Bool.and_eq_true, decide_eq_true_eq] at hc
      obtain ⟨⟨⟨⟨⟨⟨⟨h1, h2⟩, h3⟩, h4⟩, h5⟩, h6⟩, h7⟩, h8⟩ := hc
      exact pp_ch3 (cv_of h.cx h1) (cv_of h.cx h2) (cv_of h.cx h3) (sndE a _ X W ck h h5).pe (sndE b _ X W ck h h6).pe (sndE c _ X W ck h h7).pe (sndE d _ X W ck h h8).pe h4
    · cases hc
  | .ask g e, x, X, W, ck, h, hc => by
    simp only [chE] at hc
    split at hc
    · simp only [Bool.and_eq_true, decide_eq_true_eq] at hc
      obtain ⟨⟨⟨⟨⟨h1, h2⟩, h3⟩, h4⟩, h5⟩, h6⟩ := hc
      exact pp_plain (so_ask h h1 h2 h3 h4 (LamX.lamS_by h5) fun A outer s H E f c' hr => (sndE e _ _ _ _ (here_lam h hr) h6).pe) rfl
    · cases hc
  | .askT g e t, x, X, W, ck, h, hc => by
    simp only [chE] at hc
    split at hc
    · simp only [Bool.and_eq_true, decide_eq_true_eq] at hc
      obtain ⟨⟨⟨⟨⟨⟨h1, h2⟩, h3⟩, h4⟩, h5⟩, h6⟩, h7⟩ := hc
      exact pp_plain (so_askT h h1 h2 h3 h4 (LamX.lamS_by h5) h6 fun A outer s H E f c' hr => (sndE e _ _ _ _ (here_lam h hr) h7).pe) rfl
    · cases hc
  | .lamV f e, x, X, W, ck, h, hc => by
    simp only [chE] at hc
    split at hc
    · simp only [Bool.and_eq_true, decide_eq_true_eq] at hc
      obtain ⟨⟨⟨⟨h1, h2⟩, h3⟩, h4⟩, h5⟩ := hc
      subst h3
      exact pp_plain (so_lamV h h1 h2 h4 h5) rfl
    · cases hc
  | .mxk b a i m e, x, X, W, ck, h, hc => by
    simp only [chE] at hc
    split at hc
    · simp only [Bool.and_eq_true, decide_eq_true_eq] at hc
      obtain ⟨⟨⟨⟨⟨⟨⟨⟨⟨⟨⟨⟨⟨⟨h0, h1⟩, h2⟩, h3⟩, h4⟩, h5⟩, h6⟩, h7⟩, h8⟩, h9⟩, h10⟩, h11⟩, h12⟩, h13⟩, h14⟩ := hc
      subst h1 h3 h4 h5 h6
      exact pp_plain (so_mxk h h0 h2 h7 h8 h9 h10 h11 (lam1_by h12) h13 (sndE e _ X W ck h h14).pe) rfl
    · cases hc
  | .comp m own tg src ifs elt, e, X, W, ck, h, hc => by
    simp only [chE] at hc
    split at hc
    · simp only [Bool.and_eq_true, decide_eq_true_eq] at hc
      obtain ⟨⟨⟨⟨⟨⟨⟨⟨h1, h2⟩, h3⟩, h4⟩, h5⟩, h6⟩, h7⟩, h8⟩, h9⟩ := hc
      exact pp_plain (comp_rel h h1 (sndSrc src _ _ X W ck _ tg h h2 h3 h5) h4 h5 h9 h7 (fun s H Cc cl fp => sndEs ifs _ _ _ _ (here_blk h) h6) (fun s H Cc cl fp => (sndE elt _ _ _ _ (here_blk h) h8).pe)) rfl
    · cases hc
  | .call f es, e, X, W, ck, h, hc => by
    simp only [chE] at hc
    split at hc
    · simp only [Bool.and_eq_true, decide_eq_true_eq] at hc
      exact pp_plain (so_call h hc.1.1.1 hc.1.1.2 hc.1.2 (allE_of (sndEs es _ X W ck h hc.2))) rfl
    · cases hc
  | .callv i es, e, X, W, ck, h, hc => by
    simp only [chE] at hc
    split at hc
    · simp only [Bool.and_eq_true, decide_eq_true_eq] at hc
      exact pp_plain (so_callv h hc.1.1.1 hc.1.1.2 hc.1.2 (allE_of (sndEs es _ X W ck h hc.2))) rfl
    · cases hc
  | .mk c es, e, X, W, ck, h, hc => by
    simp only [chE] at hc
    split at hc
    · simp only [Bool.and_eq_true, decide_eq_true_eq] at hc
      exact pp_plain (so_mk h hc.1.1.1 hc.1.1.2 hc.1.2 (allE_of (sndEs es _ X W ck h hc.2))) rfl
    · cases hc
  | .meth o m es, e, X, W, ck, h, hc => by
    simp only [chE] at hc
    split at hc
    · simp only [Bool.and_eq_true, decide_eq_true_eq] at hc
      exact pp_plain (so_meth h hc.1.1.1.1.1 hc.1.1.1.1.2 hc.1.1.1.2 hc.1.1.2 (sndE o _ X W ck h hc.1.2).pe (allE_of (sndEs es _ X W ck h hc.2))) rfl
    · cases hc
  | .lm p o es, e, X, W, ck, h, hc => by
    simp only [chE] at hc
    split at hc
    · simp only [Bool.and_eq_true, decide_eq_true_eq] at hc
      obtain ⟨⟨⟨⟨⟨⟨rfl, h2⟩, h3⟩, h4⟩, h5⟩, h6⟩, h7⟩ := hc
      exact pp_plain (so_lm (sndE o _ X W ck h h6).pe h2 h3 (allE_of (sndEs es _ X W ck h h7)) h5 h4) rfl
    · cases hc
  | .lq p o es, e, X, W, ck, h, hc => by
    simp only [chE] at hc
    split at hc
    · simp only [Bool.and_eq_true, decide_eq_true_eq] at hc
      obtain ⟨⟨⟨⟨⟨⟨rfl, h2⟩, h3⟩, h4⟩, h5⟩, h6⟩, h7⟩ := hc
      exact pp_plain (so_lq h.cx (sndE o _ X W ck h h6).pe h3 h4 (allE_of (sndEs es _ X W ck h h7)) h2) rfl
    · cases hc
theorem sndEs : ∀ (is : Es) (es : List Expr) (X : Cx) (W : WX) (ck : Ck), Here X r C W ck k → chEs ck is es = true → AllP X r C W is es
  | .nil, [], X, W, ck, h, hc => .nil
  | .nil, _ :: _, X, W, ck, h, hc => by simp [chEs] at hc
  | .cons i is, [], X, W, ck, h, hc => by simp [chEs] at hc
  | .cons i is, e :: es, X, W, ck, h, hc => by
    simp only [chEs, Bool.and_eq_true] at hc
    exact .cons hc.1.1 (sndE i e X W ck h hc.1.2) (sndEs is es X W ck h hc.2)
theorem sndSrc : ∀ (src : Src) (it t : Expr) (X : Cx) (W : WX) (ck ck' : Ck) (tg : T), Here X r C W ck k → chSrc ck src it = true → (!tpSrc src || T.isTp tg) = true → tgB ck' tg t = true → PI X t it (tI r C W src)
  | .seq a, it, t, X, W, ck, ck', tg, h, hc, ht, hg => by
    simp only [chSrc] at hc
    exact si_seq (sndE a it X W ck h hc).pe
  | .rng a, it, t, X, W, ck, ck', tg, h, hc, ht, hg => by
    simp only [chSrc] at hc
    split at hc
    · simp only [Bool.and_eq_true, decide_eq_true_eq] at hc
      obtain ⟨⟨⟨rfl, h2⟩, h3⟩, h4⟩ := hc
      exact si_rng (gl_of h.sc (glB_iff h2)) (h.cx.bi _ (by decide +kernel)) h3 (sndE a _ X W ck h h4).pe
    · cases hc
  | .rng2 a b, it, t, X, W, ck, ck', tg, h, hc, ht, hg => by
    simp only [chSrc] at hc
    split at hc
    · simp only [Bool.and_eq_true, decide_eq_true_eq] at hc
      obtain ⟨⟨⟨⟨⟨rfl, h2⟩, h3⟩, h4⟩, h5⟩, h6⟩ := hc
      exact si_rng2 (gl_of h.sc (glB_iff h2)) (h.cx.bi _ (by decide +kernel)) h3 h4 (sndE a _ X W ck h h5).pe (sndE b _ X W ck h h6).pe
    · cases hc
  | .enum a, it, t, X, W, ck, ck', tg, h, hc, ht, hg => by
    simp only [chSrc] at hc
    split at hc
    · simp only [Bool.and_eq_true, decide_eq_true_eq] at hc
      obtain ⟨⟨⟨rfl, h2⟩, h3⟩, h4⟩ := hc
      cases tg with
      | nm i => simp [tpSrc, T.isTp] at ht
      | tp ts =>
        cases t <;> first | (simp [tgB] at hg; done) | skip
        exact si_enum (gl_of h.sc (glB_iff h2)) (h.cx.bi _ (by decide +kernel)) h3 (sndE a _ X W ck h h4).pe
    · cases hc
  | .zip a b, it, t, X, W, ck, ck', tg, h, hc, ht, hg => by
    simp only [chSrc] at hc
    split at hc
    · simp only [Bool.and_eq_true, decide_eq_true_eq] at hc
      obtain ⟨⟨⟨⟨⟨rfl, h2⟩, h3⟩, h4⟩, h5⟩, h6⟩ := hc
      cases tg with
      | nm i => simp [tpSrc, T.isTp] at ht
      | tp ts =>
        cases t <;> first | (simp [tgB] at hg; done) | skip
        exact si_zip (gl_of h.sc (glB_iff h2)) (h.cx.bi _ (by decide +kernel)) h3 h4 (sndE a _ X W ck h h5).pe (sndE b _ X W ck h h6).pe
    · cases hc
end
end
end Mi
namespace Mi
open PySem L2
def swB (sc : Scope) (value : Expr) (y : Str) (py : Pos) : Bool := match value with
  | .ListComp _ _ s pos => lclB sc y && (py.line == pos.line) && !(s.names.any fun (n, k) => n == y && (k == .local || k == .cell))
  | _ => false
def noTup : Expr → Bool
  | .Tuple _ _ _ => false
  | _ => true
def noSetDict : Expr → Bool
  | .SetComp _ _ _ _ => false
  | .DictComp _ _ _ _ _ => false
  | _ => true
def swN (sc : Scope) (ts : List Expr) : List Str := ts.filterMap fun
  | .Name id pos => if sc.names.lookup id == some .local && pos.line == (ts.head?.map (·.pos.line)).getD 0 then some id else none
  | _ => none
def swNo (sc : Scope) (ts vs : List Expr) : Bool := !(ts.length == 2 || ts.length == 3) || vs.length != ts.length || (vs.any fun | .Starred .. => true | _ => false) || (swN sc ts).length != ts.length || (swN sc ts).eraseDups.length != (swN sc ts).length || vs.all (foldedForSure 8)
def swYes (sc : Scope) (ts vs : List Expr) : Bool := (ts.length == 2 || ts.length == 3) && vs.length == ts.length && !(vs.any fun | .Starred .. => true | _ => false) && (swN sc ts).length == ts.length && (swN sc ts).eraseDups.length == (swN sc ts).length && !vs.all (foldedForSure 8) && !vs.all (constantsAlone 8)
def raiseB (ck : Ck) (c : Nat) : Expr → Bool
  | .Call (.Name x _) [.Constant (.str _) _ _] [] _ => decide (ck.tx.cls[c]? = some x) && glB ck.sc x && okNm x
  | _ => false
def opA : Op → Option Operator
  | .add _ => some .Add
  | .sub => some .Sub
  | _ => none
def E.isComp : E → Bool
  | .comp _ _ _ _ _ _ => true
  | _ => false
mutual
def chS (ck : Ck) : St → Stmt → Bool
  | .asg tg e, s => match s with
    | .Assign [.Name y py] v _ => (match tg with
      | .nm i => decide (ck.N[i]? = some y) && locB ck.sc y && okNm y
      | _ => false) && noSetDict v && (!swB ck.sc v y py || e.isComp) && chE ck e v
    | .Assign [.Tuple ts k p] v _ => T.isTp tg && tgB ck tg (.Tuple ts k p) && noSetDict v && (match v with
      | .Tuple vs _ _ => swNo ck.sc ts vs
      | _ => true) && chE ck e v
    | _ => false
  | .par is es, s => match s with
    | .Assign [.Tuple ts _ _] (.Tuple vs _ _) _ => (match is, ts, vs with
      | [i, j], [.Name x _, .Name y _], [_, _] => decide (ck.N[i]? = some x) && decide (ck.N[j]? = some y) && decide (i ≠ j) && lclB ck.sc x && lclB ck.sc y
      | [i, j, l], [.Name x _, .Name y _, .Name z _], [_, _, _] => decide (ck.N[i]? = some x) && decide (ck.N[j]? = some y) && decide (ck.N[l]? = some z) && decide (i ≠ j) && decide (i ≠ l) && decide (j ≠ l) && lclB ck.sc x && lclB ck.sc y && lclB ck.sc z
      | _, _, _ => false) && swYes ck.sc ts vs && chEs ck es vs
    | _ => false
  | .fld o n e, s => match s with
    | .Assign [.Attribute x f _] v _ => decide (ck.tx.attrs[n]? = some f) && noSetDict v && chE ck e v && chE ck o x
    | _ => false
  | .put o i e, s => match s with
    | .Assign [.Subscript x y _] v _ => noSlice y && noSetDict v && chE ck e v && chE ck o x && chE ck i y
    | _ => false
  | .put2 o i o2 i2 e, s => match s with
    | .Assign [.Tuple [.Subscript x y _, .Subscript x2 y2 _] _ _] (.Tuple vs _ _) _ => noSlice y && noSlice y2 && (match e with
      | .op .mkT es => chEs ck es vs
      | _ => false) && chE ck o x && chE ck i y && chE ck o2 x2 && chE ck i2 y2
    | _ => false
  | .aug i o e, s => match s with
    | .AugAssign (.Name x _) op v _ => decide (ck.N[i]? = some x) && locB ck.sc x && okNm x && decide (opA o = some op) && chE ck e v
    | _ => false
  | .augI o i p e, s => match s with
    | .AugAssign (.Subscript x y _) op v _ => noSlice y && decide (opA p = some op) && chE ck o x && chE ck i y && chE ck e v
    | _ => false
  | .expr e, s => match s with
    | .Expr v _ => noComp v && chE ck e v
    | _ => false
  | .ret e, s => match s with
    | .Return (some v) _ => chE ck e v
    | _ => false
  | .retN, s => match s with
    | .Return none _ => true
    | _ => false
  | .ite c a b, s => match s with
    | .If x u v _ => chE ck c x && chSs ck a u && chSs ck b v
    | _ => false
  | .for_ tg src body, s => match s with
    | .For t it b [] _ => chSrc ck src it && (!tpSrc src || T.isTp tg) && tgB ck tg t && noSet it && chSs ck body b
    | _ => false
  | .whl c body, s => match s with
    | .While x b [] _ => chE ck c x && chSs ck body b
    | _ => false
  | .raise c, s => match s with
    | .Raise (some x) none _ => raiseB ck c x
    | _ => false
  | .brk, s => match s with
    | .Break _ => true
    | _ => false
  | .pass, s => match s with
    | .Pass _ => true
    | _ => false
def chSs (ck : Ck) : Sts → List Stmt → Bool
  | .nil, [] => true
  | .cons a b, s :: ss => chS ck a s && chSs ck b ss
  | _, _ => false
end

theorem kind_block {env : PySem.Env} (hk : env.scope.kind = .function) : env.blockKind = .function := by unfold Env.blockKind; rw [hk]; rfl
theorem sw_no {env : PySem.Env} {ts vs : List Expr} {k k2 : Nat} {p p2 : Pos} (hk : env.scope.kind = .function) (h : swNo env.scope ts vs = true) : swappedStores [.Tuple ts k p] (.Tuple vs k2 p2) env = pure none := by
  unfold swappedStores
  simp only [kind_block hk]
  split
  · rfl
  · rename_i n1
    split
    · rfl
    · rename_i n2
      split
      · rfl
      · rename_i n3
        split
        · rfl
        · rename_i n4
          exfalso
          simp only [swNo, Bool.or_eq_true] at h
          rcases h with ((((h | h) | h) | h) | h) | h
          · exact n1 (by rw [h]; rfl)
          · exact n1 (by rw [h]; simp)
          · exact n2 h
          · exact n3 (Bool.or_eq_true _ _ ▸ .inl h)
          · exact n3 (Bool.or_eq_true _ _ ▸ .inr h)
          · exact n4 h
theorem sw_yes {env : PySem.Env} {ts vs : List Expr} {k k2 : Nat} {p p2 : Pos} (hk : env.scope.kind = .function) (h : swYes env.scope ts vs = true) : swappedStores [.Tuple ts k p] (.Tuple vs k2 p2) env = pure (some (swN env.scope ts)) := by
  simp only [swYes, Bool.and_eq_true, Bool.not_eq_true', beq_iff_eq] at h
  obtain ⟨⟨⟨⟨⟨⟨h1, h2⟩, h3⟩, h4⟩, h5⟩, h6⟩, h7⟩ := h
  unfold swappedStores
  simp only [kind_block hk]
  split
  · rename_i n1
    exfalso
    simp only [h1, h2] at n1
    simp at n1
  · split
    · rename_i n2
      exact absurd (h3.symm.trans n2) (by decide)
    · split
      · rename_i n3
        exfalso
        rcases (Bool.or_eq_true _ _).mp n3 with z | z
        · have : ((swN env.scope ts).length != ts.length) = true := z
          rw [h4] at this; simp at this
        · have : ((swN env.scope ts).eraseDups.length != (swN env.scope ts).length) = true := z
          rw [h5] at this; simp at this
      · split
        · rename_i n4
          exact absurd (h6.symm.trans n4) (by decide)
        · split
          · rename_i n5
            exact absurd (h7.symm.trans n5) (by decide)
          · rfl
theorem sw_any {env : PySem.Env} {ts : List Expr} {v : Expr} {k : Nat} {p : Pos} (h : noTup v = true) : swappedStores [.Tuple ts k p] v env = pure none := by
  cases v <;> first | rfl | (simp [noTup] at h)
theorem sw_comp {env : PySem.Env} {v : Expr} {y : Str} {py : Pos} {l : Nat} (hk : env.scope.kind = .function) (h : noSetDict v = true) : swapsWith v (some (.Name y py)) l env = pure (swB env.scope v y py) := by
  cases v <;> first | rfl | (simp [noSetDict] at h; done) | skip
  rename_i elt gs sc pos
  unfold swapsWith swB
  simp only [kind_block hk]
  have e : (env.kindOf y == some NameKind.local) = lclB env.scope y := by
    show (env.scope.names.lookup y == some NameKind.local) = lclB env.scope y
    unfold lclB
    cases env.scope.names.lookup y with
    | none => rfl
    | some k => cases k <;> rfl
  rw [e]
  rfl
theorem sw_else {env : PySem.Env} {v t : Expr} {l : Nat} (h : noSetDict v = true) (ht : ∀ y py, t ≠ .Name y py) : swapsWith v (some t) l env = pure false := by
  cases v <;> first | rfl | (simp [noSetDict] at h; done) | skip
  cases t <;> first | rfl | exact absurd rfl (ht _ _)
end Mi
namespace Mi
open PySem L2
section
variable (r : Rx) (C : Cf) (W : WX)
def exA : Nat → Store → List Addr → Hp → Prop := fun c _ _ H' => ∀ a, r.ca c = some a → ∀ σ, W (.ref a) none σ H'
def outK (xs : List Addr) (D : Ends) : Out → Store → List Addr → Hp → Prop := fun o _ ms' H' => match o with
  | .nx ρ => ∀ σ, REnv r ms' xs H' ρ σ → D.nx σ H'
  | .rt d => ∀ v, RelD r ms' xs H' d v → D.rt v H'
  | .bk ρ => ∀ σ, REnv r ms' xs H' ρ σ → D.bk σ H'
def tS (i : St) : TS := fun D σ H => ∃ ms xs S ρ, Sim r ms xs H S ∧ REnv r ms xs H ρ σ ∧ Good r xs ms H (exS C i ρ S) (outK r xs D) (exA r W)
def tSs (is : Sts) : TS := fun D σ H => ∃ ms xs S ρ, Sim r ms xs H S ∧ REnv r ms xs H ρ σ ∧ Good r xs ms H (exSs C is ρ S) (outK r xs D) (exA r W)
end
section
variable {X : Cx} {r : Rx} {C : Cf} {W : WX} {k : Nat} {ck : Ck} {ms xs : List Addr} {H : Hp} {σ : L2.St} {ρ : Env} {S : Store}
theorem sE_of {i : E} {Q : VK} {β : Type} {f : D → M β} {ok : β → Store → List Addr → Hp → Prop} (s : Sim r ms xs H S) (e : REnv r ms xs H ρ σ) (h : Good r xs ms H (bnd (evE C i ρ) f S) ok (exA r W))
    (q : ∀ d v S' ms' H', Ext ms H ms' H' → Sim r ms' xs H' S' → REnv r ms' xs H' ρ σ → RelD r ms' xs H' d v → Good r xs ms' H' (f d S') ok (exA r W) → Q v H') : tE r C W i σ H Q :=
  ⟨ms, xs, S, ρ, s, e, h.bind.mono (fun d S' ms' H' x s' g v rv => q d v S' ms' H' x s' (e.mono x) rv g) fun _ _ _ _ _ _ g a ha => g a ha σ⟩
theorem sEs_of {is : Es} {Q : List V → Hp → Prop} {β : Type} {f : List D → M β} {ok : β → Store → List Addr → Hp → Prop} (s : Sim r ms xs H S) (e : REnv r ms xs H ρ σ) (h : Good r xs ms H (bnd (evEs C is ρ) f S) ok (exA r W))
    (q : ∀ ds vs S' ms' H', Ext ms H ms' H' → Sim r ms' xs H' S' → REnv r ms' xs H' ρ σ → RelDs r ms' xs H' ds vs → Good r xs ms' H' (f ds S') ok (exA r W) → Q vs H') : tEs r C W is σ H Q :=
  ⟨ms, xs, S, ρ, s, e, h.bind.mono (fun d S' ms' H' x s' g v rv => q d v S' ms' H' x s' (e.mono x) rv g) fun _ _ _ _ _ _ g a ha => g a ha σ⟩
theorem sT_of {i : E} {Q : Bool → Hp → Prop} {β : Type} {f : Bool → M β} {ok : β → Store → List Addr → Hp → Prop} (s : Sim r ms xs H S) (e : REnv r ms xs H ρ σ) (h : Good r xs ms H (bnd (tst (evE C i ρ)) f S) ok (exA r W))
    (q : ∀ b S' ms' H', Ext ms H ms' H' → Sim r ms' xs H' S' → REnv r ms' xs H' ρ σ → Good r xs ms' H' (f b S') ok (exA r W) → Q b H') : tT r C W i σ H Q :=
  ⟨ms, xs, S, ρ, s, e, h.bind.mono (fun d S' ms' H' x s' g => q d S' ms' H' x s' (e.mono x) g) fun _ _ _ _ _ _ g a ha => g a ha σ⟩
structure HereS (X : Cx) (r : Rx) (C : Cf) (W : WX) (ck : Ck) (k : Nat) : Prop extends Here X r C W ck k where
  kind : X.env.scope.kind = .function
  fn : ∀ x, X.fn x = true
  po : PassesOwn (model X.prog X.w) X.A X.env X.xe
theorem tg_here (h : HereS X r C W ck k) {tg : T} {t : Expr} (hg : tgB ck tg t = true) : PG X t (tG r tg) :=
  pg_of h.cx.calm h.cx.nd h.N (fun x hx => ⟨by rw [h.sc]; exact locB_iff hx, .inl (h.fn x)⟩) tg t hg
theorem ss_name (h : HereS X r C W ck k) {i : Nat} {e : E} {y : Str} {py pos : Pos} {v : Expr} (hi : ck.N[i]? = some y) (hl : locB ck.sc y = true) (hs : swapsWith v (some (.Name y py)) pos.line X.env = pure false) (he : PE X v (tE r C W e)) :
    PS X (.Assign [.Name y py] v pos) (tS r C W (.asg (.nm i) e)) := by
  refine PS.imp (ps_set (i := i) h.cx.nd (by rw [h.N]; exact hi) (by rw [h.sc]; exact locB_iff hl) he hs (.inl (h.fn y))) fun D σ H q => ?_
  obtain ⟨ms, xs, S, ρ, s, en, g⟩ := q
  simp only [exS] at g
  refine sE_of s en g fun d v S1 m1 H1 x1 s1 e1 q1 g1 => ?_
  obtain ⟨ρ', hb, g2⟩ := g1.opt
  simp only [bindT, Option.some.injEq] at hb
  subst hb
  exact g2 m1 H1 .refl s1 _ (e1.set q1)
theorem ss_comp (h : HereS X r C W ck k) {i : Nat} {m : Bool} {own : List Nat} {tg : T} {src : Src} {ifs : Es} {elt : E} {y : Str} {py pos p : Pos} {x t it : Expr} {cs : List Expr} {sc : Scope} (hi : ck.N[i]? = some y)
    (hl : ck.sc.names.lookup y = some .local) (hs : swapsWith (.ListComp x [⟨t, it, cs, 0⟩] sc p) (some (.Name y py)) pos.line X.env = pure true) (hc : chE ck (.comp m own tg src ifs elt) (.ListComp x [⟨t, it, cs, 0⟩] sc p) = true) :
    PS X (.Assign [.Name y py] (.ListComp x [⟨t, it, cs, 0⟩] sc p) pos) (tS r C W (.asg (.nm i) (.comp m own tg src ifs elt))) := by
  simp only [chE, Bool.and_eq_true, decide_eq_true_eq] at hc
  obtain ⟨⟨⟨⟨⟨⟨⟨⟨h1, h2⟩, h3⟩, h4⟩, h5⟩, h6⟩, h7⟩, h8⟩, h9⟩ := hc
  have hh := h.toHere
  have ok : BlkOk X.N X.env.scope sc (ownOf ck.N own) := by rw [h.N, h.sc]; exact blkOk_by h1
  have hpg : ∀ (s : Shared) (H : Hp) (Cc : Addr) (cl : List (Str × Addr)) (fp : List Addr), PG (X.blk s H sc (compEnvC sc cl Cc X.env) fp) t (tG r tg) := fun s H Cc cl fp => by
    refine pg_of (X := X.blk s H sc (compEnvC sc cl Cc X.env) fp) (ck := { ck with sc := sc }) h.cx.calm h.cx.nd h.N (fun y hy => ?_) tg t h5
    rcases locB_iff hy with l | l
    · have l2 : (relS sc X.env.scope).names.lookup y = some .local := lookup_relS_keep (by decide) l
      exact ⟨.inl l2, .inr l2⟩
    · have l2 : (relS sc X.env.scope).names.lookup y = some .cell := lookup_relS_keep (by decide) l
      exact ⟨.inr l2, .inl (by show (sc.names.lookup y == some .cell) = true; rw [l]; rfl)⟩
  refine PS.imp (ps_setLc (i := i) (own := ownOf ck.N own) h.cx.calm h.cx.nd (by rw [h.N]; exact hi) (by rw [h.sc]; exact hl) hs (sndSrc src _ _ X W ck _ tg hh h2 h3 h5) ok hpg
    (fun s H Cc cl fp => pts_of (sndEs ifs _ _ _ _ (here_blk hh) h6) h7) (fun s H Cc cl fp => (sndE elt _ _ _ _ (here_blk hh) h8).pe) (fold_of h9)) fun D σ H q => ?_
  obtain ⟨ms, xs, S, ρ, s, e, g⟩ := q
  simp only [exS, evE, bnd_assoc] at g
  rw [own_map]
  refine ⟨ms, xs, S, ρ, s, e, g.bind.mono (fun w S1 m1 H1 x1 s1 g1 J hok wr => ?_) fun _ _ _ _ _ _ z a ha => z a ha σ⟩
  refine lc_of (W := fun _ _ _ _ => False) (Wx := W) (m := m) (tg := tg) (own := own) (Q := fun x H1 => gName i x σ H1 D.nx) (fun i hi => ?_) s1 (e.mono x1) hok wr ?_
  · exact List.contains_iff_mem.mp (List.all_eq_true.mp h4 i hi)
  · -- the value, then its store
    have g1' : Good r xs m1 H1 (bnd (bnd (noX (cmpL w.ok tg (evIfs C ifs) (evE C elt) w.ds (wipeE ρ own) [])) (fun ds => newL m ds)) (fun d => bnd (Mi.opt (bindT (.nm i) d ρ)) fun ρ' => Mi.ret (.nx ρ')) S1) (outK r xs D) (exA r W) := by
      rw [bnd_assoc]; exact g1
    refine g1'.bind.mono (fun d S2 m2 H2 x2 s2 g2 v rv => ?_) fun _ _ _ _ _ _ z a ha => z a ha σ
    exact g2 m2 H2 .refl s2 _ ((e.mono (x1.trans x2)).set rv)
theorem ss_tup (h : HereS X r C W ck k) {tg : T} {e : E} {ts : List Expr} {kk : Nat} {p pos : Pos} {v : Expr} (hg : tgB ck tg (.Tuple ts kk p) = true) (hsd : noSetDict v = true) (hw : swappedStores [.Tuple ts kk p] v X.env = pure none) (he : PE X v (tE r C W e)) :
    PS X (.Assign [.Tuple ts kk p] v pos) (tS r C W (.asg tg e)) := by
  refine PS.imp (ps_asg he (tg_here h hg) (show swapsWith v (some (.Tuple ts kk p)) pos.line X.env = pure false from sw_else hsd fun y py z => by cases z) hw rfl) fun D σ H q => ?_
  obtain ⟨ms, xs, S, ρ, s, en, g⟩ := q
  simp only [exS] at g
  refine sE_of s en g fun d v S1 m1 H1 x1 s1 e1 q1 g1 => ?_
  obtain ⟨ρ', hb, g2⟩ := g1.opt
  exact ⟨m1, xs, S1, ρ, d, ρ', s1, e1, q1, hb, fun σ' e' _ => g2 m1 H1 .refl s1 σ' e'⟩
theorem ss_par (h : HereS X r C W ck k) {is : List Nat} {es : Es} {ts vs : List Expr} {k1 k2 : Nat} {p p2 pos : Pos} (hc : chS ck (.par is es) (.Assign [.Tuple ts k1 p] (.Tuple vs k2 p2) pos) = true) : PS X (.Assign [.Tuple ts k1 p] (.Tuple vs k2 p2) pos) (tS r C W (.par is es)) := by
  simp only [chS, Bool.and_eq_true] at hc
  obtain ⟨⟨h1, h2⟩, h3⟩ := hc
  have a := allE_of (sndEs es vs X W ck h.toHere h3)
  have hw := sw_yes (env := X.env) (ts := ts) (vs := vs) (k := k1) (k2 := k2) (p := p) (p2 := p2) h.kind (by rw [h.sc]; exact h2)
  have hnm : (swN X.env.scope ts).length = ts.length := by
    simp only [swYes, Bool.and_eq_true, beq_iff_eq] at h2
    rw [h.sc]; exact h2.1.1.1.2
  split at h1
  · rename_i i j x px y py a1 a2
    simp only [Bool.and_eq_true, decide_eq_true_eq] at h1
    obtain ⟨⟨⟨⟨q1, q2⟩, q3⟩, q4⟩, q5⟩ := h1
    have e : swN X.env.scope [.Name x px, .Name y py] = [x, y] := by
      unfold swN at hnm ⊢
      simp only [List.filterMap_cons, List.filterMap_nil] at hnm ⊢
      split at hnm <;> split at hnm <;> simp_all
    rw [e] at hw
    refine PS.imp (ps_par (i := i) (j := j) h.cx.calm h.cx.nd (by rw [h.N]; exact q1) (by rw [h.N]; exact q2) q3 (by rw [h.sc]; exact lclB_iff q4) (by rw [h.sc]; exact lclB_iff q5) (pa_all a) hw rfl) fun D σ H q => ?_
    obtain ⟨ms, xs, S, ρ, s, en, g⟩ := q
    simp only [exS] at g
    refine sEs_of s en g fun ds vs S1 m1 H1 x1 s1 e1 r1 g1 => ?_
    split at g1
    · rename_i hl
      match ds, hl, r1, g1 with
      | [d1, d2], _, r1, g1 =>
        obtain ⟨v1, v2, rfl, t1, t2⟩ := r1.two_inv
        exact ⟨v1, v2, rfl, g1 m1 H1 .refl s1 _ ((e1.set t1).set t2)⟩
    · exact (show False from g1).elim
  · rename_i i j l x px y py z pz a1 a2 a3
    simp only [Bool.and_eq_true, decide_eq_true_eq] at h1
    obtain ⟨⟨⟨⟨⟨⟨⟨⟨q1, q2⟩, q3⟩, q4⟩, q5⟩, q6⟩, q7⟩, q8⟩, q9⟩ := h1
    have e : swN X.env.scope [.Name x px, .Name y py, .Name z pz] = [x, y, z] := by
      unfold swN at hnm ⊢
      simp only [List.filterMap_cons, List.filterMap_nil] at hnm ⊢
      split at hnm <;> split at hnm <;> split at hnm <;> simp_all
    rw [e] at hw
    refine PS.imp (ps_par3 (i := i) (j := j) (l := l) h.cx.calm h.cx.nd (by rw [h.N]; exact q1) (by rw [h.N]; exact q2) (by rw [h.N]; exact q3) q4 q5 q6 (by rw [h.sc]; exact lclB_iff q7) (by rw [h.sc]; exact lclB_iff q8) (by rw [h.sc]; exact lclB_iff q9) (pa_all a) hw rfl) fun D σ H q => ?_
    obtain ⟨ms, xs, S, ρ, s, en, g⟩ := q
    simp only [exS] at g
    refine sEs_of s en g fun ds vs S1 m1 H1 x1 s1 e1 r1 g1 => ?_
    split at g1
    · rename_i hl
      match ds, hl, r1, g1 with
      | [d1, d2, d3], _, r1, g1 =>
        obtain ⟨v1, us, rfl, t1, t2⟩ := r1.uncons
        obtain ⟨v2, v3, rfl, t2, t3⟩ := t2.two_inv
        exact ⟨v1, v2, v3, rfl, g1 m1 H1 .refl s1 _ (((e1.set t1).set t2).set t3)⟩
    · exact (show False from g1).elim
  · cases h1

theorem putF_rel {tx : Tx} (cx : Cxt X r C tx k) {n : Nat} {f : Str} (hf : tx.attrs[n]? = some f) {d : D} {v : V} (rv : RelD r ms xs H d v) : ∀ {fs : List (Nat × D)} {gs : List (Str × V)}, RelF r ms xs H fs gs → RelF r ms xs H (putN n d fs) (putF f v gs)
  | [], gs, h => by
    cases (show gs = [] from h)
    exact ⟨f, v, [], rfl, by rw [cx.attrs]; exact hf, rv, rfl⟩
  | (m, e) :: fs, gs, h => by
    obtain ⟨s, u, us, rfl, hs, q, h⟩ := h
    have hs' := hs
    rw [cx.attrs] at hs'
    by_cases z : m = n
    · subst z
      rw [hs'] at hf; cases hf
      have e1 : putN m d ((m, e) :: fs) = (m, d) :: fs := by simp [putN]
      have e2 : putF f v ((f, u) :: us) = (f, v) :: us := by simp [putF]
      rw [e1, e2]
      exact ⟨f, v, us, rfl, hs, rv, h⟩
    · have ne : s ≠ f := attr_ne cx hs' hf z
      have e1 : putN n d ((m, e) :: fs) = (m, e) :: putN n d fs := by simp [putN, z]
      have e2 : putF f v ((s, u) :: us) = (s, u) :: putF f v us := by simp [putF, ne]
      rw [e1, e2]
      exact ⟨s, u, _, rfl, hs, q, putF_rel cx hf rv h⟩
theorem RelF.length : ∀ {fs : List (Nat × D)} {gs : List (Str × V)}, RelF r ms xs H fs gs → gs.length = fs.length
  | [], gs, h => by cases (show gs = [] from h); rfl
  | (m, e) :: fs, gs, h => by
    obtain ⟨s, u, us, rfl, hs, q, h⟩ := h
    simp [h.length]
theorem ss_fld (h : HereS X r C W ck k) {o e : E} {n : Nat} {x v : Expr} {f : Str} {p pos : Pos} (hf : ck.tx.attrs[n]? = some f) (hsd : noSetDict v = true) (he : PE X v (tE r C W e)) (ho : PE X x (tE r C W o)) : PS X (.Assign [.Attribute x f p] v pos) (tS r C W (.fld o n e)) := by
  refine PS.imp (ps_fld ho he (sw_else hsd fun y py z => by cases z)) fun D σ H q => ?_
  obtain ⟨ms, xs, S, ρ, s, en, g⟩ := q
  simp only [exS] at g
  refine sE_of s en g fun d v S1 m1 H1 x1 s1 e1 q1 g1 => ?_
  refine sE_of s1 e1 g1 fun d2 v2 S2 m2 H2 x2 s2 e2 q2 g2 => ?_
  have g3 := g2.bind
  unfold setFld at g3
  cases d2 <;> first | exact (show False from g3).elim | skip
  rename_i a
  dsimp only at g3
  split at g3
  · rename_i c fs hn
    split at g3
    · rename_i hc
      have q3 := q2
      simp only [RelD] at q3
      obtain ⟨b, hb, rfl⟩ := q3
      obtain ⟨A, dx, gs, e4, e5, e6⟩ := s2.obj _ _ b hn hb
      have hF := hc.1
      have hl : gs.length < 1000 := by rw [e6.length]; omega
      refine ⟨b, A, dx, gs, rfl, e4, (h.cx.ins c A e5 (hasF_makes hF)).cl, h.cx.noat c n A f e5 hF hf, hl, ?_⟩
      have x3 : Ext m2 H2 m2 (upd H2 b (.ins A dx (putF f v gs))) := Ext.put hb
      have s3 : Sim r m2 xs (upd H2 b (.ins A dx (putF f v gs))) (S2.set a (.ins c (putN n d fs))) :=
        s2.put hb ⟨A, dx, _, rfl, e5, (putF_rel h.cx hf (q1.mono x2) e6).map fun d v z => z.mono x3⟩ (fun vs z => by cases z) (fun vs z => by cases z)
      exact g3 m2 _ x3 s3 m2 _ .refl s3 _ (e2.mono x3)
    · exact (show False from g3).elim
  · exact (show False from g3).elim
theorem PSet.or {t t' : TSet} (h : PSet X t) (h' : PSet X t') : PSet X (fun o i v H Q => t o i v H Q ∨ t' o i v H Q) := by
  intro pins s σ H o i v ov iv u Q I r1 r2 r3 q
  rcases q with q | q
  · exact h pins s σ H o i v ov iv u Q I r1 r2 r3 q
  · exact h' pins s σ H o i v ov iv u Q I r1 r2 r3 q
theorem set_dic (hu : X.A.units + 1 < cLine) : PSet X (fun o i v H Q => ∃ a H', o = .ref a ∧ DPut H a i v H' ∧ Q H') := by
  intro pins s σ H o i v ov iv u Q I r1 r2 r3 q
  obtain ⟨a, H', rfl, g, q⟩ := q
  obtain rfl : ov = Value.ref a := r1
  exact d_setItem hu I g r2 r3 fun s' I' => ⟨H', I', q⟩
theorem put_rel {kk : List Int} {d : D} {v : V} (rv : RelD r ms xs H d v) : ∀ {kvs : List (List Int × D)} {ps : List (List Key × V)}, RelK r ms xs H kvs ps → RelK r ms xs H (kvs.map fun kv => if kv.1 = kk then (kv.1, d) else kv) (ps.map fun kv => if kv.1 = (kk.map Sum.inl : List Key) then (kv.1, v) else kv)
  | [], ps, h => by cases (show ps = [] from h); rfl
  | (j, e) :: kvs, ps, h => by
    obtain ⟨u, us, rfl, q, h⟩ := h
    simp only [List.map_cons]
    by_cases z : j = kk
    · subst z
      rw [if_pos rfl, if_pos rfl]
      exact ⟨v, _, rfl, rv, put_rel rv h⟩
    · rw [if_neg z, if_neg fun w => z (key_inj w)]
      exact ⟨u, _, rfl, q, put_rel rv h⟩
theorem any_rel {kk : List Int} : ∀ {kvs : List (List Int × D)} {ps : List (List Key × V)}, RelK r ms xs H kvs ps → (kvs.any fun kv => decide (kv.1 = kk)) = ps.any fun kv => decide (kv.1 = (kk.map Sum.inl : List Key))
  | [], ps, h => by cases (show ps = [] from h); rfl
  | (j, e) :: kvs, ps, h => by
    obtain ⟨u, us, rfl, q, h⟩ := h
    simp only [List.any_cons]
    rw [any_rel h]
    congr 1
    by_cases z : j = kk
    · subst z; simp
    · rw [decide_eq_false z, decide_eq_false fun w => z (key_inj w)]
theorem RelK.snoc {kk : List Int} {d : D} {v : V} (rv : RelD r ms xs H d v) : ∀ {kvs : List (List Int × D)} {ps : List (List Key × V)}, RelK r ms xs H kvs ps → RelK r ms xs H (kvs ++ [(kk, d)]) (ps ++ [(kk.map Sum.inl, v)])
  | [], ps, h => by cases (show ps = [] from h); exact ⟨v, [], rfl, rv, rfl⟩
  | (j, e) :: kvs, ps, h => by
    obtain ⟨u, us, rfl, q, h⟩ := h
    exact ⟨u, _, rfl, q, h.snoc rv⟩
theorem putT_rel {kk : List Int} {d : D} {v : V} (rv : RelD r ms xs H d v) {kvs : List (List Int × D)} {ps : List (List Key × V)} (h : RelK r ms xs H kvs ps) : RelK r ms xs H (putT kk d kvs) (putK ps (kk.map Sum.inl) v) := by
  unfold putT putK
  rw [any_rel h]
  split
  · exact put_rel rv h
  · exact h.snoc rv
theorem RelK.length : ∀ {kvs : List (List Int × D)} {ps : List (List Key × V)}, RelK r ms xs H kvs ps → ps.length = kvs.length
  | [], ps, h => by cases (show ps = [] from h); rfl
  | (j, e) :: kvs, ps, h => by
    obtain ⟨u, us, rfl, q, h⟩ := h
    simp [h.length]
theorem v_set {x i d : D} {vx vi v : V} {Q : Hp → Prop} {β : Type} {f : Unit → M β} {ok : β → Store → List Addr → Hp → Prop} {ex : Nat → Store → List Addr → Hp → Prop} (s : Sim r ms xs H S) (rx : RelD r ms xs H x vx) (ri : RelD r ms xs H i vi) (rd : RelD r ms xs H d v)
    (g : Good r xs ms H (bnd (setIx x i d) f S) ok ex) (q : ∀ ms' H' S', Ext ms H ms' H' → Sim r ms' xs H' S' → Good r xs ms' H' (f () S') ok ex → Q H') : rSetL vx vi v H Q ∨ ∃ a H', vx = .ref a ∧ DPut H a vi v H' ∧ Q H' := by
  have g1 := g.bind
  unfold setIx at g1
  cases x <;> first | exact (show False from g1).elim | skip
  rename_i n
  dsimp only at g1
  have rx' := rx
  simp only [RelD] at rx'
  obtain ⟨b, hb, rfl⟩ := rx'
  split at g1
  · rename_i ds kk hn
    split at g1
    · rename_i j hj
      obtain ⟨vs, hv, qv⟩ := s.obj _ _ b hn hb
      refine .inl ⟨b, vs, kk, j, rfl, ri.int_eq, hv, by rw [qv.length]; exact hj, ?_⟩
      have x1 : Ext ms H ms (upd H b (.lst (vs.set j v))) := Ext.put hb
      have s1 : Sim r ms xs (upd H b (.lst (vs.set j v))) (S.set n (.lst (ds.set j d))) := s.put hb ⟨_, rfl, (qv.set rd j).mono x1⟩ (fun us z => by cases z; rw [List.length_set]; exact s.szl b vs hv) (fun us z => by cases z)
      exact q ms _ _ x1 s1 (g1 ms _ x1 s1)
    · exact (show False from g1).elim
  · rename_i kvs hn
    split at g1
    · rename_i kk hk
      split at g1
      · rename_i hz
        obtain ⟨ps, hv, qv⟩ := s.obj _ _ b hn hb
        obtain ⟨c, rfl, hc⟩ := tupI_rel ri hk
        refine .inr ⟨b, _, rfl, DPut.t hv hc (by rw [qv.length]; exact Nat.lt_of_lt_of_le hz (by rw [sizeLine_eq]; decide)), ?_⟩
        have x1 : Ext ms H ms (upd H b (.dT (putK ps (kk.map Sum.inl) v))) := Ext.put hb
        have s1 : Sim r ms xs (upd H b (.dT (putK ps (kk.map Sum.inl) v))) (S.set n (.dic (putT kk d kvs))) := s.put hb ⟨_, rfl, (putT_rel rd qv).map fun d v z => z.mono x1⟩ (fun us z => by cases z) (fun us z => by cases z)
        exact q ms _ _ x1 s1 (g1 ms _ x1 s1)
      · exact (show False from g1).elim
    · exact (show False from g1).elim
  · exact (show False from g1).elim
theorem ss_put (h : HereS X r C W ck k) {o i e : E} {x y v : Expr} {p pos : Pos} (hsl : noSlice y = true) (hsd : noSetDict v = true) (he : PE X v (tE r C W e)) (ho : PE X x (tE r C W o)) (hi : PE X y (tE r C W i)) : PS X (.Assign [.Subscript x y p] v pos) (tS r C W (.put o i e)) := by
  have hu : X.A.units + 1 < cLine := by have := h.cx.room.un; omega
  have pg : PG X (.Subscript x y p) (gSub (tE r C W o) (tE r C W i) _) := pg_sub ho hi (PSet.or set_list (set_dic hu)) (by intro v; cases y <;> first | rfl | (simp [noSlice] at hsl))
  refine PS.imp (ps_asg he pg (show swapsWith v (some (.Subscript x y p)) pos.line X.env = pure false from sw_else hsd fun y py z => by cases z) rfl rfl) fun D σ H q => ?_
  obtain ⟨ms, xs, S, ρ, s, en, g⟩ := q
  simp only [exS] at g
  refine sE_of s en g fun d v S1 m1 H1 x1 s1 e1 q1 g1 => ?_
  refine sE_of s1 e1 g1 fun d2 v2 S2 m2 H2 x2 s2 e2 q2 g2 => ?_
  refine sE_of s2 e2 g2 fun d3 v3 S3 m3 H3 x3 s3 e3 q3 g3 => ?_
  exact v_set s3 (q2.mono x3) q3 (q1.mono (x2.trans x3)) g3 fun m4 H4 S4 x4 s4 g4 => g4 m4 H4 .refl s4 _ (e3.mono x4)
theorem sub_plain {x y : Expr} {p : Pos} (hsl : noSlice y = true) : ∀ v, assign (.Subscript x y p) X.env v = (do
      let ov ← holding [v] (eval x X.env)
      let iv ← holding [v, ov] (eval y X.env)
      standAt p
      holding [v, ov, iv] (setItem ov iv v)
      release [v, ov, iv] []) := by intro v; cases y <;> first | rfl | (simp [noSlice] at hsl)
theorem ss_put2 (h : HereS X r C W ck k) {o i o2 i2 e : E} {x y x2 y2 : Expr} {vs : List Expr} {p p2 p3 p4 pos : Pos} {k1 k2 : Nat} (hsl : noSlice y = true) (hsl2 : noSlice y2 = true) (he : PE X (.Tuple vs k2 p4) (tE r C W e)) (ho : PE X x (tE r C W o)) (hi : PE X y (tE r C W i))
    (ho2 : PE X x2 (tE r C W o2)) (hi2 : PE X y2 (tE r C W i2)) : PS X (.Assign [.Tuple [.Subscript x y p, .Subscript x2 y2 p2] k1 p3] (.Tuple vs k2 p4) pos) (tS r C W (.put2 o i o2 i2 e)) := by
  have hu : X.A.units + 1 < cLine := by have := h.cx.room.un; omega
  have pg : PG X (.Subscript x y p) (gSub (tE r C W o) (tE r C W i) _) := pg_sub ho hi (PSet.or set_list (set_dic hu)) (sub_plain hsl)
  have pg2 : PG X (.Subscript x2 y2 p2) (gSub (tE r C W o2) (tE r C W i2) _) := pg_sub ho2 hi2 (PSet.or set_list (set_dic hu)) (sub_plain hsl2)
  have pgT : PG X (.Tuple [.Subscript x y p, .Subscript x2 y2 p2] k1 p3) (gTup X.K 2 _) := pg_tup h.cx.calm (pgs_cons pg (pgs_cons pg2 pgs_nil))
  refine PS.imp (ps_asg he pgT (show swapsWith (.Tuple vs k2 p4) (some (.Tuple [.Subscript x y p, .Subscript x2 y2 p2] k1 p3)) pos.line X.env = pure false from rfl) ?_ rfl) fun D σ H q => ?_
  · unfold swappedStores
    simp only []
    split
    · rfl
    · split
      · rfl
      · rfl
  · obtain ⟨ms, xs, S, ρ, s, en, g⟩ := q
    simp only [exS] at g
    refine sE_of s en g fun d v S1 m1 H1 x1 s1 e1 q1 g1 => ?_
    split at g1
    · rename_i d1 d2
      simp only [RelD] at q1
      obtain ⟨a, us, rfl, ha, _, _, rd⟩ := q1
      obtain ⟨v1, v2, rfl, t1, t2⟩ := rd.two_inv
      refine ⟨a, [v1, v2], rfl, .of ha, rfl, v1, [v2], rfl, ?_⟩
      refine sE_of s1 e1 g1 fun d3 v3 S3 m3 H3 x3 s3 e3 q3 g3 => ?_
      refine sE_of s3 e3 g3 fun d4 v4 S4 m4 H4 x4 s4 e4 q4 g4 => ?_
      refine v_set s4 (q3.mono x4) q4 (t1.mono (x3.trans x4)) g4 fun m5 H5 S5 x5 s5 g5 => ?_
      refine ⟨v2, [], rfl, ?_⟩
      have e5 := e4.mono x5
      refine sE_of s5 e5 g5 fun d6 v6 S6 m6 H6 x6 s6 e6 q6 g6 => ?_
      refine sE_of s6 e6 g6 fun d7 v7 S7 m7 H7 x7 s7 e7 q7 g7 => ?_
      refine v_set s7 (q6.mono x7) q7 (t2.mono (((x3.trans x4).trans x5).trans (x6.trans x7))) g7 fun m8 H8 S8 x8 s8 g8 => ?_
      exact ⟨rfl, g8 m8 H8 .refl s8 _ (e7.mono x8)⟩
    · exact (show False from g1).elim
end
end Mi
namespace Mi
open PySem L2
section
variable {X : Cx} {r : Rx} {C : Cf} {W : WX} {k : Nat} {ck : Ck} {ms xs : List Addr} {H : Hp} {σ : L2.St} {ρ : Env} {S : Store}
theorem aug_val {o : Op} {op : Operator} (h : opA o = some op) : ∃ t : TIp, PIp X op t ∧ ∀ (ms xs : List Addr) (H : Hp) (S : Store) (x y : D) (v u : V) (Q : VK), Sim r ms xs H S → RelD r ms xs H x v → RelD r ms xs H y u → VG r xs ms H (augD o x y S) Q → t v u H Q := by
  cases o <;> simp only [opA] at h <;> first | cases h | skip
  · refine ⟨_, ip_add, fun ms xs H S x y v u Q s rx ry g => ?_⟩
    obtain ⟨i, j, d, rfl, rfl, e, g⟩ := onI2_inv (f := fun i j => some (.int (i + j))) g
    cases e
    exact ⟨i, j, rx.int_eq, ry.int_eq, VG.val g s .of_int⟩
  · refine ⟨_, ip_sub, fun ms xs H S x y v u Q s rx ry g => ?_⟩
    obtain ⟨i, j, d, rfl, rfl, e, g⟩ := onI2_inv (f := fun i j => some (.int (i - j))) g
    cases e
    exact ⟨i, j, rx.int_eq, ry.int_eq, VG.val g s .of_int⟩
theorem ss_aug (h : HereS X r C W ck k) {i : Nat} {o : Op} {op : Operator} {e : E} {x : Str} {v : Expr} {p pos : Pos} (hi : ck.N[i]? = some x) (hl : locB ck.sc x = true) (ho : opA o = some op) (he : PE X v (tE r C W e)) : PS X (.AugAssign (.Name x p) op v pos) (tS r C W (.aug i o e)) := by
  obtain ⟨t, hp, hv⟩ := aug_val (X := X) (r := r) ho
  refine PS.imp (ps_aug (i := i) h.cx.nd (by rw [h.N]; exact hi) (by rw [h.sc]; exact locB_iff hl) he hp (.inl (h.fn x))) fun D σ H q => ?_
  obtain ⟨ms, xs, S, ρ, s, en, g⟩ := q
  simp only [exS] at g
  obtain ⟨d, hd, g⟩ := g.opt
  obtain ⟨w, h1, h2⟩ := en.get hd
  refine ⟨w, h1, sE_of s en g fun d2 v2 S2 m2 H2 x2 s2 e2 q2 g2 => ?_⟩
  refine hv m2 xs H2 S2 d d2 w v2 _ s2 (h2.mono x2) q2 (Good.mono g2.bind (fun z S3 m3 H3 x3 s3 g3 u ru => ?_) fun _ _ _ _ _ _ _ => True.intro)
  exact g3 m3 H3 .refl s3 _ ((e2.mono x3).set ru)
theorem get_list : PGet X (rIxL X.K) := by
  intro pins s σ H o i ov iv Q I r1 r2 h
  obtain ⟨p, xs, n, z, rfl, rfl, hq, he, q⟩ := h
  cases r1
  obtain ⟨t, rfl⟩ := r2
  obtain ⟨its, r, pl, hz⟩ := I.list hq
  obtain ⟨j, h1, h2, h3, h4, h5⟩ := atI_get he
  obtain ⟨w, ew, rw'⟩ := r.get h2
  have hl := r.length
  have hn := line63
  have fin : EP X pins σ Q w s := ⟨z, H, I, rw', q⟩
  by_cases h0 : 0 ≤ n
  · have hj : n.toNat = j := by
      rw [seqIndex_of h0 h5] at h1
      exact Option.some.inj h1
    exact wpAny_getItem_list pl.isList h0 (by omega) (by rw [hj]; simpa using ew) fin
  · have hj : (n + (its.toArray.size : Int)).toNat = j := by
      rw [seqIndex_neg (by omega) h4] at h1
      rw [List.size_toArray, ← hl]
      exact Option.some.inj h1
    exact wpAny_getItem_list_neg pl.isList (by omega) (by rw [List.size_toArray] <;> omega) (by omega) (by rw [hj]; simpa using ew) fin
theorem ss_augI (h : HereS X r C W ck k) {o i e : E} {p : Op} {op : Operator} {x y v : Expr} {q pos : Pos} (hsl : noSlice y = true) (ho : opA p = some op) (h1 : PE X x (tE r C W o)) (h2 : PE X y (tE r C W i)) (h3 : PE X v (tE r C W e)) : PS X (.AugAssign (.Subscript x y q) op v pos) (tS r C W (.augI o i p e)) := by
  have hu : X.A.units + 1 < cLine := by have := h.cx.room.un; omega
  obtain ⟨t, hp, hv⟩ := aug_val (X := X) (r := r) ho
  refine PS.imp (ps_augS h1 h2 get_list h3 hp (PSet.or set_list (set_dic hu)) (by intro a b c; cases y <;> first | rfl | (simp [noSlice] at hsl))) fun D σ H q => ?_
  obtain ⟨ms, xs, S, ρ, s, en, g⟩ := q
  simp only [exS] at g
  refine sE_of s en g fun d v S1 m1 H1 x1 s1 e1 q1 g1 => ?_
  refine sE_of s1 e1 g1 fun d2 v2 S2 m2 H2 x2 s2 e2 q2 g2 => ?_
  have g3 := g2.bind
  unfold getIx at g3
  split at g3
  · rename_i ds kk hds
    cases ed : atI ds kk with
    | none => rw [ed] at g3; exact (show False from g3).elim
    | some du =>
      rw [ed] at g3
      obtain ⟨a, vs, ea, ha, qa⟩ := asL_rel s2 (q1.mono x2) hds
      obtain ⟨u, hu1, hu2⟩ := atI_rel qa ed
      refine ⟨a, vs, kk, u, ea, q2.int_eq, .of ha, hu1, ?_⟩
      refine sE_of s2 e2 (g3 m2 H2 .refl s2) fun d4 v4 S4 m4 H4 x4 s4 e4 q4 g4 => ?_
      refine hv m4 xs H4 S4 du d4 u v4 _ s4 (hu2.mono x4) q4 (Good.mono g4.bind (fun z S5 m5 H5 x5 s5 g5 w rw => ?_) fun _ _ _ _ _ _ _ => True.intro)
      exact v_set s5 (q1.mono ((x2.trans x4).trans x5)) (q2.mono (x4.trans x5)) rw g5 fun m6 H6 S6 x6 s6 g6 => g6 m6 H6 .refl s6 _ ((e4.mono x5).mono x6)
  · exact (show False from g3).elim

theorem ss_expr {e : E} {v : Expr} {pos : Pos} (hn : noComp v = true) (he : PE X v (tE r C W e)) : PS X (.Expr v pos) (tS r C W (.expr e)) := by
  refine PS.imp (ps_expr he (swaps_of hn)) fun D σ H q => ?_
  obtain ⟨ms, xs, S, ρ, s, en, g⟩ := q
  simp only [exS] at g
  exact sE_of s en g fun d v S1 m1 H1 x1 s1 e1 q1 g1 => g1 m1 H1 .refl s1 _ e1
theorem ss_ret {e : E} {v : Expr} {pos : Pos} (he : PE X v (tE r C W e)) : PS X (.Return (some v) pos) (tS r C W (.ret e)) := by
  refine PS.imp (ps_ret he) fun D σ H q => ?_
  obtain ⟨ms, xs, S, ρ, s, en, g⟩ := q
  simp only [exS] at g
  exact sE_of s en g fun d v S1 m1 H1 x1 s1 e1 q1 g1 => g1 m1 H1 .refl s1 _ q1
theorem ss_retN {pos : Pos} : PS X (.Return none pos) (tS r C W .retN) := by
  refine PS.imp ps_retN fun D σ H q => ?_
  obtain ⟨ms, xs, S, ρ, s, en, g⟩ := q
  simp only [exS] at g
  exact g ms H .refl s _ .of_non
theorem ss_brk {pos : Pos} : PS X (.Break pos) (tS r C W .brk) := by
  refine PS.imp ps_break fun D σ H q => ?_
  obtain ⟨ms, xs, S, ρ, s, en, g⟩ := q
  simp only [exS] at g
  exact g ms H .refl s _ en
theorem ss_pass {pos : Pos} : PS X (.Pass pos) (tS r C W .pass) := by
  refine PS.imp ps_pass fun D σ H q => ?_
  obtain ⟨ms, xs, S, ρ, s, en, g⟩ := q
  simp only [exS] at g
  exact g ms H .refl s _ en
theorem ss_if {c : E} {a b : Sts} {x : Expr} {u v : List Stmt} {pos : Pos} (hc : PT X x (tT r C W c)) (ha : PSs X u (tSs r C W a)) (hb : PSs X v (tSs r C W b)) : PS X (.If x u v pos) (tS r C W (.ite c a b)) := by
  refine PS.imp (ps_if hc ha hb) fun D σ H q => ?_
  obtain ⟨ms, xs, S, ρ, s, en, g⟩ := q
  simp only [exS] at g
  refine sT_of s en g fun t S1 m1 H1 x1 s1 e1 g1 => ?_
  cases t with
  | true => exact iteT ⟨m1, xs, S1, ρ, s1, e1, g1⟩
  | false => exact iteF ⟨m1, xs, S1, ρ, s1, e1, g1⟩
theorem ss_raise (h : HereS X r C W ck k) {c : Nat} {x : Expr} {pos : Pos} (hx : raiseB ck c x = true) : PS X (.Raise (some x) none pos) (tS r C W (.raise c)) := by
  unfold raiseB at hx
  split at hx
  · rename_i nm p msg j p2 pos2
    simp only [Bool.and_eq_true, decide_eq_true_eq] at hx
    obtain ⟨⟨h1, h2⟩, h3⟩ := hx
    obtain ⟨A, hA, hm⟩ := h.cx.clsN c nm h1
    by_cases hr : C.pr.raises c = true
    · have E := h.cx.exc c A nm hA h1 hr
      refine PS.imp (ps_raise h.cx.calm h.tk (pmk_own PySem.F.excBase_ValueError E.ex hm E.kp (raises_own E.sub E.ty) (gl_of h.sc (glB_iff h2)) (okNm_iff h3).1)) fun D σ H q => ?_
      obtain ⟨ms, xs, S, ρ, s, en, g⟩ := q
      simp only [exS, hr, if_true] at g
      exact g ms H .refl s A hA σ
    · refine ⟨fun pins s σ H D I q => ?_⟩
      obtain ⟨ms, xs, S, ρ, s, en, g⟩ := q
      simp only [exS, hr] at g
      exact (show False from g).elim
  · cases hx

theorem ss_for (h : HereS X r C W ck k) {tg : T} {src : Src} {body : Sts} {t it : Expr} {b : List Stmt} {pos : Pos} (hi : PI X t it (tI r C W src)) (hg : tgB ck tg t = true) (hset : noSet it = true) (hb : PSs X b (tSs r C W body)) : PS X (.For t it b [] pos) (tS r C W (.for_ tg src body)) := by
  refine PS.imp (ps_for h.po h.cx.calm hi (tg_here h hg) hb (fold_of hset)) fun D σ H q => ?_
  obtain ⟨ms, xs, S, ρ, s, en, g⟩ := q
  simp only [exS] at g
  refine ⟨ms, xs, S, ρ, s, en, g.bind.mono (fun w S1 m1 H1 x1 s1 g1 J hok wr => ?_) fun _ _ _ _ _ _ z a ha => z a ha σ⟩
  let Pv : Nat → L2.St → Hp → Prop := fun i σ H => ∃ ms S ρ, Ext m1 H1 ms H ∧ Sim r ms xs H S ∧ w.ok S = true ∧ REnv r ms xs H ρ σ ∧ Good r xs ms H (forL w.ok tg (exSs C body) (w.ds.drop i) ρ S) (outK r xs D) (exA r W)
  refine ⟨fun i n σ H => n = w.ds.length - i ∧ i ≤ w.ds.length ∧ Pv i σ H, ⟨w.ds.length, by simp, Nat.zero_le _, m1, S1, ρ, .refl, s1, hok, en.mono x1, g1⟩, ?_⟩
  rintro i n σ2 H2 ⟨rfl, hil, m2, S2, ρ2, x2, s2, hok2, e2, g2⟩
  by_cases hlt : i < w.ds.length
  · obtain ⟨d, hd⟩ : ∃ d, w.ds[i]? = some d := ⟨w.ds[i], List.getElem?_eq_getElem hlt⟩
    obtain ⟨hgo, hyld⟩ := wr.go xs m2 H2 S2 (fun b hb => .inl hb) x2 s2 hok2 i d hd
    refine .inr ⟨hgo, Pv (i + 1), fun σ' H' p' => ⟨w.ds.length - (i + 1), by omega, rfl, hlt, p'⟩, fun y H3 hy => ?_⟩
    obtain ⟨x3, s3, rd⟩ := hyld y H3 hy
    have ed : w.ds.drop i = d :: w.ds.drop (i + 1) := by
      rw [List.drop_eq_getElem_cons hlt]
      congr 1
      rw [List.getElem?_eq_getElem hlt] at hd; exact Option.some.inj hd
    rw [ed] at g2
    simp only [forL] at g2
    obtain ⟨ρ3, hb3, g3⟩ := (Good.ext x3 g2).opt
    refine ⟨m2, xs, S2, ρ2, d, ρ3, s3, e2.mono x3, rd, hb3, fun σ3 e3 _ => ?_⟩
    refine ⟨m2, xs, S2, ρ3, s3, e3, g3.bind.mono (fun o S4 m4 H4 x4 s4 g4 => ?_) fun _ _ _ _ _ _ z => z⟩
    cases o with
    | nx ρ4 =>
      intro σ4 e4
      dsimp only at g4
      split at g4
      · rename_i hok4
        exact ⟨m4, S4, ρ4, (x2.trans x3).trans x4, s4, hok4, e4, g4⟩
      · exact (show False from g4).elim
    | rt d4 => intro v4 r4; exact g4 m4 H4 .refl s4 v4 r4
    | bk ρ4 => intro σ4 e4; exact g4 m4 H4 .refl s4 σ4 e4
  · have e : i = w.ds.length := by omega
    subst e
    rw [List.drop_length] at g2
    simp only [forL] at g2
    exact .inl ⟨wr.stop xs m2 H2 S2 (fun b hb => .inl hb) x2 s2 hok2, g2 m2 H2 .refl s2 σ2 e2⟩
theorem ss_while (h : HereS X r C W ck k) {c : E} {body : Sts} {x : Expr} {b : List Stmt} {pos : Pos} (hc : PT X x (tT r C W c)) (hb : PSs X b (tSs r C W body)) : PS X (.While x b [] pos) (tS r C W (.whl c body)) := by
  refine PS.imp (ps_while h.po hc hb) fun D σ H q => ?_
  obtain ⟨ms, xs, S, ρ, s, en, g⟩ := q
  simp only [exS] at g
  let Pv : Nat → L2.St → Hp → Prop := fun n σ H => ∃ ms S ρ, Sim r ms xs H S ∧ REnv r ms xs H ρ σ ∧ Good r xs ms H (whlL (fun ρ => tst (evE C c ρ)) (exSs C body) n ρ S) (outK r xs D) (exA r W)
  refine ⟨Pv, ⟨C.fu, ms, S, ρ, s, en, g⟩, ?_⟩
  rintro n σ2 H2 ⟨m2, S2, ρ2, s2, e2, g2⟩
  cases n with
  | zero => exact (show False from g2).elim
  | succ n =>
    simp only [whlL] at g2
    refine sT_of s2 e2 g2 fun t S3 m3 H3 x3 s3 e3 g3 => ?_
    cases t with
    | true =>
      refine iteT ⟨Pv n, fun σ' H' p => ⟨n, Nat.lt_succ_self n, p⟩, ?_⟩
      rw [if_pos rfl] at g3
      refine ⟨m3, xs, S3, ρ2, s3, e3, g3.bind.mono (fun o S4 m4 H4 x4 s4 g4 => ?_) fun _ _ _ _ _ _ z => z⟩
      cases o with
      | nx ρ4 => intro σ4 e4; exact ⟨m4, S4, ρ4, s4, e4, g4⟩
      | rt d4 => intro v4 r4; exact g4 m4 H4 .refl s4 v4 r4
      | bk ρ4 => intro σ4 e4; exact g4 m4 H4 .refl s4 σ4 e4
    | false => exact iteF (g3 m3 H3 .refl s3 σ2 e3)
theorem ss_nil : PSs X [] (tSs r C W .nil) := by
  refine PSs.imp pss_nil fun D σ H q => ?_
  obtain ⟨ms, xs, S, ρ, s, en, g⟩ := q
  simp only [exSs] at g
  exact g ms H .refl s σ en
theorem ss_cons {a : St} {b : Sts} {st : Stmt} {ss : List Stmt} (ha : PS X st (tS r C W a)) (hb : PSs X ss (tSs r C W b)) : PSs X (st :: ss) (tSs r C W (.cons a b)) := by
  refine PSs.imp (pss_cons ha hb) fun D σ H q => ?_
  obtain ⟨ms, xs, S, ρ, s, en, g⟩ := q
  simp only [exSs] at g
  refine ⟨ms, xs, S, ρ, s, en, g.bind.mono (fun o S1 m1 H1 x1 s1 g1 => ?_) fun _ _ _ _ _ _ z => z⟩
  cases o with
  | nx ρ1 => intro σ1 e1; exact ⟨m1, xs, S1, ρ1, s1, e1, g1⟩
  | rt d => intro v rv; exact g1 m1 H1 .refl s1 v rv
  | bk ρ1 => intro σ1 e1; exact g1 m1 H1 .refl s1 σ1 e1
mutual
theorem sndS (h : HereS X r C W ck k) : ∀ (i : St) (st : Stmt), chS ck i st = true → PS X st (tS r C W i)
  | .asg tg e, st, hc => by
    simp only [chS] at hc
    split at hc
    · rename_i y py v pos
      simp only [Bool.and_eq_true] at hc
      obtain ⟨⟨⟨h1, h2⟩, h3⟩, h4⟩ := hc
      split at h1
      · rename_i i
        simp only [Bool.and_eq_true, decide_eq_true_eq] at h1
        have hsw := sw_comp (env := X.env) (v := v) (y := y) (py := py) (l := pos.line) h.kind h2
        cases hb : swB X.env.scope v y py with
        | false =>
          rw [hb] at hsw
          exact ss_name h h1.1.1 h1.1.2 hsw (sndE e v X W ck h.toHere h4).pe
        | true =>
          rw [hb] at hsw
          rw [h.sc] at hb
          have hcmp : e.isComp = true := by
            rw [hb] at h3
            simpa using h3
          have hl : ck.sc.names.lookup y = some .local := by
            unfold swB at hb
            split at hb
            · simp only [Bool.and_eq_true] at hb
              exact lclB_iff hb.1.1
            · cases hb
          cases e <;> first | (simp [E.isComp] at hcmp; done) | skip
          rename_i m own tg src ifs elt
          have h4' := h4
          simp only [chE] at h4'
          split at h4'
          · exact ss_comp h h1.1.1 hl hsw h4
          · cases h4'
      · cases h1
    · rename_i ts kk p v pos
      simp only [Bool.and_eq_true] at hc
      obtain ⟨⟨⟨⟨h1, h2⟩, h3⟩, h4⟩, h5⟩ := hc
      refine ss_tup h h2 h3 ?_ (sndE e v X W ck h.toHere h5).pe
      cases v <;> first | rfl | skip
      exact sw_no h.kind (by rw [h.sc]; exact h4)
    · cases hc
  | .par is es, st, hc => by
    have hc' := hc
    simp only [chS] at hc
    split at hc
    · exact ss_par h hc'
    · cases hc
  | .fld o n e, st, hc => by
    simp only [chS] at hc
    split at hc
    · simp only [Bool.and_eq_true, decide_eq_true_eq] at hc
      exact ss_fld h hc.1.1.1 hc.1.1.2 (sndE e _ X W ck h.toHere hc.1.2).pe (sndE o _ X W ck h.toHere hc.2).pe
    · cases hc
  | .put o i e, st, hc => by
    simp only [chS] at hc
    split at hc
    · simp only [Bool.and_eq_true] at hc
      exact ss_put h hc.1.1.1.1 hc.1.1.1.2 (sndE e _ X W ck h.toHere hc.1.1.2).pe (sndE o _ X W ck h.toHere hc.1.2).pe (sndE i _ X W ck h.toHere hc.2).pe
    · cases hc
  | .put2 o i o2 i2 e, st, hc => by
    simp only [chS] at hc
    split at hc
    · simp only [Bool.and_eq_true] at hc
      obtain ⟨⟨⟨⟨⟨⟨h1, h2⟩, h3⟩, h4⟩, h5⟩, h6⟩, h7⟩ := hc
      split at h3
      · rename_i es
        exact ss_put2 h h1 h2 (sndE (.op .mkT es) _ X W ck h.toHere (by simp only [chE, opOf]; simp only [h3, plainT, Bool.or_true, Bool.and_self])).pe (sndE o _ X W ck h.toHere h4).pe (sndE i _ X W ck h.toHere h5).pe (sndE o2 _ X W ck h.toHere h6).pe (sndE i2 _ X W ck h.toHere h7).pe
      · cases h3
    · cases hc
  | .aug i o e, st, hc => by
    simp only [chS] at hc
    split at hc
    · simp only [Bool.and_eq_true, decide_eq_true_eq] at hc
      exact ss_aug h hc.1.1.1.1 hc.1.1.1.2 hc.1.2 (sndE e _ X W ck h.toHere hc.2).pe
    · cases hc
  | .augI o i p e, st, hc => by
    simp only [chS] at hc
    split at hc
    · simp only [Bool.and_eq_true, decide_eq_true_eq] at hc
      exact ss_augI h hc.1.1.1.1 hc.1.1.1.2 (sndE o _ X W ck h.toHere hc.1.1.2).pe (sndE i _ X W ck h.toHere hc.1.2).pe (sndE e _ X W ck h.toHere hc.2).pe
    · cases hc
  | .expr e, st, hc => by
    simp only [chS] at hc
    split at hc
    · simp only [Bool.and_eq_true] at hc
      exact ss_expr hc.1 (sndE e _ X W ck h.toHere hc.2).pe
    · cases hc
  | .ret e, st, hc => by
    simp only [chS] at hc
    split at hc
    · exact ss_ret (sndE e _ X W ck h.toHere hc).pe
    · cases hc
  | .retN, st, hc => by
    simp only [chS] at hc
    split at hc
    · exact ss_retN
    · cases hc
  | .ite c a b, st, hc => by
    simp only [chS] at hc
    split at hc
    · simp only [Bool.and_eq_true] at hc
      exact ss_if (sndE c _ X W ck h.toHere hc.1.1).pt (sndSs h a _ hc.1.2) (sndSs h b _ hc.2)
    · cases hc
  | .for_ tg src body, st, hc => by
    simp only [chS] at hc
    split at hc
    · simp only [Bool.and_eq_true] at hc
      obtain ⟨⟨⟨⟨h1, h2⟩, h3⟩, h4⟩, h5⟩ := hc
      exact ss_for h (sndSrc src _ _ X W ck ck tg h.toHere h1 h2 h3) h3 h4 (sndSs h body _ h5)
    · cases hc
  | .whl c body, st, hc => by
    simp only [chS] at hc
    split at hc
    · simp only [Bool.and_eq_true] at hc
      exact ss_while h (sndE c _ X W ck h.toHere hc.1).pt (sndSs h body _ hc.2)
    · cases hc
  | .raise c, st, hc => by
    simp only [chS] at hc
    split at hc
    · exact ss_raise h hc
    · cases hc
  | .brk, st, hc => by
    simp only [chS] at hc
    split at hc
    · exact ss_brk
    · cases hc
  | .pass, st, hc => by
    simp only [chS] at hc
    split at hc
    · exact ss_pass
    · cases hc
theorem sndSs (h : HereS X r C W ck k) : ∀ (is : Sts) (ss : List Stmt), chSs ck is ss = true → PSs X ss (tSs r C W is)
  | .nil, [], hc => ss_nil
  | .nil, _ :: _, hc => by simp [chSs] at hc
  | .cons a b, [], hc => by simp [chSs] at hc
  | .cons a b, s :: ss, hc => by
    simp only [chSs, Bool.and_eq_true] at hc
    exact ss_cons (sndS h a s hc.1) (sndSs h b ss hc.2)
end
end
end Mi
namespace Mi
open PySem L2
theorem scB_iff {N ps : List Str} {sc : Scope} (h : scB N ps sc = true) : FnScope N ps sc := by
  simp only [scB, Bool.and_eq_true, Bool.not_eq_true', decide_eq_true_eq, List.all_eq_true] at h
  obtain ⟨⟨⟨⟨⟨⟨h1, h2⟩, h3⟩, h4⟩, h5⟩, h6⟩, h7⟩ := h
  refine ⟨?_, h2, h3, h4, h5, fun x hx => locB_iff (h6 x hx), fun y hy e => ?_⟩
  · split at h1
    · assumption
    · cases h1
  · have := h7 y hy
    rw [e] at this
    cases this
def chF (tx : Tx) (ft : FTx) (d : FDef) : Bool := decide (d.pure = 9) || (scB ft.N ft.ps (defScope ft.st) && decide (d.np = ft.ps.length) && decide (d.nl = ft.N.length) && chSs ⟨tx, defScope ft.st, ft.N, true⟩ d.body (defBody ft.st))
structure Stat (K : PySem.W.Frag) (mg : Str → Option Value) (r : Rx) (tx : Tx) (pr : Prog) : Prop where
  kk : K = r.K
  txts : r.txts = tx.txts
  attrs : r.attrs = tx.attrs
  tnd : Txs tx.txts
  tok : tx.txts.all PyData.strOk = true
  and_ : tx.attrs.Nodup
  bi : ∀ x ∈ (["len", "isinstance", "int", "bool", "list", "tuple", "str", "all", "any", "sum", "max", "min", "abs", "sorted", "set", "range", "enumerate", "zip"] : List Str), mg x = none
  nums : ∀ x i, tx.nums.lookup x = some i → ∃ t, mg x = some (.int i t)
  fns : ∀ (f : Nat) x, tx.fns[f]? = some (some x) → ∃ a, r.fa f = some a ∧ mg x = some (.ref a)
  ins : ∀ (c : Nat) a, r.ca c = some a → pr.makes c = true → InsOk K a
  noat : ∀ (c n : Nat) a f, r.ca c = some a → pr.hasF c n = true → tx.attrs[n]? = some f → NoAttr K a f
  kit : ∀ (c d : Nat) a b, r.ca c = some a → r.ca d = some b → pr.makes c = true → pr.asks d = true → PySem.W.kitOne K (.ref a) (.ref b) = some (pr.sub c d)
  kitB : ∀ (d : Nat) b, r.ca d = some b → pr.asks d = true → ∀ t ∈ (["NoneType", "bool", "int", "str", "list", "tuple", "dict"] : List String), PySem.W.kitOne K (.type t) (.ref b) = some false
  kitO : ∀ (c : Nat) a, r.ca c = some a → pr.makes c = true → ∀ t ∈ (["bool", "int", "str", "list", "tuple"] : List String), PySem.W.kitOne K (.ref a) (.type t) = some false
  clsN : ∀ (c : Nat) x, tx.cls[c]? = some x → ∃ a, r.ca c = some a ∧ mg x = some (.ref a)
  exc : ∀ (c : Nat) a x, r.ca c = some a → tx.cls[c]? = some x → pr.raises c = true → ExcOk K a
  cdb : ∀ x ∈ tx.cls, (x == ("__debug__" : Str)) = false
  meth : ∀ (c m f : Nat) a x, r.ca c = some a → pr.meth c m = some f → tx.attrs[m]? = some x → pr.makes c = true ∧ ∃ g, r.fa f = some g ∧ Meth K a x g
  init : ∀ (c f : Nat) a d, r.ca c = some a → pr.cls[c]? = some d → d.init = some f → ∃ g, r.fa f = some g ∧ Mk K a g
  init0 : ∀ (c : Nat) a d, r.ca c = some a → pr.cls[c]? = some d → d.init = none → d.inst = true → Mk0 K a
  kitX : ∀ (c d : Nat) a b, r.ca c = some a → r.ca d = some b → pr.raises c = true → pr.asks d = true → PySem.W.kitOne K (.ref a) (.ref b) = some (pr.sub c d)
  excX : ∀ (c : Nat) a, r.ca c = some a → pr.raises c = true → pr.asks_ ≠ [] → ExcC K a ∧ PySem.W.kitOne K (.ref a) (.type "ValueError") = some true
  vx : pr.asks_ ≠ [] → mg "ValueError" = none
  exmX : ∀ (c g : Nat) (t : AskT) a b, r.ca c = some a → r.ca t.cl = some b → pr.raises c = true → lookN g pr.asks_ = some t → (∀ d ∈ t.cs, pr.asks d = true) ∧ PySem.W.exmOne K (.ref a) (.ref b) = some (pr.sub c t.cl)
  askF : ∀ (g : Nat) (t : AskT) x, lookN g pr.asks_ = some t → tx.fns[g]? = some (some x) → ∃ A st fd ps Ng, r.fa g = some A ∧ mg x = some (.ref A) ∧ Fun K x x st A fd ∧ Binds K fd ps [] ∧ AskSh tx st ps Ng t
  rl : ∀ f q prm body scope, r.lam f q prm body scope ↔ LamGood tx f q prm body scope
  lams : ∀ f e, lookN f tx.lams = some e → pr.fns[f]? = some ⟨1, 1, 0, .cons (.ret e) .nil⟩
structure DefOk (K : PySem.W.Frag) (tx : Tx) (pr : Prog) (f : Nat) (a : Addr) : Prop where
  ex : ∃ ft d fd, pr.fns[f]? = some d ∧ Fun K ft.name ft.qual ft.st a fd ∧ Binds K fd ft.ps [] ∧ chF tx ft d = true
theorem start_rel {r : Rx} {ms xs : List Addr} {H : Hp} {ds : List D} {vs : List V} {N : List Str} (q : RelDs r ms xs H ds vs) : REnv r ms xs H (startE N.length ds) (L2.start N vs) := by
  have hl := q.length
  refine ⟨by simp [L2.start, startE, hl], fun i d h => ?_⟩
  unfold startE at h
  by_cases hi : i < ds.length
  · rw [List.getElem?_append_left (by simpa using hi), List.getElem?_map] at h
    cases e : ds[i]? with
    | none => rw [e] at h; cases h
    | some d' =>
      rw [e] at h
      cases h
      obtain ⟨v, h1, h2⟩ := q.get e
      refine ⟨v, ?_, h2⟩
      unfold L2.start
      rw [List.getElem?_append_left (by simp; omega), List.getElem?_map, h1]
      rfl
  · rw [List.getElem?_append_right (by simpa using hi)] at h
    rw [List.getElem?_replicate] at h
    split at h <;> cases h
mutual
def lowD (k : Nat) : D → Prop
  | .ref a => a < k
  | .tup ds => lowDs k ds
  | .fz ds => lowDs k ds
  | .scr ds => lowDs k ds
  | _ => True
def lowDs (k : Nat) : List D → Prop
  | [] => True
  | d :: ds => lowD k d ∧ lowDs k ds
end
section
variable {r : Rx} {ms ex xs : List Addr} {H H' : Hp}
mutual
theorem low_of : ∀ {d : D} {v : V}, RelD r ms xs H d v → lowD ms.length d
  | .ref n, v, h => by
    simp only [RelD] at h
    obtain ⟨a, h, _⟩ := h
    simp only [lowD]
    exact (List.getElem?_eq_some_iff.mp h).1
  | .tup ds, v, h => by
    simp only [RelD] at h
    obtain ⟨a, vs, _, _, _, _, q⟩ := h
    simp only [lowD]
    exact lows_of q
  | .fz ds, v, h => by
    simp only [RelD] at h
    obtain ⟨a, vs, _, _, _, _, q⟩ := h
    simp only [lowD]
    exact lows_of q
  | .scr ds, v, h => by
    simp only [RelD] at h
    obtain ⟨a, vs, _, _, _, q⟩ := h
    simp only [lowD]
    exact lows_of q
  | .non, v, h => by simp [lowD]
  | .dz, v, h => by simp [lowD]
  | .bl b, v, h => by simp [lowD]
  | .int i, v, h => by simp [lowD]
  | .str t, v, h => by simp [lowD]
  | .fn f, v, h => by simp [lowD]
  | .cls f, v, h => by simp [lowD]
  | .lam f, v, h => by simp [lowD]
theorem lows_of : ∀ {ds : List D} {vs : List V}, RelDs r ms xs H ds vs → lowDs ms.length ds
  | [], vs, h => by simp [lowDs]
  | d :: ds, vs, h => by
    obtain ⟨v, us, _, h1, h2⟩ := h.uncons
    simp only [lowDs]
    exact ⟨low_of h1, lows_of h2⟩
end
mutual
theorem RelD.few : ∀ {d : D} {v : V}, RelD r (ms ++ ex) xs H d v → lowD ms.length d → RelD r ms xs H d v
  | .ref n, v, h, l => by
    simp only [RelD] at h ⊢
    simp only [lowD] at l
    obtain ⟨a, h, e⟩ := h
    rw [List.getElem?_append_left l] at h
    exact ⟨a, h, e⟩
  | .tup ds, v, h, l => by
    simp only [RelD] at h ⊢
    simp only [lowD] at l
    obtain ⟨a, vs, e, ha, n, nx, q⟩ := h
    exact ⟨a, vs, e, ha, fun z => n (List.mem_append_left _ z), nx, RelDs.few q l⟩
  | .fz ds, v, h, l => by
    simp only [RelD] at h ⊢
    simp only [lowD] at l
    obtain ⟨a, vs, e, ha, n, nx, q⟩ := h
    exact ⟨a, vs, e, ha, fun z => n (List.mem_append_left _ z), nx, RelDs.few q l⟩
  | .scr ds, v, h, l => by
    simp only [RelD] at h ⊢
    simp only [lowD] at l
    obtain ⟨a, vs, e, hz, k, q⟩ := h
    refine ⟨a, vs, e, hz, ?_, RelDs.few q l⟩
    rcases k with k | ⟨k, n, nx⟩
    · exact .inl k
    · exact .inr ⟨k, fun z => n (List.mem_append_left _ z), nx⟩
  | .dz, v, h, l => by
    simp only [RelD] at h ⊢
    obtain ⟨a, e, ha, n, nx⟩ := h
    exact ⟨a, e, ha, fun z => n (List.mem_append_left _ z), nx⟩
  | .non, v, h, l => by simp only [RelD] at h ⊢; exact h
  | .bl b, v, h, l => by simp only [RelD] at h ⊢; exact h
  | .int i, v, h, l => by simp only [RelD] at h ⊢; exact h
  | .str t, v, h, l => by simp only [RelD] at h ⊢; exact h
  | .fn f, v, h, l => by simp only [RelD] at h ⊢; exact h
  | .cls f, v, h, l => by simp only [RelD] at h ⊢; exact h
  | .lam f, v, h, l => by
    simp only [RelD] at h ⊢
    obtain ⟨a, c, q, prm, body, scope, rfl, h1, h2, h3, ⟨n1, n2⟩, n3, n4⟩ := h
    exact ⟨a, c, q, prm, body, scope, rfl, h1, h2, h3, ⟨fun z => n1 (List.mem_append_left _ z), n2⟩, fun z => n3 (List.mem_append_left _ z), n4⟩
theorem RelDs.few : ∀ {ds : List D} {vs : List V}, RelDs r (ms ++ ex) xs H ds vs → lowDs ms.length ds → RelDs r ms xs H ds vs
  | [], vs, h, l => by simp only [RelDs] at h ⊢; exact h
  | d :: ds, vs, h, l => by
    simp only [lowDs] at l
    obtain ⟨v, us, rfl, h1, h2⟩ := h.uncons
    exact .cons (RelD.few h1 l.1) (RelDs.few h2 l.2)
end
def lowC (k : Nat) : O → Prop
  | .lst ds => lowDs k ds
  | .ins _ fs => ∀ p ∈ fs, lowD k p.2
  | .dic kvs => ∀ p ∈ kvs, lowD k p.2
theorem lowF_of : ∀ {fs : List (Nat × D)} {gs : List (Str × V)}, RelF r ms xs H fs gs → ∀ p ∈ fs, lowD ms.length p.2
  | [], gs, h, p, hp => by cases hp
  | (n, d) :: fs, gs, h, p, hp => by
    obtain ⟨s, v, us, _, _, h2, h3⟩ := h
    rcases List.mem_cons.mp hp with rfl | q
    · exact low_of h2
    · exact lowF_of h3 p q
theorem lowK_of : ∀ {fs : List (List Int × D)} {gs : List (List Key × V)}, RelK r ms xs H fs gs → ∀ p ∈ fs, lowD ms.length p.2
  | [], gs, h, p, hp => by cases hp
  | (n, d) :: fs, gs, h, p, hp => by
    obtain ⟨v, us, _, h2, h3⟩ := h
    rcases List.mem_cons.mp hp with rfl | q
    · exact low_of h2
    · exact lowK_of h3 p q
theorem lowC_of {o : O} {ho : Option HO} (h : RelC r ms xs H o ho) : lowC ms.length o := by
  cases o with
  | lst ds => obtain ⟨vs, e, q⟩ := h; exact lows_of q
  | ins c fs => obtain ⟨C, dx, gs, e, k, q⟩ := h; exact lowF_of q
  | dic kvs => obtain ⟨ps, e, q⟩ := h; exact lowK_of q
theorem RelF.few : ∀ {fs : List (Nat × D)} {gs : List (Str × V)}, RelF r (ms ++ ex) xs H fs gs → (∀ p ∈ fs, lowD ms.length p.2) → RelF r ms xs H fs gs
  | [], gs, h, l => h
  | (n, d) :: fs, gs, h, l => by
    obtain ⟨s, v, us, e, h1, h2, h3⟩ := h
    exact ⟨s, v, us, e, h1, h2.few (l _ (.head _)), h3.few fun p q => l p (.tail _ q)⟩
theorem RelK.few : ∀ {fs : List (List Int × D)} {gs : List (List Key × V)}, RelK r (ms ++ ex) xs H fs gs → (∀ p ∈ fs, lowD ms.length p.2) → RelK r ms xs H fs gs
  | [], gs, h, l => h
  | (n, d) :: fs, gs, h, l => by
    obtain ⟨v, us, e, h2, h3⟩ := h
    exact ⟨v, us, e, h2.few (l _ (.head _)), h3.few fun p q => l p (.tail _ q)⟩
theorem RelC.few {o : O} {ho : Option HO} (h : RelC r (ms ++ ex) xs H o ho) (l : lowC ms.length o) : RelC r ms xs H o ho := by
  cases o with
  | lst ds => obtain ⟨vs, e, q⟩ := h; exact ⟨vs, e, q.few l⟩
  | ins c fs => obtain ⟨C, dx, gs, e, k, q⟩ := h; exact ⟨C, dx, gs, e, k, q.few l⟩
  | dic kvs => obtain ⟨ps, e, q⟩ := h; exact ⟨ps, e, q.few l⟩
theorem Sim.few {S S' : Store} (s0 : Sim r ms xs H S) (s1 : Sim r (ms ++ ex) xs H' S') (e : S'.take S.length = S) : Sim r ms xs H' S := by
  refine ⟨s0.len, s0.nd, fun a ha q => s1.dis a ha (List.mem_append_left _ q), s1.xin, fun n o a hS hm => ?_, s1.szl, s1.szt, s1.tabs⟩
  have hn : n < S.length := (List.getElem?_eq_some_iff.mp hS).1
  have hm2 : (ms ++ ex)[n]? = some a := by rw [List.getElem?_append_left (by rw [s0.len]; exact hn)]; exact hm
  have hS2 : S'[n]? = some o := by
    have z : (S'.take S.length)[n]? = S'[n]? := List.getElem?_take_of_lt hn
    rw [← z, e]
    exact hS
  exact (s1.obj n o a hS2 hm2).few (lowC_of (s0.obj n o a hS hm))
theorem frz_rel {S' : Store} (s1 : Sim r (ms ++ ex) xs H S') : ∀ (n : Nat) {d e : D} {v : V}, frz S' ms.length n d = some e → RelD r (ms ++ ex) xs H d v → RelD r ms xs H e v
  | 0, d, e, v, h, q => by simp [frz] at h
  | n + 1, d, e, v, h, q => by
    have key : ∀ (ds es : List D) (vs : List V), mapO (frz S' ms.length n) ds = some es → RelDs r (ms ++ ex) xs H ds vs → RelDs r ms xs H es vs := by
      intro ds
      induction ds with
      | nil => intro es vs h q; simp [mapO] at h; subst h; simp only [RelDs] at q ⊢; exact q
      | cons d ds ih =>
        intro es vs h q
        obtain ⟨v, us, rfl, q1, q2⟩ := q.uncons
        simp only [mapO] at h
        split at h
        · rename_i y ys h1 h2
          cases h
          exact .cons (frz_rel s1 n h1 q1) (ih ys us h2 q2)
        · cases h
    cases d with
    | tup ds =>
      simp only [frz, Option.map_eq_some_iff] at h
      obtain ⟨es, h1, rfl⟩ := h
      simp only [RelD] at q ⊢
      obtain ⟨a, vs, e, ha, n, nx, q⟩ := q
      exact ⟨a, vs, e, ha, fun z => n (List.mem_append_left _ z), nx, key _ _ _ h1 q⟩
    | fz ds =>
      simp only [frz, Option.map_eq_some_iff] at h
      obtain ⟨es, h1, rfl⟩ := h
      simp only [RelD] at q ⊢
      obtain ⟨a, vs, e, ha, n, nx, q⟩ := q
      exact ⟨a, vs, e, ha, fun z => n (List.mem_append_left _ z), nx, key _ _ _ h1 q⟩
    | ref a =>
      simp only [frz] at h
      split at h
      · rename_i hl
        cases h
        exact q.few (by simp only [lowD]; exact hl)
      · rename_i hl
        split at h
        · rename_i ds hS
          simp only [Option.map_eq_some_iff] at h
          obtain ⟨es, h1, rfl⟩ := h
          simp only [RelD] at q ⊢
          obtain ⟨b, hb, rfl⟩ := q
          obtain ⟨vs, hH, q⟩ := s1.obj a _ b hS hb
          refine ⟨b, vs, rfl, hH, fun z => ?_, fun z => s1.dis b z (List.mem_of_getElem? hb), key _ _ _ h1 q⟩
          obtain ⟨i, hi, e⟩ := List.getElem_of_mem z
          have e2 : (ms ++ ex)[i]? = some b := by rw [List.getElem?_append_left hi, List.getElem?_eq_getElem hi, e]
          have la : a < (ms ++ ex).length := (List.getElem?_eq_some_iff.mp hb).1
          have := (List.getElem?_inj la s1.nd).mp (hb.trans e2.symm)
          omega
        · cases h
    | dz =>
      simp only [frz] at h; cases h
      simp only [RelD] at q ⊢
      obtain ⟨a, e, ha, n, nx⟩ := q
      exact ⟨a, e, ha, fun z => n (List.mem_append_left _ z), nx⟩
    | scr ds => simp [frz] at h
    | non => simp only [frz] at h; cases h; simp only [RelD] at q ⊢; exact q
    | bl b => simp only [frz] at h; cases h; simp only [RelD] at q ⊢; exact q
    | int i => simp only [frz] at h; cases h; simp only [RelD] at q ⊢; exact q
    | str t => simp only [frz] at h; cases h; simp only [RelD] at q ⊢; exact q
    | fn f => simp only [frz] at h; cases h; simp only [RelD] at q ⊢; exact q
    | cls f => simp only [frz] at h; cases h; simp only [RelD] at q ⊢; exact q
    | lam f =>
      simp only [frz] at h; cases h
      simp only [RelD] at q ⊢
      obtain ⟨a, c, w, prm, body, scope, e, h1, h2, h3, ⟨n1, n2⟩, n3, n4⟩ := q
      exact ⟨a, c, w, prm, body, scope, e, h1, h2, h3, ⟨fun z => n1 (List.mem_append_left _ z), n2⟩, fun z => n3 (List.mem_append_left _ z), n4⟩
theorem Good.ofShut {m : M D} {S : Store} {Q : V → Hp → Prop} {E : Nat → Hp → Prop} (s0 : Sim r ms xs H S)
    (g : Good r xs ms H (Mi.shut m S) (fun d _ ms' H' => ∀ v, RelD r ms' xs H' d v → Q v H') (fun c _ _ H' => E c H')) :
    Good r xs ms H (m S) (fun d _ ms' H' => ∀ v, RelD r ms' xs H' d v → Q v H') (fun c _ _ H' => E c H') := by
  simp only [Mi.shut] at g
  cases hm : m S with
  | stuck => rw [hm] at g; exact g
  | ok d S' =>
    rw [hm] at g
    dsimp only at g
    intro ms' H' x s1 v rv
    split at g
    · rename_i ht
      split at g
      · rename_i e he
        obtain ⟨⟨ex, rfl, hx⟩, kp⟩ := x
        refine g ms H' ⟨⟨[], by simp, fun _ h => by cases h⟩, kp⟩ (s0.few s1 ht) v ?_
        rw [← s0.len] at he
        exact frz_rel s1 _ he rv
      · exact g.elim
    · exact g.elim
  | exc c S' =>
    rw [hm] at g
    dsimp only at g
    intro ms' H' x s1
    split at g
    · rename_i ht
      obtain ⟨⟨ex, rfl, hx⟩, kp⟩ := x
      exact g ms H' ⟨⟨[], by simp, fun _ h => by cases h⟩, kp⟩ (s0.few s1 ht)
    · exact g.elim
mutual
theorem RelD.bare : ∀ {d : D} {v : V}, RelD r ms xs H d v → D.plain d = true → RelD r [] (xs ++ ms) H d v
  | .ref n, v, h, l => by simp [D.plain] at l
  | .tup ds, v, h, l => by
    simp only [RelD] at h ⊢
    simp only [D.plain] at l
    obtain ⟨a, vs, e, ha, n, nx, q⟩ := h
    exact ⟨a, vs, e, ha, by simp, by simp [n, nx], RelDs.bare q l⟩
  | .fz ds, v, h, l => by
    simp only [RelD] at h ⊢
    simp only [D.plain] at l
    obtain ⟨a, vs, e, ha, n, nx, q⟩ := h
    exact ⟨a, vs, e, ha, by simp, by simp [n, nx], RelDs.bare q l⟩
  | .scr ds, v, h, l => by
    simp only [RelD] at h ⊢
    simp only [D.plain] at l
    obtain ⟨a, vs, e, hz, k, q⟩ := h
    refine ⟨a, vs, e, hz, ?_, RelDs.bare q l⟩
    rcases k with k | ⟨k, n, nx⟩
    · exact .inl k
    · exact .inr ⟨k, by simp, by simp [n, nx]⟩
  | .dz, v, h, l => by
    simp only [RelD] at h ⊢
    obtain ⟨a, e, ha, n, nx⟩ := h
    exact ⟨a, e, ha, by simp, by simp [n, nx]⟩
  | .non, v, h, l => by simp only [RelD] at h ⊢; exact h
  | .bl b, v, h, l => by simp only [RelD] at h ⊢; exact h
  | .int i, v, h, l => by simp only [RelD] at h ⊢; exact h
  | .str t, v, h, l => by simp only [RelD] at h ⊢; exact h
  | .fn f, v, h, l => by simp only [RelD] at h ⊢; exact h
  | .cls f, v, h, l => by simp only [RelD] at h ⊢; exact h
  | .lam f, v, h, l => by
    simp only [RelD] at h ⊢
    obtain ⟨a, c, q, prm, body, scope, rfl, h1, h2, h3, ⟨n1, n2⟩, n3, n4⟩ := h
    exact ⟨a, c, q, prm, body, scope, rfl, h1, h2, h3, ⟨by simp, by simp [n1, n2]⟩, by simp, by simp [n3, n4]⟩
theorem RelDs.bare : ∀ {ds : List D} {vs : List V}, RelDs r ms xs H ds vs → D.plains ds = true → RelDs r [] (xs ++ ms) H ds vs
  | [], vs, h, l => by simp only [RelDs] at h ⊢; exact h
  | d :: ds, vs, h, l => by
    simp only [D.plains, Bool.and_eq_true] at l
    obtain ⟨v, us, rfl, h1, h2⟩ := h.uncons
    exact .cons (RelD.bare h1 l.1) (RelDs.bare h2 l.2)
end
theorem frz_rel0 {S' : Store} {m1 : List Addr} (s1 : Sim r m1 (xs ++ ms) H S') : ∀ (n : Nat) {d e : D} {v : V}, frz S' 0 n d = some e → RelD r m1 (xs ++ ms) H d v → RelD r ms xs H e v
  | 0, d, e, v, h, q => by simp [frz] at h
  | n + 1, d, e, v, h, q => by
    have key : ∀ (ds es : List D) (vs : List V), mapO (frz S' 0 n) ds = some es → RelDs r m1 (xs ++ ms) H ds vs → RelDs r ms xs H es vs := by
      intro ds
      induction ds with
      | nil => intro es vs h q; simp [mapO] at h; subst h; simp only [RelDs] at q ⊢; exact q
      | cons d ds ih =>
        intro es vs h q
        obtain ⟨v, us, rfl, q1, q2⟩ := q.uncons
        simp only [mapO] at h
        split at h
        · rename_i y ys h1 h2
          cases h
          exact .cons (frz_rel0 s1 n h1 q1) (ih ys us h2 q2)
        · cases h
    have two : ∀ {a : Addr}, a ∉ xs ++ ms → a ∉ ms ∧ a ∉ xs := fun h => ⟨fun q => h (List.mem_append_right _ q), fun q => h (List.mem_append_left _ q)⟩
    cases d with
    | tup ds =>
      simp only [frz, Option.map_eq_some_iff] at h
      obtain ⟨es, h1, rfl⟩ := h
      simp only [RelD] at q ⊢
      obtain ⟨a, vs, e, ha, n, nx, q⟩ := q
      exact ⟨a, vs, e, ha, (two nx).1, (two nx).2, key _ _ _ h1 q⟩
    | fz ds =>
      simp only [frz, Option.map_eq_some_iff] at h
      obtain ⟨es, h1, rfl⟩ := h
      simp only [RelD] at q ⊢
      obtain ⟨a, vs, e, ha, n, nx, q⟩ := q
      exact ⟨a, vs, e, ha, (two nx).1, (two nx).2, key _ _ _ h1 q⟩
    | ref a =>
      simp only [frz] at h
      rw [if_neg (by omega)] at h
      split at h
      · rename_i ds hS
        simp only [Option.map_eq_some_iff] at h
        obtain ⟨es, h1, rfl⟩ := h
        simp only [RelD] at q ⊢
        obtain ⟨b, hb, rfl⟩ := q
        obtain ⟨vs, hH, q⟩ := s1.obj a _ b hS hb
        have nb : b ∉ xs ++ ms := fun z => s1.dis b z (List.mem_of_getElem? hb)
        exact ⟨b, vs, rfl, hH, (two nb).1, (two nb).2, key _ _ _ h1 q⟩
      · cases h
    | dz =>
      simp only [frz] at h; cases h
      simp only [RelD] at q ⊢
      obtain ⟨a, e, ha, n, nx⟩ := q
      exact ⟨a, e, ha, (two nx).1, (two nx).2⟩
    | scr ds => simp [frz] at h
    | non => simp only [frz] at h; cases h; simp only [RelD] at q ⊢; exact q
    | bl b => simp only [frz] at h; cases h; simp only [RelD] at q ⊢; exact q
    | int i => simp only [frz] at h; cases h; simp only [RelD] at q ⊢; exact q
    | str t => simp only [frz] at h; cases h; simp only [RelD] at q ⊢; exact q
    | fn f => simp only [frz] at h; cases h; simp only [RelD] at q ⊢; exact q
    | cls f => simp only [frz] at h; cases h; simp only [RelD] at q ⊢; exact q
    | lam f =>
      simp only [frz] at h; cases h
      simp only [RelD] at q ⊢
      obtain ⟨a, c, w, prm, body, scope, e, h1, h2, h3, ⟨n1, n2⟩, n3, n4⟩ := q
      exact ⟨a, c, w, prm, body, scope, e, h1, h2, h3, two n2, two n4⟩
theorem Sim.bare {S : Store} (s0 : Sim r ms xs H S) : Sim r [] (xs ++ ms) H [] := by
  refine ⟨rfl, List.nodup_nil, fun a _ h => by (cases h), fun a ha => ?_, fun n o a h => by (simp at h), s0.szl, s0.szt, s0.tabs⟩
  rcases List.mem_append.mp ha with h | h
  · exact s0.xin a h
  · obtain ⟨n, hn, e⟩ := List.getElem_of_mem h
    have hS : n < S.length := by rw [← s0.len]; exact hn
    have q := s0.obj n S[n] a (List.getElem?_eq_getElem hS) (by rw [List.getElem?_eq_getElem hn, e])
    cases q2 : S[n] with
    | lst ds => rw [q2] at q; obtain ⟨_, e, _⟩ := q; exact ⟨_, e, fun _ z => (by cases z), fun _ z => (by cases z)⟩
    | ins c fs => rw [q2] at q; obtain ⟨_, _, _, e, _⟩ := q; exact ⟨_, e, fun _ z => (by cases z), fun _ z => (by cases z)⟩
    | dic kvs => rw [q2] at q; obtain ⟨_, e, _⟩ := q; exact ⟨_, e, fun _ z => (by cases z), fun _ z => (by cases z)⟩
theorem Sim.back {S S' : Store} {m1 : List Addr} (s0 : Sim r ms xs H S) (x : Ext [] H m1 H') (s1 : Sim r m1 (xs ++ ms) H' S') : Sim r ms xs H' S := by
  have e : Ext ms H ms H' := ⟨⟨[], by simp, fun _ h => by cases h⟩, fun a o h _ t => x.keep a o h (by simp) t⟩
  refine ⟨s0.len, s0.nd, s0.dis, fun a ha => ?_, fun n o a hS hm => ?_, s1.szl, s1.szt, s1.tabs⟩
  · obtain ⟨o, q, t⟩ := s0.xin a ha
    exact ⟨o, x.keep a o q (by simp) t.1, t⟩
  · have q := s0.obj n o a hS hm
    have same : H' a = H a := by
      cases hH : H a with
      | some u => exact x.keep a u hH (by simp) (fun ps z => by rw [hH, z] at q; exact (relC_no q).1 ps rfl)
      | none =>
        exfalso
        rw [hH] at q
        cases o with
        | lst ds => obtain ⟨_, e, _⟩ := q; cases e
        | ins c fs => obtain ⟨_, _, _, e, _⟩ := q; cases e
        | dic kvs => obtain ⟨_, e, _⟩ := q; cases e
    rw [same]
    exact q.map fun d v z => z.mono e
theorem Good.ofClos {m : M D} {S : Store} {Q : V → Hp → Prop} {E : Nat → Hp → Prop} (s0 : Sim r ms xs H S)
    (g : Good r xs ms H (Mi.clos m S) (fun d _ ms' H' => ∀ v, RelD r ms' xs H' d v → Q v H') (fun c _ _ H' => E c H')) :
    Good r (xs ++ ms) [] H (m []) (fun d _ ms' H' => ∀ v, RelD r ms' (xs ++ ms) H' d v → Q v H') (fun c _ _ H' => E c H') := by
  simp only [Mi.clos] at g
  cases hm : m [] with
  | stuck => rw [hm] at g; exact g
  | ok d S' =>
    rw [hm] at g
    dsimp only at g
    intro m1 H1 x s1 v rv
    split at g
    · rename_i e he
      exact g ms H1 ⟨⟨[], by simp, fun _ h => by cases h⟩, fun a o h _ t => x.keep a o h (by simp) t⟩ (s0.back x s1) v (frz_rel0 s1 _ he rv)
    · exact g.elim
  | exc c S' =>
    rw [hm] at g
    dsimp only at g
    intro m1 H1 x s1
    exact g ms H1 ⟨⟨[], by simp, fun _ h => by cases h⟩, fun a o h _ t => x.keep a o h (by simp) t⟩ (s0.back x s1)
theorem frz_bare {S : Store} (s0 : Sim r ms xs H S) : ∀ (n : Nat) {d e : D} {v : V}, frz S 0 n d = some e → RelD r ms xs H d v → RelD r [] [] H e v
  | 0, d, e, v, h, q => by simp [frz] at h
  | n + 1, d, e, v, h, q => by
    have key : ∀ (ds es : List D) (vs : List V), mapO (frz S 0 n) ds = some es → RelDs r ms xs H ds vs → RelDs r [] [] H es vs := by
      intro ds
      induction ds with
      | nil => intro es vs h q; simp [mapO] at h; subst h; simp only [RelDs] at q ⊢; exact q
      | cons d ds ih =>
        intro es vs h q
        obtain ⟨v, us, rfl, q1, q2⟩ := q.uncons
        simp only [mapO] at h
        split at h
        · rename_i y ys h1 h2
          cases h
          exact .cons (frz_bare s0 n h1 q1) (ih ys us h2 q2)
        · cases h
    cases d with
    | tup ds =>
      simp only [frz, Option.map_eq_some_iff] at h
      obtain ⟨es, h1, rfl⟩ := h
      simp only [RelD] at q ⊢
      obtain ⟨a, vs, e, ha, n, nx, q⟩ := q
      exact ⟨a, vs, e, ha, by simp, by simp, key _ _ _ h1 q⟩
    | fz ds =>
      simp only [frz, Option.map_eq_some_iff] at h
      obtain ⟨es, h1, rfl⟩ := h
      simp only [RelD] at q ⊢
      obtain ⟨a, vs, e, ha, n, nx, q⟩ := q
      exact ⟨a, vs, e, ha, by simp, by simp, key _ _ _ h1 q⟩
    | ref a =>
      simp only [frz] at h
      rw [if_neg (by omega)] at h
      split at h
      · rename_i ds hS
        simp only [Option.map_eq_some_iff] at h
        obtain ⟨es, h1, rfl⟩ := h
        simp only [RelD] at q ⊢
        obtain ⟨b, hb, rfl⟩ := q
        obtain ⟨vs, hH, q⟩ := s0.obj a _ b hS hb
        exact ⟨b, vs, rfl, hH, by simp, by simp, key _ _ _ h1 q⟩
      · cases h
    | dz =>
      simp only [frz] at h; cases h
      simp only [RelD] at q ⊢
      obtain ⟨a, e, ha, n, nx⟩ := q
      exact ⟨a, e, ha, by simp, by simp⟩
    | scr ds => simp [frz] at h
    | non => simp only [frz] at h; cases h; simp only [RelD] at q ⊢; exact q
    | bl b => simp only [frz] at h; cases h; simp only [RelD] at q ⊢; exact q
    | int i => simp only [frz] at h; cases h; simp only [RelD] at q ⊢; exact q
    | str t => simp only [frz] at h; cases h; simp only [RelD] at q ⊢; exact q
    | fn f => simp only [frz] at h; cases h; simp only [RelD] at q ⊢; exact q
    | cls f => simp only [frz] at h; cases h; simp only [RelD] at q ⊢; exact q
    | lam f =>
      simp only [frz] at h; cases h
      simp only [RelD] at q ⊢
      obtain ⟨a, c, w, prm, body, scope, e, h1, h2, h3, ⟨n1, n2⟩, n3, n4⟩ := q
      exact ⟨a, c, w, prm, body, scope, e, h1, h2, h3, ⟨by simp, by simp⟩, by simp, by simp⟩
theorem frzs_bare {S : Store} (s0 : Sim r ms xs H S) {n : Nat} : ∀ {ds es : List D} {vs : List V}, mapO (frz S 0 n) ds = some es → RelDs r ms xs H ds vs → RelDs r [] [] H es vs
  | [], es, vs, h, q => by simp [mapO] at h; subst h; simp only [RelDs] at q ⊢; exact q
  | d :: ds, es, vs, h, q => by
    obtain ⟨v, us, rfl, q1, q2⟩ := q.uncons
    simp only [mapO] at h
    split at h
    · rename_i y ys h1 h2
      cases h
      exact .cons (frz_bare s0 n h1 q1) (frzs_bare s0 h2 q2)
    · cases h
theorem mapO_len {α β : Type} {f : α → Option β} : ∀ {l : List α} {m : List β}, mapO f l = some m → m.length = l.length
  | [], m, h => by simp [mapO] at h; subst h; rfl
  | a :: l, m, h => by
    simp only [mapO] at h
    split at h
    · rename_i y ys h1 h2
      cases h
      simp [mapO_len h2]
    · cases h
theorem Sim.none {S : Store} (s0 : Sim r ms xs H S) : Sim r [] [] H [] :=
  ⟨rfl, List.nodup_nil, fun a h => by (cases h), fun a h => by (cases h), fun n o a h => by (simp at h), s0.szl, s0.szt, s0.tabs⟩
theorem Sim.again {S S' : Store} {m1 ys : List Addr} (s0 : Sim r ms xs H S) (x : Ext [] H m1 H') (s1 : Sim r m1 ys H' S') : Sim r ms xs H' S := by
  have e : Ext ms H ms H' := ⟨⟨[], by simp, fun _ h => by cases h⟩, fun a o h _ t => x.keep a o h (by simp) t⟩
  refine ⟨s0.len, s0.nd, s0.dis, fun a ha => ?_, fun n o a hS hm => ?_, s1.szl, s1.szt, s1.tabs⟩
  · obtain ⟨o, q, t⟩ := s0.xin a ha
    exact ⟨o, x.keep a o q (by simp) t.1, t⟩
  · have q := s0.obj n o a hS hm
    have same : H' a = H a := by
      cases hH : H a with
      | some u => exact x.keep a u hH (by simp) (fun ps z => by rw [hH, z] at q; exact (relC_no q).1 ps rfl)
      | none =>
        exfalso
        rw [hH] at q
        cases o with
        | lst ds => obtain ⟨_, e, _⟩ := q; cases e
        | ins c fs => obtain ⟨_, _, _, e, _⟩ := q; cases e
        | dic kvs => obtain ⟨_, e, _⟩ := q; cases e
    rw [same]
    exact q.map fun d v z => z.mono e
theorem flat_rel {d : D} {v : V} {m1 m2 x1 x2 : List Addr} {H1 H2 : Hp} (h : D.flat d = true) (q : RelD r m1 x1 H1 d v) : RelD r m2 x2 H2 d v := by
  cases d <;> simp [D.flat] at h <;> simp only [RelD] at q ⊢ <;> exact q
theorem Good.ofVals {ds : List D} {f : List D → M D} {S : Store} {Q : V → Hp → Prop} {E : Nat → Hp → Prop} (s0 : Sim r ms xs H S)
    (g : Good r xs ms H (Mi.vals ds f S) (fun d _ ms' H' => ∀ v, RelD r ms' xs H' d v → Q v H') (fun c _ _ H' => E c H')) :
    ∃ es, mapO (frz S 0 deep) ds = some es ∧ Good r [] [] H (f es []) (fun d _ ms' H' => ∀ v, RelD r ms' [] H' d v → Q v H') (fun c _ _ H' => E c H') := by
  simp only [Mi.vals] at g
  cases he : mapO (frz S 0 deep) ds with
  | none => rw [he] at g; exact g.elim
  | some es =>
    rw [he] at g
    dsimp only at g
    refine ⟨es, rfl, ?_⟩
    cases hm : f es [] with
    | stuck => rw [hm] at g; exact g
    | ok d S' =>
      rw [hm] at g
      dsimp only at g
      intro m1 H1 x s1 v rv
      split at g
      · rename_i hf
        exact g ms H1 ⟨⟨[], by simp, fun _ h => by cases h⟩, fun a o h _ t => x.keep a o h (by simp) t⟩ (s0.again x s1) v (flat_rel hf rv)
      · exact g.elim
    | exc c S' =>
      rw [hm] at g
      dsimp only at g
      intro m1 H1 x s1
      exact g ms H1 ⟨⟨[], by simp, fun _ h => by cases h⟩, fun a o h _ t => x.keep a o h (by simp) t⟩ (s0.again x s1)
end
theorem lam_len {K : PySem.W.Frag} {mg : Str → Option Value} {r : Rx} {tx : Tx} {pr : Prog} {fu n f : Nat} {q : Str} {prm : Arguments} {body : Expr} {scope : Scope} (st : Stat K mg r tx pr) (h : r.lam f q prm body scope) (ds : List D) (S : Store) (z : run pr fu n f ds S ≠ .stuck) : ds.length = 1 := by
  obtain ⟨e, p, he, _⟩ := (st.rl f q prm body scope).mp h
  cases n with
  | zero => exact absurd rfl z
  | succ n =>
    simp only [run, st.lams f e he] at z
    by_cases q : ds.length = 1
    · exact q
    · rw [if_neg q] at z; exact absurd rfl z
theorem bindL {p : Pos} {q : Str} {body : Expr} {scope : Scope} {cl : List (Str × Addr)} {pm cv ctv u : Value} : bindArgs (PySem.W.kla_fn "<lambda>" q ⟨[], [⟨lamN, none, p⟩], none, [], [], none, []⟩ body scope cl pm cv ctv) ⟨[u], []⟩ = (pure [(lamN, u)] : Sem (List (Str × Value))) := rfl
theorem lam_one {P : Program} {w : World} {K : PySem.W.Frag} {mg : Str → Option Value} {base : Heap} {r : Rx} {tx : Tx} {pr : Prog} {fu n : Nat} (st : Stat K mg r tx pr)
    (ih : ∀ (f : Nat) (a : Addr), r.fa f = some a → ∃ fd ps, FnOk P w K mg base (L2.CX P w) (4 * n) a fd ps (spF r ps.length (run pr fu n f)) ∧ Binds K fd ps [] ∧ PySem.W.keepIn K (.ref a) = true ∧ ∀ ds S, run pr fu n f ds S ≠ .stuck → ds.length = ps.length)
    (ihl : ∀ f, LamFn P w K mg base (4 * n) r f (run pr fu n f)) (f : Nat) : LamFn P w K mg base (4 * n + 3 + 1) r f (run pr fu (n + 1) f) := by
  intro A outer s H a c q prm body scope us vs Q hl hr e0 ha hc rv hs
  obtain ⟨e, p, he, rfl, hsc, hch⟩ := (st.rl f q prm body scope).mp hl
  have h1 := st.lams f e he
  have SC := scB_iff hsc
  obtain ⟨hvl, ms, xs, S, ds, sm, rd, g⟩ := hs
  obtain ⟨u, rfl⟩ : ∃ u, us = [u] := by
    have := rv.length
    rw [hvl] at this
    exact List.length_eq_one_iff.mp this.symm
  refine run_lamV (k := 4 * n + 3) (N := [lamN]) (ps := [lamN]) (E := fun _ _ _ => False) (t := tE r ⟨run pr fu n, fu, pr⟩ (fun _ _ _ _ => False) e) SC hr e0 ha hc (fun pm ctv => bindL) rv hvl (fun hr2 => ?_) ?_
  · have cx : Cxt (cxOf (L2.CX P w) P w K mg base [lamN] q scope a (.ref c) A outer s H (fun _ _ _ => False)) r ⟨run pr fu n, fu, pr⟩ tx (4 * n) :=
      ⟨rfl, SC.nd, hr2.mono (by omega), st.kk, st.txts, st.attrs, st.tnd, st.tok, st.and_, st.bi, st.nums, st.fns, st.ins, st.noat, st.kit, st.kitB, st.kitO, st.clsN, st.exc, st.cdb, ih, st.meth, st.init, st.init0, st.kitX, st.excX, st.vx, st.exmX, st.askF, ihl, fun f q prm body scope z => (st.rl f q prm body scope).mpr z, fun f q prm body scope z => lam_len st z⟩
    exact (sndE e body _ _ ⟨tx, scope, [lamN], false⟩ ⟨cx, rfl, rfl, takes_of rfl rfl rfl rfl, fun z => by cases z⟩ hch).pe
  · have hd : ds.length = 1 := by rw [← rd.length]; exact hvl
    refine ⟨ms, xs, S, startE 1 ds, sm, start_rel (N := [lamN]) rd, ?_⟩
    simp only [run, h1] at g
    rw [if_pos hd] at g
    simp only [shutB, noX, exSs, exS, bnd] at g
    cases hq : evE ⟨run pr fu n, fu, pr⟩ e (startE 1 ds) S with
    | stuck => rw [hq] at g; exact g
    | exc c S' => rw [hq] at g; exact (show False from g).elim
    | ok d S' => rw [hq] at g; exact g
theorem level_one {P : Program} {w : World} {K : PySem.W.Frag} {mg : Str → Option Value} {base : Heap} {r : Rx} {tx : Tx} {pr : Prog} {fu n f : Nat} {a : Addr} {ft : FTx} {d : FDef} {fd : FuncData} (st : Stat K mg r tx pr)
    (ih : ∀ (f : Nat) (a : Addr), r.fa f = some a → ∃ fd ps, FnOk P w K mg base (L2.CX P w) (4 * n) a fd ps (spF r ps.length (run pr fu n f)) ∧ Binds K fd ps [] ∧ PySem.W.keepIn K (.ref a) = true ∧ ∀ ds S, run pr fu n f ds S ≠ .stuck → ds.length = ps.length)
    (ihl : ∀ f, LamFn P w K mg base (4 * n) r f (run pr fu n f))
    (h1 : pr.fns[f]? = some d) (F : Fun K ft.name ft.qual ft.st a fd) (hc : chF tx ft d = true) (lm : LamOk base mg r fd.code (ft.qual ++ ".<locals>.")) :
    FnOk P w K mg base (L2.CX P w) (4 * n + 3 + 1) a fd ft.ps (spF r ft.ps.length (run pr fu (n + 1) f)) ∧ ∀ ds S, run pr fu (n + 1) f ds S ≠ .stuck → ds.length = ft.ps.length := by
  by_cases h9 : d.pure = 9
  · have sk : ∀ ds S, run pr fu (n + 1) f ds S = .stuck := fun ds S => by
      simp only [run, h1, h9, shutB]
      split <;> rfl
    refine ⟨⟨fun vs H Q E q => q.1, fun A outer s H args us vs Q E hr he hb hv hs => ?_⟩, fun ds S q => absurd (sk ds S) q⟩
    obtain ⟨_, ms, xs, S, ds, _, _, g⟩ := hs
    rw [sk] at g
    exact (show False from g).elim
  simp only [chF, Bool.or_eq_true, Bool.and_eq_true, decide_eq_true_eq] at hc
  obtain ⟨⟨⟨hsc, hnp⟩, hnl⟩, hbody⟩ := hc.resolve_left h9
  have SC := scB_iff hsc
  have hlen : ∀ ds S, run pr fu (n + 1) f ds S ≠ .stuck → ds.length = ft.ps.length := fun ds S h => by
    simp only [run, h1] at h
    by_cases q : ds.length = d.np
    · rw [q, hnp]
    · rw [if_neg q] at h; exact absurd rfl h
  refine ⟨?_, hlen⟩
  obtain ⟨oc, od, kV, doc, pm, an, cdv, ct, osl, rfl, lk, hcd⟩ := F.ex
  refine fn_of (k := 4 * n + 3) lk hcd SC (fun vs H Q E q => q.1) fun A outer s H vs Q E hr hsp => ?_
  obtain ⟨hvl, ms, xs, S, ds, sm, rd, g⟩ := hsp
  let X := cxOf (L2.CX P w) P w K mg base ft.N ft.qual (defScope ft.st) a cdv A outer s H E
  have cx : Cxt X r ⟨run pr fu n, fu, pr⟩ tx (4 * n) :=
    ⟨rfl, SC.nd, hr.mono (by omega), st.kk, st.txts, st.attrs, st.tnd, st.tok, st.and_, st.bi, st.nums, st.fns, st.ins, st.noat, st.kit, st.kitB, st.kitO, st.clsN, st.exc, st.cdb, ih, st.meth, st.init, st.init0, st.kitX, st.excX, st.vx, st.exmX, st.askF, ihl, fun f q prm body scope z => (st.rl f q prm body scope).mpr z, fun f q prm body scope z => lam_len st z⟩
  have hh : HereS X r ⟨run pr fu n, fu, pr⟩ (fun c d _ H => E c d H) ⟨tx, defScope ft.st, ft.N, true⟩ (4 * n) :=
    ⟨⟨cx, rfl, rfl, takes_of rfl rfl rfl rfl, fun _ => ⟨lm, hr⟩⟩, SC.kind, fun _ => rfl, passes_of rfl⟩
  refine ⟨_, sndSs hh d.body _ hbody, ?_⟩
  have hdl : ds.length = d.np := by rw [hnp, ← rd.length]; exact hvl
  simp only [run, h1] at g
  rw [if_pos hdl] at g
  have key : ∀ (ms xs : List Addr) (S : Store) (ds : List D), Sim r ms xs H S → RelDs r ms xs H ds vs → Good r xs ms H (bnd (exSs ⟨run pr fu n, fu, pr⟩ d.body (startE d.nl ds)) fin S) (fun d _ ms' H' => ∀ v, RelD r ms' xs H' d v → Q v H') (fun c _ _ H' => ∀ a, r.ca c = some a → E (.ref a) none H') → tSs r ⟨run pr fu n, fu, pr⟩ (fun c d _ H => E c d H) d.body { nx := fun _ H' => Q .non H', rt := Q } (L2.start ft.N vs) H := fun ms xs S ds sm rd g =>
    ⟨ms, xs, S, startE d.nl ds, sm, by rw [hnl]; exact start_rel rd, g.bind.mono (fun o S1 m1 H1 x1 s1 g1 => by
      cases o with
      | nx ρ => intro σ e; exact g1 m1 H1 .refl s1 _ .of_non
      | rt d => intro v rv; exact g1 m1 H1 .refl s1 v rv
      | bk ρ => intro σ e; exact (show False from g1).elim) fun c S1 m1 H1 x1 s1 g1 a ha σ => g1 a ha⟩
  match hp : d.pure with
  | 0 =>
    rw [hp] at g
    exact key ms xs S ds sm rd g
  | 1 =>
    rw [hp] at g
    simp only [shutB] at g
    by_cases hn : D.plains ds = true
    · rw [if_pos hn] at g
      exact key [] (xs ++ ms) [] ds sm.bare (rd.bare hn) (Good.ofClos (Q := Q) (E := fun c H' => ∀ a, r.ca c = some a → E (.ref a) none H') sm g)
    · rw [if_neg hn] at g
      exact key ms xs S ds sm rd (Good.ofShut (Q := Q) (E := fun c H' => ∀ a, r.ca c = some a → E (.ref a) none H') sm g)
  | j + 2 =>
    rw [hp] at g
    have h7 : j ≠ 7 := fun z => h9 (by rw [hp, z])
    rw [show ∀ (ds : List D) (f : List D → M D), shutB (j + 2) ds f = vals ds f from fun ds f => by unfold shutB; split <;> first | omega | rfl] at g
    obtain ⟨es, he, g⟩ := Good.ofVals (Q := Q) (E := fun c H' => ∀ a, r.ca c = some a → E (.ref a) none H') sm g
    exact key [] [] [] es sm.none (frzs_bare sm he rd) g
theorem level {P : Program} {w : World} {K : PySem.W.Frag} {mg : Str → Option Value} {base : Heap} {r : Rx} {tx : Tx} {pr : Prog} {fu : Nat} (st : Stat K mg r tx pr) (df : ∀ f a, r.fa f = some a → DefOk K tx pr f a) (lm : ∀ (f : Nat) (a : Addr) (ft : FTx) (fd : FuncData), r.fa f = some a → Fun K ft.name ft.qual ft.st a fd → LamOk base mg r fd.code (ft.qual ++ ".<locals>.")) :
    ∀ n : Nat, (∀ (f : Nat) (a : Addr), r.fa f = some a → ∃ fd ps, FnOk P w K mg base (L2.CX P w) (4 * n) a fd ps (spF r ps.length (run pr fu n f)) ∧ Binds K fd ps [] ∧ PySem.W.keepIn K (.ref a) = true ∧ ∀ ds S, run pr fu n f ds S ≠ .stuck → ds.length = ps.length) ∧ ∀ f, LamFn P w K mg base (4 * n) r f (run pr fu n f)
  | 0 => by
    refine ⟨fun f a ha => ?_, fun f A outer s H a c q prm body scope us vs Q hl hr e0 ha hc rv hs => ?_⟩
    · obtain ⟨ft, d, fd, h1, F, B, hc⟩ := (df f a ha).ex
      refine ⟨fd, ft.ps, ⟨fun vs H Q E q => q.1, fun A outer s H args us vs Q E hr he hb hv hs => ?_⟩, B, F.kp, fun ds S h => absurd rfl h⟩
      obtain ⟨_, ms, xs, S, ds, _, _, g⟩ := hs
      exact (show False from g).elim
    · obtain ⟨_, ms, xs, S, ds, _, _, g⟩ := hs
      exact (show False from g).elim
  | n + 1 => by
    have ih := level (P := P) (w := w) (fu := fu) st df lm n
    refine ⟨fun f a ha => ?_, lam_one st ih.1 ih.2⟩
    obtain ⟨ft, d, fd, h1, F, B, hc⟩ := (df f a ha).ex
    have q := level_one (P := P) (w := w) (base := base) (fu := fu) st ih.1 ih.2 h1 F hc (lm f a ft fd ha F)
    exact ⟨fd, ft.ps, q.1, B, F.kp, q.2⟩
def spZ (sp : Sp) (n : Nat) : Sp := fun vs H Q E => vs.length = n ∧ (SzOk H → sp vs H Q E)
theorem FnOk.sz {P : Program} {w : World} {K : PySem.W.Frag} {mg : Str → Option Value} {base : Heap} {CX : CXT} {k : Nat} {f : Addr} {fd : FuncData} {ps : List Str} {sp : Sp} (F : FnOk P w K mg base CX k f fd ps sp) : FnOk P w K mg base CX k f fd ps (spZ sp ps.length) :=
  ⟨fun vs H Q E q => q.1, fun A outer s H args us vs Q E hr he hb hv hs => F.run A outer s H args us vs Q E hr he hb hv (hs.2 (SzOk.of he.hok))⟩
theorem law_sp {r : Rx} {H : Hp} {a : Addr} {ns : List Int} {f : List D → M D} {S' : Store} (hK : SqL r.K H a (ns.map V.int)) (hn : ns.length ≤ 63) (hT : LamX.Tabs r.T H) (h : f [.scr (ns.map .int)] [] = .ok (.bl true) S') : spZ (spF r 1 f) 1 [.ref a] H (fun v _ => v = .bl true) (fun _ _ _ => False) := by
  refine ⟨rfl, fun hz => ⟨rfl, [], [], [], [.scr (ns.map .int)], ?_, ?_, ?_⟩⟩
  · exact ⟨rfl, List.nodup_nil, fun a h => by (cases h), fun a h => by (cases h), fun n o a h => by (simp at h), hz.1, hz.2, hT⟩
  · refine .cons ?_ (by simp only [RelDs])
    refine ⟨a, ns.map V.int, rfl, by simp; omega, ?_, rel_ints ns⟩
    rcases hK with q | q
    · exact .inr ⟨q, by simp, by simp⟩
    · exact .inl q
  · rw [h]
    intro ms' H' x s v rv
    exact rv.bl_eq
end Mi
namespace Mi
open PySem L2 PyProof.Rows
theorem insB_ok {K : PySem.W.Frag} {x : Str} (h : insB K x = true) : InsOk K (He.ga K x) := by
  simp only [insB, Bool.and_eq_true, decide_eq_true_eq] at h
  obtain ⟨⟨⟨⟨h1, h2⟩, h3⟩, h4⟩, h5⟩ := h
  exact ⟨He.cls_ok h1, He.eqO_ok h2, He.eqO_ok h3, h4, h5⟩
theorem mk0B_ok {K : PySem.W.Frag} {x : Str} (h : mk0B K x = true) : Mk0 K (He.ga K x) := by
  simp only [mk0B, Bool.and_eq_true] at h
  exact ⟨h.1.1, He.eqO_ok h.1.2, h.2⟩
theorem excB_ok {K : PySem.W.Frag} {x : Str} (h : (He.Fa.exc x).ok K = true) : ExcOk K (He.ga K x) := by
  obtain ⟨h1, h2, h3, h4⟩ := He.exc_ok h
  exact ⟨h1, h2, h3, h4⟩
theorem excCB_ok {K : PySem.W.Frag} {x : Str} (h : excCB K x = true) : ExcC K (He.ga K x) := by
  simp only [excCB, Bool.and_eq_true, decide_eq_true_eq] at h
  obtain ⟨⟨⟨⟨⟨⟨⟨h1, h2⟩, h3⟩, h4⟩, h5⟩, h6⟩, h7⟩, h8⟩ := h
  exact ⟨He.eqO_ok h1, He.eqO_ok h2, h3, h4, He.eqO_ok h5, He.eqO_ok h6, h7, h8⟩
def tabB (tx : Tx) (pr : Prog) (fs : List FAt) : Bool :=
  decide (Txs tx.txts) && tx.txts.all PyData.strOk && decide tx.attrs.Nodup && (tx.cls.all fun x => !(x == ("__debug__" : Str))) &&
  ((List.range tx.fns.length).all fun f => match tx.fns[f]? with
    | some (some x) => decide ((fs[f]?).map (·.pl) = some (x, none))
    | _ => true)
section
variable {K : PySem.W.Frag} {h : Heap} {mg : Str → Option Value} {tx : Tx} {pr : Prog} {fs : List FAt}
theorem look_mem {x : Str} {i : Int} : ∀ l : List (Str × Int), l.lookup x = some i → (x, i) ∈ l
  | [], e => by cases e
  | (y, j) :: l, e => by
    rw [List.lookup_cons] at e
    split at e
    · rename_i q; cases e; rw [beq_iff_eq.mp q]; exact .head _
    · exact .tail _ (look_mem l e)
theorem lookN_mem {β : Type} {m : Nat} {f : β} : ∀ l : List (Nat × β), lookN m l = some f → (m, f) ∈ l
  | [], e => by cases e
  | (y, j) :: l, e => by
    unfold lookN at e
    split at e
    · rename_i q; cases e; rw [q]; exact .head _
    · exact .tail _ (lookN_mem l e)
theorem orN {a b : Bool} (h : (!a || b) = true) (ha : a = true) : b = true := by rw [ha] at h; exact h
structure ClsF (K : PySem.W.Frag) (tx : Tx) (pr : Prog) (fs : List FAt) (c : Nat) (x : Str) (d : CDef) : Prop where
  glo : (He.Fa.glo x).ok K = true
  ins : d.inst = true → insB K x = true ∧ d.flds.all (fldB K tx x) = true ∧ (List.range pr.cls.length).all (kitCB K tx pr c x) = true ∧ (koN.all fun t => decide (PySem.W.kitOne K (.ref (He.ga K x)) (.type t) = some false)) = true
  asked : d.asked = true → (kbN.all fun t => decide (PySem.W.kitOne K (.type t) (.ref (He.ga K x)) = some false)) = true
  exc : d.exc = true → (He.Fa.exc x).ok K = true ∧ raisB K tx pr c x = true
  mi : d.meths.isEmpty = true ∨ d.inst = true
  meths : d.meths.all (methB K tx fs x) = true
  init : initB K fs x d = true
theorem clsB_ok {c : Nat} {x : Str} {d : CDef} (h : clsB K tx pr fs c x d = true) : ClsF K tx pr fs c x d := by
  simp only [clsB, Bool.and_eq_true] at h
  obtain ⟨⟨⟨⟨⟨⟨h1, h2⟩, h3⟩, h4⟩, h5⟩, h6⟩, h7⟩ := h
  refine ⟨h1, fun q => ?_, fun q => orN h3 q, fun q => He.ba (orN h4 q), by simpa using h5, h6, h7⟩
  have z := orN h2 q
  simp only [Bool.and_eq_true] at z
  exact ⟨z.1.1.1, z.1.1.2, z.1.2, z.2⟩
def AsOk (tx : Tx) (fs : List FAt) : List (Nat × AskT) → Prop
  | [] => True
  | (g, t) :: l => (∃ F x Ng, fs[g]? = some F ∧ tx.fns[g]? = some (some x) ∧ F.ft.name = x ∧ F.ft.qual = x ∧ AskSh tx F.ft.st F.ft.ps Ng t) ∧ AsOk tx fs l
theorem AsOk.at_ {g : Nat} {t : AskT} : ∀ {l : List (Nat × AskT)}, AsOk tx fs l → lookN g l = some t → ∃ F x Ng, fs[g]? = some F ∧ tx.fns[g]? = some (some x) ∧ F.ft.name = x ∧ F.ft.qual = x ∧ AskSh tx F.ft.st F.ft.ps Ng t
  | [], _, e => by cases e
  | (j, u) :: l, h, e => by
    unfold lookN at e
    split at e
    · rename_i q; subst q; cases e; exact h.1
    · exact AsOk.at_ h.2 e
def LmAll (pr : Prog) : List (Nat × E) → Prop
  | [] => True
  | (f, e) :: l => pr.fns[f]? = some ⟨1, 1, 0, .cons (.ret e) .nil⟩ ∧ LmAll pr l
theorem LmAll.at_ {f : Nat} {e : E} : ∀ {l : List (Nat × E)}, LmAll pr l → lookN f l = some e → pr.fns[f]? = some ⟨1, 1, 0, .cons (.ret e) .nil⟩
  | [], _, q => by cases q
  | (j, u) :: l, h, q => by
    unfold lookN at q
    split at q
    · rename_i z; subst z; cases q; exact h.1
    · exact LmAll.at_ h.2 q
theorem stat_of (X : K.In h) (G : h.Ns mainGlobals mg) (ht : tabB tx pr fs = true) (hs : factsB tx pr fs K = true) (ha : AsOk tx fs pr.asks_) (hlm : LmAll pr tx.lams) (hd : ∀ (f : Nat) F, fs[f]? = some F → ∃ fd, Fun K F.ft.name F.ft.qual F.ft.st (He.fAd K F.pl) fd ∧ Binds K fd F.ft.ps []) : Stat K mg (rxOf K tx fs) tx pr := by
  simp only [tabB, Bool.and_eq_true, decide_eq_true_eq] at ht
  obtain ⟨⟨⟨⟨t1, t2⟩, t3⟩, t4⟩, t5⟩ := ht
  simp only [factsB, Bool.and_eq_true] at hs
  obtain ⟨⟨⟨⟨s1, s2⟩, s3⟩, s4⟩, s5⟩ := hs
  have cl : ∀ (c : Nat) a, (rxOf K tx fs).ca c = some a → ∃ x, tx.cls[c]? = some x ∧ a = He.ga K x ∧ ∃ d, pr.cls[c]? = some d ∧ ClsF K tx pr fs c x d := fun c a e => by
    obtain ⟨x, hx, e2⟩ := Option.map_eq_some_iff.mp (show (tx.cls[c]?).map (He.ga K) = some a from e)
    have hc : c < tx.cls.length := (List.getElem?_eq_some_iff.mp hx).1
    have z := List.all_eq_true.mp s4 c (List.mem_range.mpr hc)
    unfold clsAt at z
    rw [hx] at z
    cases hd : pr.cls[c]? with
    | none => rw [hd] at z; cases z
    | some d => rw [hd] at z; exact ⟨x, hx, e2.symm, d, rfl, clsB_ok z⟩
  have mk : ∀ {c : Nat} {d : CDef}, pr.cls[c]? = some d → pr.makes c = true → d.inst = true := fun e q => by
    unfold Prog.makes at q; rw [e] at q; exact q
  refine ⟨rfl, rfl, rfl, t1, t2, t3, fun x hx => He.free_ok X G (List.all_eq_true.mp s1 x hx), fun x i e => He.int_ok X G (List.all_eq_true.mp s2 (x, i) (look_mem _ e)), fun f x e => ?_, fun c a e m => ?_, fun c n a f e m q => ?_, fun c d a b e1 e2 m q => ?_, fun d b e q t hm => ?_, fun c a e m t hm => ?_, fun c x e => ?_, fun c a x e e2 q => ?_, fun x hx => ?_, fun c m f a x e q e2 => ?_, fun c f a d e q e2 => ?_, fun c a d e q e2 e3 => ?_, fun c d a b e1 e2 m q => ?_, fun c a e m q => ?_, fun q => ?_, fun c g t a b e1 e2 m q => ?_, fun g t x q e => ?_, fun f q prm body scope => Iff.rfl, fun f e q => hlm.at_ q⟩
  · have hf : f < tx.fns.length := (List.getElem?_eq_some_iff.mp e).1
    have z := List.all_eq_true.mp t5 f (List.mem_range.mpr hf)
    rw [e] at z
    obtain ⟨F, h1, h2⟩ := Option.map_eq_some_iff.mp (of_decide_eq_true z)
    refine ⟨He.ga K x, ?_, He.glo_ok X G ?_⟩
    · show (fs[f]?).map _ = _
      rw [h1]
      show some (He.fAd K F.pl) = _
      rw [h2] <;> rfl
    · exact List.all_eq_true.mp s3 _ (List.mem_of_getElem? e)
  · obtain ⟨x, _, rfl, d, hd, F⟩ := cl c a e
    exact insB_ok (F.ins (mk hd m)).1
  · obtain ⟨x, _, rfl, d, hd, F⟩ := cl c a e
    unfold Prog.hasF at m
    rw [hd] at m
    simp only [Bool.and_eq_true] at m
    have z := List.all_eq_true.mp (F.ins m.1).2.1 n (by simpa using m.2)
    unfold fldB at z
    rw [q] at z
    exact He.noat_ok z
  · obtain ⟨x, _, rfl, k, hk, F⟩ := cl c a e1
    obtain ⟨y, hy, rfl, k2, hk2, F2⟩ := cl d b e2
    have z := List.all_eq_true.mp (F.ins (mk hk m)).2.2.1 d (List.mem_range.mpr (List.getElem?_eq_some_iff.mp hk2).1)
    unfold kitCB at z
    have z2 := orN z q
    rw [hy] at z2
    exact of_decide_eq_true z2
  · obtain ⟨y, hy, rfl, k2, hk2, F2⟩ := cl d b e
    unfold Prog.asks at q
    rw [hk2] at q
    exact of_decide_eq_true (List.all_eq_true.mp (F2.asked q) t hm)
  · obtain ⟨x, _, rfl, d, hd, F⟩ := cl c a e
    exact of_decide_eq_true (List.all_eq_true.mp (F.ins (mk hd m)).2.2.2 t hm)
  · have e2 : (rxOf K tx fs).ca c = some (He.ga K x) := by
      show (tx.cls[c]?).map _ = _
      rw [e] <;> rfl
    obtain ⟨y, hy, e3, d, hd, F⟩ := cl c _ e2
    rw [e] at hy
    cases hy
    exact ⟨_, e2, He.glo_ok X G F.glo⟩
  · obtain ⟨y, hy, rfl, d, hd, F⟩ := cl c a e
    unfold Prog.raises at q
    rw [hd] at q
    exact excB_ok (F.exc q).1
  · have z := List.all_eq_true.mp t4 x hx
    simpa using z
  · obtain ⟨y, hy, rfl, d, hd, F⟩ := cl c a e
    unfold Prog.meth at q
    rw [hd] at q
    have hm := lookN_mem _ q
    refine ⟨?_, ?_⟩
    · unfold Prog.makes
      rw [hd]
      rcases F.mi with z | z
      · rw [List.isEmpty_iff.mp z] at hm; cases hm
      · exact z
    · have z := List.all_eq_true.mp F.meths _ hm
      unfold methB at z
      rw [show tx.attrs[(m, f).1]? = some x from e2] at z
      cases hf : fs[f]? with
      | none => rw [show fs[(m, f).2]? = none from hf] at z; cases z
      | some Ff =>
        rw [show fs[(m, f).2]? = some Ff from hf] at z
        obtain ⟨z1, z2⟩ := He.ba z
        refine ⟨_, ?_, He.meth_ok z1⟩
        show (fs[f]?).map _ = _
        rw [hf]
        exact congrArg some (of_decide_eq_true z2)
  · obtain ⟨y, hy, rfl, k, hk, F⟩ := cl c a e
    rw [q] at hk
    cases hk
    have z := F.init
    unfold initB at z
    rw [e2] at z
    dsimp only at z
    cases hf : fs[f]? with
    | none => rw [hf] at z; cases z
    | some Ff =>
      rw [hf] at z
      obtain ⟨z1, z2⟩ := He.ba z
      refine ⟨_, ?_, He.mkr_ok z1⟩
      show (fs[f]?).map _ = _
      rw [hf]
      exact congrArg some (of_decide_eq_true z2)
  · obtain ⟨y, hy, rfl, k, hk, F⟩ := cl c a e
    rw [q] at hk
    cases hk
    have z := F.init
    unfold initB at z
    rw [e2] at z
    exact mk0B_ok (orN z e3)
  · obtain ⟨x, _, rfl, k, hk, F⟩ := cl c a e1
    obtain ⟨y, hy, rfl, k2, hk2, F2⟩ := cl d b e2
    unfold Prog.raises at m
    rw [hk] at m
    have z := List.all_eq_true.mp (He.ba (F.exc m).2).1 d (List.mem_range.mpr (List.getElem?_eq_some_iff.mp hk2).1)
    unfold kitCB at z
    have z2 := orN z q
    rw [hy] at z2
    exact of_decide_eq_true z2
  · obtain ⟨x, _, rfl, k, hk, F⟩ := cl c a e
    unfold Prog.raises at m
    rw [hk] at m
    have z := (He.ba (F.exc m).2).2
    have ne : pr.asks_.isEmpty = false := by
      cases hq : pr.asks_ with
      | nil => exact absurd hq q
      | cons _ _ => rfl
    rw [ne, Bool.false_or] at z
    simp only [Bool.and_eq_true, decide_eq_true_eq] at z
    exact ⟨excCB_ok z.1.1, z.1.2⟩
  · have ne : pr.asks_.isEmpty = false := by
      cases hq : pr.asks_ with
      | nil => exact absurd hq q
      | cons _ _ => rfl
    rw [ne, Bool.false_or] at s5
    exact He.free_ok X G s5
  · obtain ⟨x, _, rfl, k, hk, F⟩ := cl c a e1
    obtain ⟨y, hy, rfl, k2, hk2, F2⟩ := cl t.cl b e2
    unfold Prog.raises at m
    rw [hk] at m
    have z := (He.ba (F.exc m).2).2
    have mem := lookN_mem _ q
    have ne : pr.asks_.isEmpty = false := by
      cases hq : pr.asks_ with
      | nil => rw [hq] at mem; cases mem
      | cons _ _ => rfl
    rw [ne, Bool.false_or] at z
    simp only [Bool.and_eq_true] at z
    have z2 := List.all_eq_true.mp z.2 _ mem
    unfold exmB at z2
    simp only [Bool.and_eq_true] at z2
    refine ⟨fun d hd => List.all_eq_true.mp z2.1 d hd, ?_⟩
    have z3 := z2.2
    rw [hy] at z3
    exact of_decide_eq_true z3
  · obtain ⟨F, y, Ng, f1, f2, f3, f4, f6⟩ := ha.at_ q
    rw [e] at f2
    cases f2
    obtain ⟨fd, Fn, B⟩ := hd g F f1
    have hf : g < tx.fns.length := (List.getElem?_eq_some_iff.mp e).1
    have z := List.all_eq_true.mp t5 g (List.mem_range.mpr hf)
    rw [e] at z
    obtain ⟨F', h1, h2⟩ := Option.map_eq_some_iff.mp (of_decide_eq_true z)
    rw [f1] at h1
    cases h1
    have ga : He.fAd K F.pl = He.ga K x := by rw [h2]; rfl
    rw [f3, f4] at Fn
    refine ⟨He.fAd K F.pl, F.ft.st, fd, F.ft.ps, Ng, ?_, ?_, Fn, B, f6⟩
    · show (fs[g]?).map _ = _
      rw [f1]; rfl
    · rw [ga]
      exact He.glo_ok X G (List.all_eq_true.mp s3 _ (List.mem_of_getElem? e))
end
def BOk (F : FAt) : Prop := ∀ (kV doc pm : Value) (an : Option Addr) (cdv ct : Value) (us : List Value), us.length = F.ft.ps.length → bindArgs (PySem.W.fnOf F.ft.name F.ft.qual (defArgs F.ft.st) (defBody F.ft.st) (defScope F.ft.st) .none kV doc pm an cdv ct) ⟨us, []⟩ = pure (F.ft.ps.zip us)
def BAll : List FAt → Prop
  | [] => True
  | F :: fs => BOk F ∧ BAll fs
theorem BAll.at_ : ∀ {fs : List FAt} {i : Nat} {F : FAt}, BAll fs → fs[i]? = some F → BOk F
  | [], _, _, _, e => by simp at e
  | _ :: _, 0, _, h, e => by cases e; exact h.1
  | _ :: _, i + 1, _, h, e => BAll.at_ h.2 (by simpa using e)
def chAll (tx : Tx) : List FAt → List FDef → Bool
  | [], _ => true
  | F :: fs, d :: ds => chF tx F.ft d && chAll tx fs ds
  | _, _ => false
theorem chAll_at {tx : Tx} : ∀ {fs : List FAt} {ds : List FDef} {i : Nat} {F : FAt}, chAll tx fs ds = true → fs[i]? = some F → ∃ d, ds[i]? = some d ∧ chF tx F.ft d = true
  | [], _, _, _, _, e => by simp at e
  | _ :: _, [], _, _, h, _ => by cases h
  | _ :: _, d :: _, 0, _, h, e => by cases e; exact ⟨d, rfl, (He.ba h).1⟩
  | _ :: _, _ :: _, i + 1, _, h, e => by
    obtain ⟨d, h1, h2⟩ := chAll_at (He.ba h).2 (show _ from by simpa using e)
    exact ⟨d, by simpa using h1, h2⟩
theorem def_of {K : PySem.W.Frag} {tx : Tx} {pr : Prog} {fs : List FAt} (hb : BAll fs) (hc : chAll tx fs pr.fns = true) (q : obsM tx pr fs K = valM fs) {f : Nat} {F : FAt} (hF : fs[f]? = some F) :
    ∃ d fd, pr.fns[f]? = some d ∧ Fun K F.ft.name F.ft.qual F.ft.st (He.fAd K F.pl) fd ∧ (∀ us : List Value, us.length = F.ft.ps.length → bindArgs fd ⟨us, []⟩ = pure (F.ft.ps.zip us)) ∧ chF tx F.ft d = true := by
  obtain ⟨d, h1, h2⟩ := chAll_at hc hF
  have q1 := congrArg Prod.fst q
  have q2 := congrArg Prod.snd q
  have q3 := List.all_eq_true.mp (He.ba q1).2 F (List.mem_of_getElem? hF)
  obtain ⟨kp, cd⟩ := He.ba q3
  have q4 : (fs.map fun F => He.fnObs K F.pl)[f]? = (fs.map fun F => F.d.val)[f]? := by rw [show (fs.map fun F => He.fnObs K F.pl) = _ from q2] <;> rfl
  rw [List.getElem?_map, List.getElem?_map, hF] at q4
  obtain ⟨oc, od, osl, kV, doc, pm, an, cdv, ct, lk, hcd⟩ := He.fn_ok (d := F.d) (Option.some.inj q4) cd
  have Fn := fun_mk (st := F.ft.st) lk hcd kp
  exact ⟨d, _, h1, Fn, hb.at_ hF kV doc pm an cdv ct, h2⟩
theorem defs_of {K : PySem.W.Frag} {tx : Tx} {pr : Prog} {fs : List FAt} (hb : BAll fs) (hc : chAll tx fs pr.fns = true) (q : obsM tx pr fs K = valM fs) (f : Nat) (a : Addr) (e : (rxOf K tx fs).fa f = some a) : DefOk K tx pr f a := by
  obtain ⟨F, hF, rfl⟩ := Option.map_eq_some_iff.mp (show (fs[f]?).map _ = some a from e)
  obtain ⟨d, fd, h1, h2, h3, h4⟩ := def_of hb hc q hF
  exact ⟨F.ft, d, fd, h1, h2, .all h3, h4⟩
theorem walkM {l : PySem.W.OpenLaw} {q : Program} {loose : List Str} {XP : (Str → Option Value) → Heap → Prop} {d : DefRec} {n0 n fu fL : Nat} {tx : Tx} {pr : Prog} {fs : List FAt} {F : FAt} {x : Str}
    (hn : l.most = some 63) (hdf : d.params.defaults = []) (hr : Room (4 * n + 3 + 1) callerA) (ht : tabB tx pr fs = true) (hb : BAll fs) (hc : chAll tx fs pr.fns = true) (has : AsOk tx fs pr.asks_) (hlm : LmAll pr tx.lams) (hL : fs[fL]? = some F) (hps : F.ft.ps = [x]) (hfn : tx.fns[fL]? = some (some d.name))
    (main : ∀ ns : List Int, ns.length ≤ 63 → ∃ S', run pr fu (n + 1) fL [.scr (ns.map .int)] [] = .ok (.bl true) S') :
    PySem.W.WalkO q loose XP (hookM n0 tx pr fs).says l.row.toRowW d [] (fun f vs => PySem.call f vs) := by
  refine Att.attach_call hn hdf fun w s0 s1 mg mb fa o pm cd doc a vs ns G Y ho hd hcd hmg hobj hints hlen hg => ?_
  obtain ⟨K, KX, c, tb⟩ := Y
  have st := stat_of KX G.T.g ht (He.ba (congrArg Prod.fst c)).1 has hlm fun f F hF => by
    obtain ⟨dd, fd, e1, e2, e3, e4⟩ := def_of hb hc c hF
    exact ⟨fd, e2, .all e3⟩
  obtain ⟨a2, h1, h2⟩ := st.fns fL _ hfn
  rw [hmg] at h2
  cases h2
  obtain ⟨dd, fd, e1, e2, e3, e4⟩ := def_of hb hc c hL
  have hfa : He.fAd K F.pl = fa := by
    have z : (fs[fL]?).map (fun F => He.fAd K F.pl) = some fa := h1
    rw [hL] at z
    exact Option.some.inj z
  rw [hfa] at e2
  rw [hps] at e3
  let cs : List (Addr × Addr) := fs.map fun F => (cOf K F, tOf K F)
  have lm : ∀ (base : Heap), (∀ p ∈ cs, LamX.TabB base mg p.1 p.2) → ∀ (f : Nat) (a : Addr) (ft : FTx) (fd : FuncData), (rxOf K tx fs).fa f = some a → Fun K ft.name ft.qual ft.st a fd → LamOk base mg (rxOf K tx fs) fd.code (ft.qual ++ ".<locals>.") := by
    intro base TB f a ft fd hf Fn
    obtain ⟨F', hF', e⟩ := Option.map_eq_some_iff.mp (show (fs[f]?).map (fun F => He.fAd K F.pl) = some a from hf)
    have mF : F' ∈ fs := List.mem_of_getElem? hF'
    obtain ⟨oc, od, kV, doc, pm, an, cdv, ct, osl, rfl, lk, hcd⟩ := Fn.ex
    rw [← e] at lk
    obtain ⟨q1, q2⟩ := (tb.1 F' mF).fn _ _ _ _ lk
    have q3 : ft.qual = F'.ft.qual := q2
    refine ⟨cOf K F', tOf K F', q1, TB _ (List.mem_map.mpr ⟨F', mF, rfl⟩), ?_, fun p hp hP => ?_⟩
    · rw [q3]
      exact List.mem_map.mpr ⟨F', mF, rfl⟩
    · obtain ⟨F2, m2, rfl⟩ := List.mem_map.mp hp
      have e2 : F2.ft.qual = F'.ft.qual := tb.2 F2 m2 F' mF hP
      show F2.ft.qual ++ ".<locals>." ++ "<lambda>" = ft.qual ++ ".<locals>." ++ "<lambda>"
      rw [e2, q3]
  have hfa2 : (rxOf K tx fs).fa fL = some fa := h1
  have lv := fun (base : Heap) (TB : ∀ p ∈ cs, LamX.TabB base mg p.1 p.2) => Mi.FnOk.sz (level_one (P := l.prog) (w := w) (base := base) (fu := fu) st (level st (defs_of hb hc c) (lm base TB) n).1 (level st (defs_of hb hc c) (lm base TB) n).2 e1 e2 e4 (lm base TB fL fa F.ft fd hfa2 e2)).1
  rw [hps] at lv
  obtain ⟨S', hS'⟩ := main ns hlen
  refine LamX.law_callTs (cs := cs) KX G.T.g G.T.b G.T.builtins G.T.nolimit hg (fun p hp => ?_) (fun p hp => ?_) (fun p hp => ?_) G.T.bmain hobj hints (Nat.le_trans hlen (by decide)) hr (fun base _ _ TB => lv base TB) (fun s u => .of_eq (e3 [u] rfl)) (fun H hH hS => law_sp hS hlen ?_ hS') fun H e s' z => ?_
  · obtain ⟨F', mF, rfl⟩ := List.mem_map.mp hp
    exact (tb.1 F' mF).tb
  · obtain ⟨F', mF, rfl⟩ := List.mem_map.mp hp
    exact (tb.1 F' mF).no
  · obtain ⟨F', mF, rfl⟩ := List.mem_map.mp hp
    exact (tb.1 F' mF).hd
  · intro p hp
    obtain ⟨F', mF, rfl⟩ := List.mem_map.mp hp
    exact LamX.TabS.nil (hH _ (List.mem_map.mpr ⟨F', mF, rfl⟩))
  · obtain ⟨_, _, _, _, _, _, _, _, _, _, _, _, z⟩ := z
    exact z
end Mi
namespace Mi
def Go {α : Type} (m : M α) (S : Store) (Q : α → Store → Prop) : Prop := ∃ a S', m S = .ok a S' ∧ Q a S'
section
variable {α β : Type} {S : Store}
theorem Go.mono {m : M α} {Q Q' : α → Store → Prop} (h : Go m S Q) (k : ∀ a S', Q a S' → Q' a S') : Go m S Q' := by
  obtain ⟨a, S', e, q⟩ := h
  exact ⟨a, S', e, k _ _ q⟩
theorem Go.of {m : M α} {Q : α → Store → Prop} {a : α} {S' : Store} (e : m S = .ok a S') (q : Q a S') : Go m S Q := ⟨a, S', e, q⟩
theorem go_eq {m : M α} {Q : α → Store → Prop} {a : α} {S' : Store} (e : m S = .ok a S') : Go m S Q ↔ Q a S' :=
  ⟨fun ⟨_, _, e2, q⟩ => by rw [e] at e2; cases e2; exact q, fun q => ⟨a, S', e, q⟩⟩
theorem go_stk {m : M α} {Q : α → Store → Prop} (e : m S = .stuck) : Go m S Q ↔ False :=
  ⟨fun ⟨_, _, e2, q⟩ => by (rw [e] at e2; cases e2), False.elim⟩
theorem go_bnd {m : M α} {f : α → M β} {Q : β → Store → Prop} : Go (bnd m f) S Q ↔ Go m S fun a S' => Go (f a) S' Q := by
  constructor
  · rintro ⟨b, S', e, q⟩
    unfold bnd at e
    split at e
    · rename_i a S1 e1; exact ⟨a, S1, e1, b, S', e, q⟩
    · cases e
    · cases e
  · rintro ⟨a, S1, e1, b, S', e, q⟩
    refine ⟨b, S', ?_, q⟩
    unfold bnd
    rw [e1]
    exact e
theorem go_ret {a : α} {Q : α → Store → Prop} : Go (ret a) S Q ↔ Q a S := go_eq rfl
theorem go_stk0 {Q : α → Store → Prop} : Go (stk : M α) S Q ↔ False := go_stk rfl
theorem go_some {a : α} {Q : α → Store → Prop} : Go (opt (some a)) S Q ↔ Q a S := go_eq rfl
theorem go_none {Q : α → Store → Prop} : Go (opt (none : Option α)) S Q ↔ False := go_stk rfl
theorem go_opt {o : Option α} {Q : α → Store → Prop} : Go (opt o) S Q ↔ ∃ a, o = some a ∧ Q a S := by
  cases o with
  | none => rw [go_none]; simp
  | some a => rw [go_some]; simp
theorem go_ite {c : Prop} [Decidable c] {m m' : M α} {Q : α → Store → Prop} : Go (if c then m else m') S Q ↔ if c then Go m S Q else Go m' S Q := by
  split <;> rfl
theorem go_tst {m : M D} {Q : Bool → Store → Prop} : Go (tst m) S Q ↔ Go m S fun d S' => ∃ b, d = .bl b ∧ Q b S' := by
  unfold tst
  rw [go_bnd]
  have e : ∀ d S', Go (opt (asB d)) S' Q ↔ ∃ b, d = .bl b ∧ Q b S' := fun d S' => by
    rw [go_opt]
    cases d <;> simp [asB]
  simp only [e]
theorem go_noX {m : M α} {Q : α → Store → Prop} : Go (noX m) S Q ↔ Go m S Q := by
  unfold Go noX
  constructor
  · rintro ⟨a, S', e, q⟩
    refine ⟨a, S', ?_, q⟩
    split at e
    · cases e
    · exact e
  · rintro ⟨a, S', e, q⟩
    refine ⟨a, S', ?_, q⟩
    rw [e]
variable {pr : Prog} {Q : D → Store → Prop}
theorem g_add {m : Bool} {i j : Int} : Go (opD pr (.add m) [.int i, .int j]) S Q ↔ Q (.int (i + j)) S := go_eq rfl
theorem g_sub {i j : Int} : Go (opD pr .sub [.int i, .int j]) S Q ↔ Q (.int (i - j)) S := go_eq rfl
theorem g_mul {m : Bool} {i j : Int} : Go (opD pr (.mul m) [.int i, .int j]) S Q ↔ ((-big < i ∧ i < big) ∨ (-big < j ∧ j < big)) ∧ Q (.int (i * j)) S := by
  by_cases h : (-big < i ∧ i < big) ∨ (-big < j ∧ j < big)
  · rw [go_eq (show opD pr (.mul m) [.int i, .int j] S = .ok (.int (i * j)) S from if_pos h)]; simp only [h, true_and]
  · rw [go_stk (show opD pr (.mul m) [.int i, .int j] S = .stuck from if_neg h)]; simp only [h, false_and]
theorem g_if {c : Prop} [Decidable c] {d : D} : Go (opt (if c then some d else none)) S Q ↔ c ∧ Q d S := by
  by_cases h : c
  · rw [if_pos h, go_some]; simp only [h, true_and]
  · rw [if_neg h, go_none]; simp only [h, false_and]
theorem g_fdiv {i j : Int} : Go (opD pr .fdiv [.int i, .int j]) S Q ↔ (0 < j ∧ j < 1073741824) ∧ Q (.int (i / j)) S := g_if
theorem g_mod {i j : Int} : Go (opD pr .mod [.int i, .int j]) S Q ↔ 0 < j ∧ Q (.int (i % j)) S := g_if
theorem g_pow {i j : Int} : Go (opD pr .pow [.int i, .int j]) S Q ↔ (0 ≤ j ∧ j ≤ 1000 ∧ -big < i ∧ i < big) ∧ Q (.int (i ^ j.toNat)) S := g_if
theorem g_shl {i j : Int} : Go (opD pr .shl [.int i, .int j]) S Q ↔ (0 ≤ j ∧ j ≤ 1000 ∧ -big < i ∧ i < big) ∧ Q (.int (i * 2 ^ j.toNat)) S := g_if
theorem g_shr {i j : Int} : Go (opD pr .shr [.int i, .int j]) S Q ↔ 0 ≤ j ∧ Q (.int (i / 2 ^ j.toNat)) S := g_if
theorem g_band {i j : Int} : Go (opD pr .band [.int i, .int j]) S Q ↔ Q (.int (PySem.Builtin.bitAnd i j)) S := go_eq rfl
theorem g_neg {i : Int} : Go (opD pr .neg [.int i]) S Q ↔ Q (.int (-i)) S := go_eq rfl
theorem g_lt {i j : Int} : Go (opD pr .lt [.int i, .int j]) S Q ↔ Q (.bl (decide (i < j))) S := go_eq rfl
theorem g_le {i j : Int} : Go (opD pr .le [.int i, .int j]) S Q ↔ Q (.bl (decide (i ≤ j))) S := go_eq rfl
theorem g_gt {i j : Int} : Go (opD pr .gt [.int i, .int j]) S Q ↔ Q (.bl (decide (j < i))) S := go_eq rfl
theorem g_ge {i j : Int} : Go (opD pr .ge [.int i, .int j]) S Q ↔ Q (.bl (decide (j ≤ i))) S := go_eq rfl
theorem g_max2 {i j : Int} : Go (opD pr .max2 [.int i, .int j]) S Q ↔ Q (.int (if j > i then j else i)) S := go_eq rfl
theorem g_min2 {i j : Int} : Go (opD pr .min2 [.int i, .int j]) S Q ↔ Q (.int (if j < i then j else i)) S := go_eq rfl
theorem e_mkT {ds : List D} : opD pr .mkT ds = if smalls ds.length then ret (.tup ds) else stk := rfl
theorem e_mkL {m : Bool} {ds : List D} : opD pr (.mkL m) ds = if smalls ds.length then newL m ds else stk := rfl
theorem small_iff {n : Nat} : smalls n = true ↔ n ≤ line := by unfold smalls; exact decide_eq_true_iff
theorem g_mkT {ds : List D} : Go (opD pr .mkT ds) S Q ↔ ds.length ≤ line ∧ Q (.tup ds) S := by
  rw [e_mkT, go_ite]
  by_cases h : ds.length ≤ line
  · rw [if_pos (small_iff.mpr h), go_ret]; simp only [h, true_and]
  · rw [if_neg (fun q => h (small_iff.mp q)), go_stk0]; simp only [h, false_and]
theorem g_newF {ds : List D} : Go (newL false ds) S Q ↔ Q (.fz ds) S := go_eq rfl
theorem g_newC {ds : List D} : Go (newL true ds) S Q ↔ Q (.ref S.length) (S ++ [.lst ds]) := go_eq rfl
theorem g_mkL {m : Bool} {ds : List D} : Go (opD pr (.mkL m) ds) S Q ↔ ds.length ≤ line ∧ Go (newL m ds) S Q := by
  rw [e_mkL, go_ite]
  by_cases h : ds.length ≤ line
  · rw [if_pos (small_iff.mpr h)]; simp only [h, true_and]
  · rw [if_neg (fun q => h (small_iff.mp q)), go_stk0]; simp only [h, false_and]
theorem g_idxT {ds : List D} {i : Int} : Go (opD pr .idx [.tup ds, .int i]) S Q ↔ ∃ d, L2.atI ds i = some d ∧ Q d S := by
  rw [← go_opt] <;> rfl
theorem g_idxF {ds : List D} {i : Int} : Go (opD pr .idx [.fz ds, .int i]) S Q ↔ ∃ d, L2.atI ds i = some d ∧ Q d S := by
  rw [← go_opt] <;> rfl
theorem g_idxL {x : D} {ds : List D} {i : Int} (h : asL S x = some ds) : Go (opD pr .idx [x, .int i]) S Q ↔ ∃ d, L2.atI ds i = some d ∧ Q d S := by
  have e : asQ S x = some ds := by
    unfold asQ
    split
    · simp [asL] at h
    · exact h
  have e2 : opD pr .idx [x, .int i] S = opt (L2.atI ds i) S := by
    show (match asQ S x with | some xs => opt (L2.atI xs i) S | none => R.stuck) = _
    rw [e]
  rw [← go_opt]
  unfold Go
  rw [e2]
theorem g_len {x : D} {ds : List D} (h : asQ S x = some ds) : Go (opD pr .len [x]) S Q ↔ Q (.int ds.length) S := go_eq (by
  show (match asQ S x with | some xs => R.ok (D.int xs.length) S | none => R.stuck) = _
  rw [h])
theorem asQ_of {x : D} {ds : List D} (h : asL S x = some ds) : asQ S x = some ds := by
  unfold asQ
  split
  · simp [asL] at h
  · exact h
theorem g_list {m : Bool} {x : D} {ds : List D} (h : asQ S x = some ds) : Go (opD pr (.list m) [x]) S Q ↔ Go (newL m ds) S Q := by
  have e : opD pr (.list m) [x] S = newL m ds S := by
    show (match asQ S x with | some xs => newL m xs S | none => R.stuck) = _
    rw [h]
  unfold Go
  rw [e]
theorem g_slcH {m : Bool} {x : D} {ds : List D} {j : Int} (h : asR S x = some ds) : Go (opD pr (.slc m false true) [x, .int j]) S Q ↔ Go (newL m (cut ds none (some j))) S Q := by
  have e : opD pr (.slc m false true) [x, .int j] S = newL m (cut ds none (some j)) S := by
    show (match asR S x with | some xs => newL m (cut xs none (some j)) S | none => R.stuck) = _
    rw [h]
  unfold Go
  rw [e]
theorem g_slcL {m : Bool} {x : D} {ds : List D} {j : Int} (h : asR S x = some ds) : Go (opD pr (.slc m true false) [x, .int j]) S Q ↔ Go (newL m (cut ds (some j) none)) S Q := by
  have e : opD pr (.slc m true false) [x, .int j] S = newL m (cut ds (some j) none) S := by
    show (match asR S x with | some xs => newL m (cut xs (some j) none) S | none => R.stuck) = _
    rw [h]
  unfold Go
  rw [e]
theorem g_rev {m : Bool} {x : D} {ds : List D} (h : asL S x = some ds) : Go (opD pr (.rev m) [x]) S Q ↔ Go (newL m ds.reverse) S Q := by
  have e : opD pr (.rev m) [x] S = newL m ds.reverse S := by
    show (match asL S x with | some xs => newL m xs.reverse S | none => R.stuck) = _
    rw [h]
  unfold Go
  rw [e]
theorem g_cat {m : Bool} {x y : D} {ds es : List D} (h : asL S x = some ds) (h2 : asL S y = some es) (hl : ds.length + es.length ≤ line) : Go (opD pr (.add m) [x, y]) S Q ↔ Go (newL m (ds ++ es)) S Q := by
  have e : opD pr (.add m) [x, y] S = newL m (ds ++ es) S := by
    have z : smalls (ds.length + es.length) = true := small_iff.mpr hl
    have key : (match asL S x, asL S y with
      | some xs, some ys => if smalls (xs.length + ys.length) then newL m (xs ++ ys) S else R.stuck
      | _, _ => R.stuck) = newL m (ds ++ es) S := by rw [h, h2]; exact if_pos z
    cases x with
    | fz a => exact key
    | ref a => exact key
    | _ => cases h
  unfold Go
  rw [e]
theorem g_eq {x y : D} {b : Bool} (h : eqD S x y = some b) : Go (opD pr .eq [x, y]) S Q ↔ Q (.bl b) S := go_eq (by
  show (match eqD S x y with | some b => R.ok (D.bl b) S | none => R.stuck) = _
  rw [h])
theorem g_ne {x y : D} {b : Bool} (h : eqD S x y = some b) : Go (opD pr .ne [x, y]) S Q ↔ Q (.bl (!b)) S := go_eq (by
  show (match eqD S x y with | some b => R.ok (D.bl (!b)) S | none => R.stuck) = _
  rw [h])
theorem g_isT {t : Ty} {x : D} {b : Bool} (h : isTy pr S t x = some b) : Go (opD pr (.isT t) [x]) S Q ↔ Q (.bl b) S := go_eq (by
  show (match isTy pr S t x with | some b => R.ok (D.bl b) S | none => R.stuck) = _
  rw [h])
theorem go_guard {ok : Store → Bool} {m : M β} {Q : β → Store → Prop} : Go (fun S => if ok S then m S else .stuck) S Q ↔ ok S = true ∧ Go m S Q := by
  unfold Go
  by_cases h : ok S = true
  · simp only [h, if_true, true_and]
  · simp [h]
theorem go_for {ok : Store → Bool} {tg : T} {body : Env → M Out} {Q : Out → Store → Prop} (I : List D → Env → Store → Prop)
    (step : ∀ d ds ρ S, I (d :: ds) ρ S → ∃ ρ1, bindT tg d ρ = some ρ1 ∧ Go (body ρ1) S fun o S' => match o with
      | .nx ρ2 => ok S' = true ∧ I ds ρ2 S'
      | .bk ρ2 => Q (.nx ρ2) S'
      | .rt d => Q (.rt d) S')
    (done : ∀ ρ S, I [] ρ S → Q (.nx ρ) S) : ∀ (ds : List D) (ρ : Env) (S : Store), I ds ρ S → Go (forL ok tg body ds ρ) S Q
  | [], ρ, S, h => go_ret.mpr (done ρ S h)
  | d :: ds, ρ, S, h => by
    obtain ⟨ρ1, e, g⟩ := step d ds ρ S h
    unfold forL
    rw [go_bnd, e, go_some, go_bnd]
    refine g.mono fun o S' q => ?_
    cases o with
    | nx ρ2 =>
      exact go_guard.mpr ⟨q.1, go_for I step done ds ρ2 S' q.2⟩
    | bk ρ2 => exact go_ret.mpr q
    | rt d => exact go_ret.mpr q
theorem go_cmp {ok : Store → Bool} {tg : T} {cond : Env → M Bool} {elt : Env → M D} {ρ : Env} {Q : List D → Store → Prop} (I : List D → List D → Store → Prop)
    (step : ∀ d ds acc S, I (d :: ds) acc S → ∃ ρ1, bindT tg d ρ = some ρ1 ∧ Go (cond ρ1) S fun b S1 => if b then Go (elt ρ1) S1 fun x S2 => ok S2 = true ∧ I ds (acc ++ [x]) S2 else ok S1 = true ∧ I ds acc S1)
    (done : ∀ acc S, I [] acc S → Q acc S) : ∀ (ds acc : List D) (S : Store), I ds acc S → Go (cmpL ok tg cond elt ds ρ acc) S Q
  | [], acc, S, h => go_ret.mpr (done acc S h)
  | d :: ds, acc, S, h => by
    obtain ⟨ρ1, e, g⟩ := step d ds acc S h
    unfold cmpL
    rw [go_bnd, e, go_some, go_bnd]
    refine g.mono fun b S1 q => ?_
    cases b with
    | true =>
      rw [if_pos rfl, go_bnd]
      rw [if_pos rfl] at q
      refine q.mono fun x S2 q2 => ?_
      exact go_guard.mpr ⟨q2.1, go_cmp I step done ds (acc ++ [x]) S2 q2.2⟩
    | false =>
      rw [if_neg (by decide)]
      rw [if_neg (by decide)] at q
      exact go_guard.mpr ⟨q.1, go_cmp I step done ds acc S1 q.2⟩
def Fin (b : Nat) (S : Store) (Q : D → Store → Prop) : D → Store → Prop := if b = 0 then Q else fun d S' => ∃ T e, S' = S ++ T ∧ frz S' S.length deep d = some e ∧ Q e S
theorem run_eq {fu n f : Nat} {ds : List D} {d : FDef} (h : pr.fns[f]? = some d) (hl : ds.length = d.np) : run pr fu (n + 1) f ds = shutB d.pure ds (fun es => bnd (exSs ⟨run pr fu n, fu, pr⟩ d.body (startE d.nl es)) fin) := by
  simp only [run, h]
  rw [if_pos hl]
theorem go_run {fu n f : Nat} {ds : List D} {d : FDef} (h : pr.fns[f]? = some d) (hl : ds.length = d.np) (hc : (match d.pure with | 0 => true | 1 => !D.plains ds | _ => false) = true) : Go (run pr fu (n + 1) f ds) S Q ↔ Go (exSs ⟨run pr fu n, fu, pr⟩ d.body (startE d.nl ds)) S fun o S' => Go (fin o) S' (Fin d.pure S Q) := by
  rw [run_eq h hl, ← go_bnd]
  split at hc
  · rename_i hp
    rw [hp]
    rfl
  · rename_i hp
    simp only [Bool.not_eq_true'] at hc
    simp only [hp, shutB, hc, Bool.false_eq_true, if_false]
    generalize bnd (exSs ⟨run pr fu n, fu, pr⟩ d.body (startE d.nl ds)) fin = m
    simp only [Fin, Nat.reduceEqDiff, if_false]
    constructor
    · rintro ⟨a, S', h1, q⟩
      simp only [shut] at h1
      split at h1
      · rename_i d1 S1 h2
        split at h1
        · rename_i ht
          split at h1
          · rename_i e1 he
            cases h1
            refine ⟨d1, S1, h2, S1.drop S.length, a, ?_, he, q⟩
            conv => lhs; rw [← List.take_append_drop S.length S1, ht]
          · cases h1
        · cases h1
      · split at h1 <;> cases h1
      · cases h1
    · rintro ⟨a, S', h1, T, e1, rfl, he, q⟩
      refine ⟨e1, S, ?_, q⟩
      simp only [shut, h1]
      rw [if_pos (by simp), he]
  · cases hc
def Fic (S : Store) (Q : D → Store → Prop) : D → Store → Prop := fun d S' => ∃ e, frz S' 0 deep d = some e ∧ Q e S
theorem go_runC {fu n f : Nat} {ds : List D} {d : FDef} (h : pr.fns[f]? = some d) (hl : ds.length = d.np) (hp : d.pure = 1) (hc : D.plains ds = true) : Go (run pr fu (n + 1) f ds) S Q ↔ Go (exSs ⟨run pr fu n, fu, pr⟩ d.body (startE d.nl ds)) [] fun o S' => Go (fin o) S' (Fic S Q) := by
  rw [run_eq h hl, ← go_bnd]
  simp only [hp, shutB, hc, if_true]
  generalize bnd (exSs ⟨run pr fu n, fu, pr⟩ d.body (startE d.nl ds)) fin = m
  show Go (clos m) S Q ↔ Go m [] fun d S' => ∃ e, frz S' 0 deep d = some e ∧ Q e S
  constructor
  · rintro ⟨a, S', h1, q⟩
    simp only [clos] at h1
    split at h1
    · rename_i d1 S1 h2
      split at h1
      · rename_i e1 he
        cases h1
        exact ⟨d1, S1, h2, a, he, q⟩
      · cases h1
    · cases h1
    · cases h1
  · rintro ⟨a, S', h1, e1, he, q⟩
    refine ⟨e1, S, ?_, q⟩
    simp only [clos, h1, he]
def Fiv (S : Store) (Q : D → Store → Prop) : D → Store → Prop := fun d _ => D.flat d = true ∧ Q d S
theorem go_runV {fu n f : Nat} {ds es : List D} {d : FDef} (h : pr.fns[f]? = some d) (hl : ds.length = d.np) (hp : d.pure = 2) (he : mapO (frz S 0 deep) ds = some es) : Go (run pr fu (n + 1) f ds) S Q ↔ Go (exSs ⟨run pr fu n, fu, pr⟩ d.body (startE d.nl es)) [] fun o S' => Go (fin o) S' (Fiv S Q) := by
  rw [run_eq h hl, ← go_bnd]
  simp only [hp, shutB]
  have e : vals ds (fun es => bnd (exSs ⟨run pr fu n, fu, pr⟩ d.body (startE d.nl es)) fin) S = (match bnd (exSs ⟨run pr fu n, fu, pr⟩ d.body (startE d.nl es)) fin [] with
    | .ok d _ => if D.flat d then .ok d S else .stuck
    | .exc c _ => .exc c S
    | .stuck => .stuck) := by
    first
    | (simp only [vals, he]; done)
    | (simp only [vals, he]; rfl)
  unfold Go
  rw [e]
  generalize bnd (exSs ⟨run pr fu n, fu, pr⟩ d.body (startE d.nl es)) fin = m
  show _ ↔ ∃ a S', m [] = .ok a S' ∧ (D.flat a = true ∧ Q a S)
  constructor
  · rintro ⟨a, S', h1, q⟩
    split at h1
    · rename_i d1 S1 h2
      split at h1
      · rename_i hf
        cases h1
        exact ⟨a, S1, h2, hf, q⟩
      · cases h1
    · cases h1
    · cases h1
  · rintro ⟨a, S', h1, hf, q⟩
    exact ⟨a, S, by rw [h1]; simp only [hf, if_true], q⟩
theorem go_cons {C : Cf} {s : St} {ss : Sts} {ρ : Env} {Q : Out → Store → Prop} : Go (exSs C (.cons s ss) ρ) S Q ↔ Go (exS C s ρ) S fun o S' => match o with
    | .nx ρ' => Go (exSs C ss ρ') S' Q
    | .bk ρ' => Q (.bk ρ') S'
    | .rt d => Q (.rt d) S' := by
  have z : exSs C (.cons s ss) ρ = bnd (exS C s ρ) fun o => match o with
    | .nx ρ' => exSs C ss ρ'
    | o => ret o := by
      first
      | (rw [exSs]; done)
      | (rw [exSs]; rfl)
  rw [z, go_bnd]
  have e : ∀ (o : Out) (S' : Store), Go (match o with | .nx ρ' => exSs C ss ρ' | o => ret o) S' Q ↔ (match o with
    | .nx ρ' => Go (exSs C ss ρ') S' Q
    | .bk ρ' => Q (.bk ρ') S'
    | .rt d => Q (.rt d) S') := fun o S' => by
    cases o <;> first | rfl | exact go_ret
  exact ⟨fun h => h.mono fun o S' q => (e o S').mp q, fun h => h.mono fun o S' q => (e o S').mpr q⟩
end
end Mi
namespace Mi
section
variable {S : Store} {pr : Prog}
theorem go_nil {C : Cf} {ρ : Env} {Q : Out → Store → Prop} : Go (exSs C .nil ρ) S Q ↔ Q (.nx ρ) S := by
  rw [exSs]
  exact go_ret
theorem go_fin {d : D} {Q : D → Store → Prop} : Go (fin (.rt d)) S Q ↔ Q d S := go_ret
theorem go_finN {ρ : Env} {Q : D → Store → Prop} : Go (fin (.nx ρ)) S Q ↔ Q .non S := go_ret
theorem fin_f {Q : D → Store → Prop} : Fin 0 S Q = Q := rfl
theorem fin_iff {Q : D → Store → Prop} {d : D} {S' : Store} : Fin 1 S Q d S' ↔ ∃ T e, S' = S ++ T ∧ frz S' S.length deep d = some e ∧ Q e S := Iff.rfl
theorem fin_of {Q : D → Store → Prop} {d e : D} {S' : Store} (h : ∃ T, S' = S ++ T) (hf : frz S' S.length deep d = some e) : Fin 1 S Q d S' ↔ Q e S := by
  rw [fin_iff]
  obtain ⟨T, rfl⟩ := h
  constructor
  · rintro ⟨T2, e2, _, h2, q⟩
    rw [hf] at h2; cases h2; exact q
  · intro q; exact ⟨T, e, rfl, hf, q⟩
section
variable {Q : D → Store → Prop} {T : Store} {b : Bool} {i : Int}
theorem fin_bl0 : Fin 1 S Q (.bl b) S ↔ Q (.bl b) S := fin_of ⟨[], by simp⟩ rfl
theorem fin_bl1 : Fin 1 S Q (.bl b) (S ++ T) ↔ Q (.bl b) S := fin_of ⟨T, rfl⟩ rfl
theorem fin_bl2 {T2 : Store} : Fin 1 S Q (.bl b) (S ++ T ++ T2) ↔ Q (.bl b) S := fin_of ⟨T ++ T2, by simp⟩ rfl
theorem fin_int0 : Fin 1 S Q (.int i) S ↔ Q (.int i) S := fin_of ⟨[], by simp⟩ rfl
theorem fin_int1 : Fin 1 S Q (.int i) (S ++ T) ↔ Q (.int i) S := fin_of ⟨T, rfl⟩ rfl
theorem fin_int2 {T2 : Store} : Fin 1 S Q (.int i) (S ++ T ++ T2) ↔ Q (.int i) S := fin_of ⟨T ++ T2, by simp⟩ rfl
theorem fin_non0 : Fin 1 S Q .non S ↔ Q .non S := fin_of ⟨[], by simp⟩ rfl
theorem fin_non1 : Fin 1 S Q .non (S ++ T) ↔ Q .non S := fin_of ⟨T, rfl⟩ rfl
theorem frz_list {α : Type} {S' : Store} {k n : Nat} {l : List α} {e : α → D} (h : ∀ a, frz S' k n (e a) = some (e a)) : mapO (frz S' k n) (l.map e) = some (l.map e) := by
  induction l with
  | nil => rfl
  | cons a l ih => simp only [List.map_cons, mapO, h, ih]
theorem fin_fz {α : Type} {S' : Store} {l : List α} {e : α → D} (g : ∃ T, S' = S ++ T) (h : ∀ S' k a, frz S' k 59 (e a) = some (e a)) : Fin 1 S Q (.fz (l.map e)) S' ↔ Q (.fz (l.map e)) S := fin_of g (by
  show (mapO (frz S' S.length 59) (l.map e)).map D.fz = _
  rw [frz_list (h _ _)]; rfl)
theorem fin_tup {α : Type} {S' : Store} {l : List α} {e : α → D} (g : ∃ T, S' = S ++ T) (h : ∀ S' k a, frz S' k 59 (e a) = some (e a)) : Fin 1 S Q (.tup (l.map e)) S' ↔ Q (.tup (l.map e)) S := fin_of g (by
  show (mapO (frz S' S.length 59) (l.map e)).map D.tup = _
  rw [frz_list (h _ _)]; rfl)
theorem frz_ref {α : Type} {S' : Store} {a k n : Nat} {l : List α} {e : α → D} (ha : S'[a]? = some (.lst (l.map e))) (hl : k ≤ a) (h : ∀ a, frz S' k n (e a) = some (e a)) : frz S' k (n + 1) (.ref a) = some (.fz (l.map e)) := by
  simp only [frz, ha]
  rw [if_neg (by omega), frz_list h]; rfl
theorem fin_ints0 {l : List Int} : Fin 1 S Q (.fz (l.map D.int)) S ↔ Q (.fz (l.map D.int)) S := fin_fz ⟨[], by simp⟩ fun _ _ _ => rfl
theorem fin_ints1 {l : List Int} : Fin 1 S Q (.fz (l.map D.int)) (S ++ T) ↔ Q (.fz (l.map D.int)) S := fin_fz ⟨T, rfl⟩ fun _ _ _ => rfl
theorem fin_ref {α : Type} {S' : Store} {a : Nat} {l : List α} {e : α → D} (g : ∃ T, S' = S ++ T) (ha : S'[a]? = some (.lst (l.map e))) (hl : S.length ≤ a) (h : ∀ S' k a, frz S' k 59 (e a) = some (e a)) : Fin 1 S Q (.ref a) S' ↔ Q (.fz (l.map e)) S := fin_of g (frz_ref ha hl (h _ _))
end
theorem fiv_bl {Q : D → Store → Prop} {b : Bool} {T : Store} : Fiv S Q (.bl b) T ↔ Q (.bl b) S := ⟨fun h => h.2, fun h => ⟨rfl, h⟩⟩
theorem fiv_int {Q : D → Store → Prop} {b : Int} {T : Store} : Fiv S Q (.int b) T ↔ Q (.int b) S := ⟨fun h => h.2, fun h => ⟨rfl, h⟩⟩
theorem fiv_non {Q : D → Store → Prop} {T : Store} : Fiv S Q .non T ↔ Q .non S := ⟨fun h => h.2, fun h => ⟨rfl, h⟩⟩
theorem fr_nil : mapO (frz S 0 deep) [] = some [] := rfl
theorem fr_cons {d : D} {ds : List D} : mapO (frz S 0 deep) (d :: ds) = (frz S 0 deep d).bind fun e => (mapO (frz S 0 deep) ds).map fun es => e :: es := by
  simp only [mapO]
  cases frz S 0 deep d <;> cases mapO (frz S 0 deep) ds <;> rfl
theorem fr_int {i : Int} : frz S 0 deep (.int i) = some (.int i) := rfl
theorem fr_bl {i : Bool} : frz S 0 deep (.bl i) = some (.bl i) := rfl
theorem fr_str {i : Nat} : frz S 0 deep (.str i) = some (.str i) := rfl
theorem fr_non : frz S 0 deep .non = some .non := rfl
section
variable {Q : D → Store → Prop} {T : Store} {b : Bool} {i : Int}
theorem fic_of {d e : D} (hf : frz T 0 deep d = some e) : Fic S Q d T ↔ Q e S := by
  unfold Fic
  constructor
  · rintro ⟨e2, h2, q⟩
    rw [hf] at h2; cases h2; exact q
  · intro q; exact ⟨e, hf, q⟩
theorem fic_bl : Fic S Q (.bl b) T ↔ Q (.bl b) S := fic_of rfl
theorem fic_int : Fic S Q (.int i) T ↔ Q (.int i) S := fic_of rfl
theorem fic_non : Fic S Q .non T ↔ Q .non S := fic_of rfl
theorem fic_str {t : Nat} : Fic S Q (.str t) T ↔ Q (.str t) S := fic_of rfl
theorem fic_fz {α : Type} {l : List α} {e : α → D} (h : ∀ S' k a, frz S' k 59 (e a) = some (e a)) : Fic S Q (.fz (l.map e)) T ↔ Q (.fz (l.map e)) S := fic_of (by
  show (mapO (frz T 0 59) (l.map e)).map D.fz = _
  rw [frz_list (h _ _)]; rfl)
theorem fic_tup {α : Type} {l : List α} {e : α → D} (h : ∀ S' k a, frz S' k 59 (e a) = some (e a)) : Fic S Q (.tup (l.map e)) T ↔ Q (.tup (l.map e)) S := fic_of (by
  show (mapO (frz T 0 59) (l.map e)).map D.tup = _
  rw [frz_list (h _ _)]; rfl)
theorem fic_ints {l : List Int} : Fic S Q (.fz (l.map D.int)) T ↔ Q (.fz (l.map D.int)) S := fic_fz fun _ _ _ => rfl
theorem fic_ref {α : Type} {a : Nat} {l : List α} {e : α → D} (ha : T[a]? = some (.lst (l.map e))) (h : ∀ S' k a, frz S' k 59 (e a) = some (e a)) : Fic S Q (.ref a) T ↔ Q (.fz (l.map e)) S := fic_of (frz_ref ha (Nat.zero_le _) (h _ _))
theorem fr_fz {α : Type} {l : List α} {e : α → D} (h : ∀ S' k a, frz S' k 59 (e a) = some (e a)) : frz S 0 deep (.fz (l.map e)) = some (.fz (l.map e)) := by
  show (mapO (frz S 0 59) (l.map e)).map D.fz = _
  rw [frz_list (h _ _)]; rfl
theorem fr_ints {l : List Int} : frz S 0 deep (.fz (l.map D.int)) = some (.fz (l.map D.int)) := fr_fz fun _ _ _ => rfl
theorem fr_L {α : Type} {x : D} {l : List α} {e : α → D} (hx : asL S x = some (l.map e)) (h : ∀ S' k a, frz S' k 59 (e a) = some (e a)) : frz S 0 deep x = some (.fz (l.map e)) := by
  cases x with
  | fz ds => simp only [asL] at hx; cases hx; exact fr_fz h
  | ref a =>
    simp only [asL] at hx
    split at hx
    · rename_i ds hd
      cases hx
      exact frz_ref hd (Nat.zero_le _) (h _ _)
    · cases hx
  | _ => cases hx
theorem pl_fz {α : Type} {e : α → D} (h : ∀ a, D.plain (e a) = true) : ∀ l : List α, D.plains (l.map e) = true
  | [] => rfl
  | a :: l => by simp only [List.map_cons, D.plains, h, pl_fz h l, Bool.and_self]
theorem pl_fzm {α : Type} {e : α → D} {l : List α} (h : ∀ a, D.plain (e a) = true) : D.plain (.fz (l.map e)) = true := by
  simp only [D.plain]; exact pl_fz h l
theorem pl_tpm {α : Type} {e : α → D} {l : List α} (h : ∀ a, D.plain (e a) = true) : D.plain (.tup (l.map e)) = true := by
  simp only [D.plain]; exact pl_fz h l
theorem pl_ints {l : List Int} : D.plain (.fz (l.map D.int)) = true := pl_fzm fun _ => rfl
theorem pl_int : D.plain (.int i) = true := rfl
theorem pl_bl : D.plain (.bl b) = true := rfl
theorem pl_str {t : Nat} : D.plain (.str t) = true := rfl
theorem pl_non : D.plain .non = true := rfl
theorem pls_nil : D.plains [] = true := rfl
theorem pls_cons {d : D} {ds : List D} : D.plains (d :: ds) = (D.plain d && D.plains ds) := by simp only [D.plains]
theorem pl_tup {ds : List D} : D.plain (.tup ds) = D.plains ds := by simp only [D.plain]
theorem pl_fzs {ds : List D} : D.plain (.fz ds) = D.plains ds := by simp only [D.plain]
end
theorem asB_bl {b : Bool} : asB (.bl b) = some b := rfl
theorem ex_bl {b : Bool} {P : Bool → Prop} : (∃ c, D.bl b = D.bl c ∧ P c) ↔ P b := by
  constructor
  · rintro ⟨c, e, p⟩; cases e; exact p
  · intro p; exact ⟨b, rfl, p⟩
theorem join_some {α : Type} {a : α} : (some (some a)).join = some a := rfl
end
end Mi
namespace Mi
section
variable {S : Store} {pr : Prog}
def Is {α : Type} (m : M α) (S : Store) (a : α) : Prop := m S = .ok a S
theorem Is.go {α : Type} {m : M α} {a : α} {Q : α → Store → Prop} (h : Is m S a) : Go m S Q ↔ Q a S := go_eq h
theorem is_iff {α : Type} {m : M α} {a : α} : Is m S a ↔ Go m S fun b S' => b = a ∧ S' = S := by
  constructor
  · intro h; exact ⟨a, S, h, rfl, rfl⟩
  · rintro ⟨b, S', e, rfl, rfl⟩; exact e
theorem go_filt {ok : Store → Bool} {tg : T} {cond : Env → M Bool} {elt : Env → M D} {ρ : Env} (p : D → Bool) (g : D → D) {ds : List D} {Q : List D → Store → Prop} (hok : ok S = true)
    (h : ∀ d ∈ ds, ∃ ρ1, bindT tg d ρ = some ρ1 ∧ Is (cond ρ1) S (p d) ∧ (p d = true → Is (elt ρ1) S (g d))) : Go (cmpL ok tg cond elt ds ρ []) S Q ↔ Q ((ds.filter p).map g) S := by
  suffices z : ∀ (ds acc : List D), (∀ d ∈ ds, ∃ ρ1, bindT tg d ρ = some ρ1 ∧ Is (cond ρ1) S (p d) ∧ (p d = true → Is (elt ρ1) S (g d))) → cmpL ok tg cond elt ds ρ acc S = .ok (acc ++ (ds.filter p).map g) S by
    exact go_eq (by rw [z ds [] h]; rfl)
  intro ds
  induction ds with
  | nil => intro acc _; simp [cmpL, ret]
  | cons d ds ih =>
    intro acc h
    obtain ⟨ρ1, hb, hc, he⟩ := h d (.head _)
    have hc1 : cond ρ1 S = .ok (p d) S := hc
    have ih2 := fun acc => ih acc fun x hx => h x (.tail _ hx)
    cases hp : p d with
    | true =>
      have h1 : elt ρ1 S = .ok (g d) S := he hp
      rw [hp] at hc1
      simp only [cmpL, hb, opt, bnd, ret, hc1, h1, if_true, hok]
      rw [ih2]
      simp [hp]
    | false =>
      rw [hp] at hc1
      simp only [cmpL, hb, opt, bnd, ret, hc1, hok, Bool.false_eq_true, if_false, if_true]
      rw [ih2]
      simp [hp]
theorem go_map {ok : Store → Bool} {tg : T} {elt : Env → M D} {ρ : Env} (g : D → D) {ds : List D} {Q : List D → Store → Prop} (hok : ok S = true)
    (h : ∀ d ∈ ds, ∃ ρ1, bindT tg d ρ = some ρ1 ∧ Is (elt ρ1) S (g d)) : Go (cmpL ok tg (fun _ => ret true) elt ds ρ []) S Q ↔ Q (ds.map g) S := by
  have z := go_filt (S := S) (cond := fun _ => ret true) (fun _ => true) g (Q := Q) hok (ds := ds) (tg := tg) (elt := elt) (ρ := ρ) fun d hd => by
    obtain ⟨ρ1, h1, h2⟩ := h d hd
    exact ⟨ρ1, h1, rfl, fun _ => h2⟩
  rw [z, List.filter_eq_self.mpr (fun _ _ => rfl)]
theorem go_mapA {α : Type} {ok : Store → Bool} {tg : T} {elt : Env → M D} {ρ : Env} (en : α → D) (g : α → D) {as : List α} {Q : List D → Store → Prop} (hok : ok S = true)
    (h : ∀ a ∈ as, ∃ ρ1, bindT tg (en a) ρ = some ρ1 ∧ Is (elt ρ1) S (g a)) : Go (cmpL ok tg (fun _ => ret true) elt (as.map en) ρ []) S Q ↔ Q (as.map g) S := by
  suffices z : ∀ (as : List α) (acc : List D), (∀ a ∈ as, ∃ ρ1, bindT tg (en a) ρ = some ρ1 ∧ Is (elt ρ1) S (g a)) → cmpL ok tg (fun _ => ret true) elt (as.map en) ρ acc S = .ok (acc ++ as.map g) S by
    exact go_eq (by rw [z as [] h]; rfl)
  intro as
  induction as with
  | nil => intro acc _; simp [cmpL, ret]
  | cons a as ih =>
    intro acc h
    obtain ⟨ρ1, hb, he⟩ := h a (.head _)
    have h1 : elt ρ1 S = .ok (g a) S := he
    have ih2 := fun acc => ih acc fun x hx => h x (.tail _ hx)
    simp only [List.map_cons, cmpL, hb, opt, bnd, ret, h1, if_true, hok]
    rw [ih2]
    simp
theorem go_filtA {α : Type} {ok : Store → Bool} {tg : T} {cond : Env → M Bool} {elt : Env → M D} {ρ : Env} (en : α → D) (p : α → Bool) (g : α → D) {as : List α} {Q : List D → Store → Prop} (hok : ok S = true)
    (h : ∀ a ∈ as, ∃ ρ1, bindT tg (en a) ρ = some ρ1 ∧ Is (cond ρ1) S (p a) ∧ (p a = true → Is (elt ρ1) S (g a))) : Go (cmpL ok tg cond elt (as.map en) ρ []) S Q ↔ Q ((as.filter p).map g) S := by
  suffices z : ∀ (as : List α) (acc : List D), (∀ a ∈ as, ∃ ρ1, bindT tg (en a) ρ = some ρ1 ∧ Is (cond ρ1) S (p a) ∧ (p a = true → Is (elt ρ1) S (g a))) → cmpL ok tg cond elt (as.map en) ρ acc S = .ok (acc ++ (as.filter p).map g) S by
    exact go_eq (by rw [z as [] h]; rfl)
  intro as
  induction as with
  | nil => intro acc _; simp [cmpL, ret]
  | cons a as ih =>
    intro acc h
    obtain ⟨ρ1, hb, hc, he⟩ := h a (.head _)
    have hc1 : cond ρ1 S = .ok (p a) S := hc
    have ih2 := fun acc => ih acc fun x hx => h x (.tail _ hx)
    cases hp : p a with
    | true =>
      have h1 : elt ρ1 S = .ok (g a) S := he hp
      rw [hp] at hc1
      simp only [List.map_cons, cmpL, hb, opt, bnd, ret, hc1, h1, if_true, hok]
      rw [ih2]
      simp [hp]
    | false =>
      rw [hp] at hc1
      simp only [List.map_cons, cmpL, hb, opt, bnd, ret, hc1, hok, Bool.false_eq_true, if_false, if_true]
      rw [ih2]
      simp [hp]
theorem go_walkS {x : D} {ds : List D} {Q : Walk → Store → Prop} (h : asQ S x = some ds) : Go (walkS x) S Q ↔ Q ⟨ds, stays x ds⟩ S := go_eq (by simp only [walkS, h])
theorem go_walkE {x : D} {ds : List D} {Q : Walk → Store → Prop} (h : asL S x = some ds) : Go (walkE x) S Q ↔ Q ⟨enumD 0 ds, stays x ds⟩ S := go_eq (by simp only [walkE, h])
theorem go_walkR {i j : Int} {Q : Walk → Store → Prop} (h : -1000000 ≤ i ∧ i ≤ 1000000 ∧ -1000000 ≤ j ∧ j ≤ 1000000) : Go (walkR (.int i) (.int j)) S Q ↔ Q ⟨rangeD i (j - i).toNat, fun _ => true⟩ S := go_eq (by simp only [walkR, if_pos h, ret])
theorem stays_of {x : D} {ds : List D} (h : asL S x = some ds) : stays x ds S = true := by
  cases x <;> simp only [asL] at h <;> first | rfl | skip
  all_goals unfold stays
  all_goals (try split at h) <;> first | (cases h; simp_all) | cases h
theorem bools_mapG {α : Type} {p : α → Bool} : ∀ l : List α, boolsO (l.map fun x => D.bl (p x)) = some (l.map p)
  | [] => rfl
  | x :: l => by
    have ih := bools_mapG (p := p) l
    simp only [boolsO] at ih ⊢
    simp only [List.map_cons, mapO, asB, ih]
theorem g_all {x : D} {ds : List D} {bs : List Bool} {Q : D → Store → Prop} (h : asL S x = some ds) (hb : boolsO ds = some bs) : Go (opD pr .all [x]) S Q ↔ Q (.bl (bs.all id)) S := go_eq (by
  show (match (asL S x).bind boolsO with | some bs => R.ok (D.bl (bs.all id)) S | none => R.stuck) = _
  rw [h]
  show (match boolsO ds with | some bs => R.ok (D.bl (bs.all id)) S | none => R.stuck) = _
  rw [hb])
end
end Mi
namespace Mi
section
variable {S : Store} {pr : Prog} {Q : D → Store → Prop}
theorem g_isT_tup {t : Ty} {ds : List D} : Go (opD pr (.isT t) [.tup ds]) S Q ↔ Q (.bl (decide (t = .tuple))) S := go_eq rfl
theorem g_isT_fz {t : Ty} {ds : List D} : Go (opD pr (.isT t) [.fz ds]) S Q ↔ Q (.bl (decide (t = .list))) S := go_eq rfl
theorem g_isT_int {t : Ty} {i : Int} : Go (opD pr (.isT t) [.int i]) S Q ↔ Q (.bl (decide (t = .int))) S := go_eq rfl
theorem g_isT_str {t : Ty} {i : Nat} : Go (opD pr (.isT t) [.str i]) S Q ↔ Q (.bl (decide (t = .str))) S := go_eq rfl
theorem g_isT_bl {t : Ty} {i : Bool} : Go (opD pr (.isT t) [.bl i]) S Q ↔ Q (.bl (decide (t = .bool ∨ t = .int))) S := go_eq rfl
theorem g_len_tup {ds : List D} : Go (opD pr .len [.tup ds]) S Q ↔ Q (.int ds.length) S := go_eq rfl
theorem g_len_fz {ds : List D} : Go (opD pr .len [.fz ds]) S Q ↔ Q (.int ds.length) S := go_eq rfl
theorem g_eqI {a b : Int} : Go (opD pr .eq [.int a, .int b]) S Q ↔ Q (.bl (a == b)) S := go_eq rfl
theorem g_neI {a b : Int} : Go (opD pr .ne [.int a, .int b]) S Q ↔ Q (.bl (!(a == b))) S := go_eq rfl
theorem g_eqS {a b : Nat} : Go (opD pr .eq [.str a, .str b]) S Q ↔ Q (.bl (a == b)) S := go_eq rfl
theorem g_eqB {a b : Bool} : Go (opD pr .eq [.bl a, .bl b]) S Q ↔ Q (.bl (a == b)) S := go_eq rfl
theorem g_isB {a b : Bool} : Go (opD pr .is [.bl a, .bl b]) S Q ↔ Q (.bl (decide (a = b))) S := go_eq rfl
theorem g_isnotB {a b : Bool} : Go (opD pr .isnot [.bl a, .bl b]) S Q ↔ Q (.bl (!decide (a = b))) S := go_eq rfl
theorem g_isin2 {r s t : Nat} : Go (opD pr .isin [.str r, .tup [.str s, .str t]]) S Q ↔ Q (.bl (decide (s = r) || decide (t = r))) S := go_eq rfl
theorem at0 {α : Type} {a : α} {l : List α} : L2.atI (a :: l) 0 = some a := by
  have h : (0 : Int) < ((l.length + 1 : Nat) : Int) := by omega
  simp only [L2.atI, L2.ixN, List.length_cons, Int.le_refl, if_true, h, Option.bind, Int.toNat_zero, List.getElem?_cons_zero]
theorem at1 {α : Type} {a b : α} {l : List α} : L2.atI (a :: b :: l) 1 = some b := by
  have h : (1 : Int) < ((l.length + 1 + 1 : Nat) : Int) := by omega
  simp only [L2.atI, L2.ixN, List.length_cons, show (0 : Int) ≤ 1 from by decide, if_true, h, Option.bind]
  rfl
theorem at_of {α : Type} {l : List α} {i : Int} (h0 : 0 ≤ i) (h1 : i < l.length) : L2.atI l i = l[i.toNat]? := by
  simp only [L2.atI, L2.ixN, h0, h1, if_true, Option.bind]
theorem ex_some {α : Type} {a : α} {P : α → Prop} : (∃ d, some a = some d ∧ P d) ↔ P a := by
  constructor
  · rintro ⟨c, e, p⟩; cases e; exact p
  · intro p; exact ⟨a, rfl, p⟩
end
end Mi
namespace Mi
section
variable {S : Store} {pr : Prog} {Q : D → Store → Prop}
theorem g_isT_L {t : Ty} {x : D} {ds : List D} (h : asL S x = some ds) : Go (opD pr (.isT t) [x]) S Q ↔ Q (.bl (decide (t = .list))) S := by
  refine g_isT ?_
  cases x with
  | fz a => rfl
  | ref a =>
    simp only [asL] at h
    simp only [isTy]
    split at h
    · rename_i e; rw [e]
    · cases h
  | _ => cases h
end
end Mi
namespace Mi
section
variable {S : Store} {pr : Prog} {Q : D → Store → Prop}
theorem g_lensetT {x : D} {ds : List D} {ts : List (List Int)} (h : asL S x = some ds) (hn : intsO ds = none) (ht : mapO tupI ds = some ts) (hl : ts.length < 64) : Go (opD pr .lenset [x]) S Q ↔ Q (.int (nubT ts).length) S := go_eq (by
  show (match asL S x with
    | some ds => match intsO ds with
      | some ns => if ns.length < 1000 then R.ok (D.int (nubI ns).length) S else .stuck
      | none => match mapO tupI ds with
        | some ts => if ts.length < 64 then R.ok (D.int (nubT ts).length) S else .stuck
        | none => .stuck
    | none => .stuck) = _
  simp only [h, hn, ht, if_pos hl])
theorem nubT_ndG : ∀ ts : List (List Int), ts.Nodup → nubT ts = ts
  | [], _ => rfl
  | t :: ts, h => by
    have h2 := List.nodup_cons.mp h
    unfold nubT
    rw [if_neg h2.1, nubT_ndG ts h2.2]
theorem mapO_mapG {α β γ : Type} {f : β → Option γ} {e : α → β} {g : α → γ} (h : ∀ a, f (e a) = some (g a)) : ∀ l : List α, mapO f (l.map e) = some (l.map g)
  | [] => rfl
  | a :: l => by simp only [List.map_cons, mapO, h, mapO_mapG h l]
end
end Mi
namespace Mi
section
variable {S : Store} {pr : Prog} {Q : D → Store → Prop}
theorem go_lm {C : Cf} {p : Op} {o : E} {es : Es} {ρ : Env} : Go (evE C (.lm p o es) ρ) S Q ↔ Go (evE C o ρ) S fun x S1 => ∃ a ds, x = .ref a ∧ S1[a]? = some (.lst ds) ∧ Go (evEs C es ρ) S1 fun ys S2 => Go (opD C.pr p (.ref a :: ys)) S2 Q := by
  rw [evE, go_bnd]
  have e : ∀ (x : D) (S1 : Store), Go (fun S => match x with
    | .ref a => match S[a]? with
      | some (.lst _) => bnd (evEs C es ρ) (fun ds => opD C.pr p (.ref a :: ds)) S
      | _ => .stuck
    | _ => .stuck) S1 Q ↔ ∃ a ds, x = .ref a ∧ S1[a]? = some (.lst ds) ∧ Go (evEs C es ρ) S1 fun ys S2 => Go (opD C.pr p (.ref a :: ys)) S2 Q := fun x S1 => by
    constructor
    · rintro ⟨d, S2, h, q⟩
      dsimp only at h
      split at h
      · split at h
        · rename_i a _ ds hd
          refine ⟨a, ds, rfl, hd, ?_⟩
          rw [← go_bnd]
          exact ⟨d, S2, h, q⟩
        · cases h
      · cases h
    · rintro ⟨a, ds, rfl, hd, g⟩
      rw [← go_bnd] at g
      obtain ⟨d, S2, h, q⟩ := g
      exact ⟨d, S2, by simp only [hd]; exact h, q⟩
  exact ⟨fun h => h.mono fun x S1 q => (e x S1).mp q, fun h => h.mono fun x S1 q => (e x S1).mpr q⟩
theorem get_new {o : O} : (S ++ [o])[S.length]? = some o := by simp
theorem set_new {o o' : O} : (S ++ [o]).set S.length o' = S ++ [o'] := by simp
theorem g_extend {ds zs : List D} : Go (opD pr .extend [.ref S.length, .fz zs]) (S ++ [.lst ds]) Q ↔ ds.length + zs.length ≤ line ∧ Q .non (S ++ [.lst (ds ++ zs)]) := by
  by_cases h : ds.length + zs.length ≤ line
  · rw [go_eq (show opD pr .extend [.ref S.length, .fz zs] (S ++ [.lst ds]) = .ok .non (S ++ [.lst (ds ++ zs)]) from ?_)]
    · simp only [h, true_and]
    · show onL S.length (fun ds => if ds.length + zs.length ≤ line then some (.non, ds ++ zs) else none) (S ++ [.lst ds]) = _
      simp only [onL, get_new, if_pos h, set_new]
  · rw [go_stk (show opD pr .extend [.ref S.length, .fz zs] (S ++ [.lst ds]) = .stuck from ?_)]
    · simp only [h, false_and]
    · show onL S.length (fun ds => if ds.length + zs.length ≤ line then some (.non, ds ++ zs) else none) (S ++ [.lst ds]) = _
      simp only [onL, get_new, if_neg h]
theorem g_append {ds : List D} {y : D} : Go (opD pr .append [.ref S.length, y]) (S ++ [.lst ds]) Q ↔ ds.length < line ∧ Q .non (S ++ [.lst (ds ++ [y])]) := by
  by_cases h : ds.length < line
  · rw [go_eq (show opD pr .append [.ref S.length, y] (S ++ [.lst ds]) = .ok .non (S ++ [.lst (ds ++ [y])]) from ?_)]
    · simp only [h, true_and]
    · show onL S.length (fun ds => if ds.length < line then some (.non, ds ++ [y]) else none) (S ++ [.lst ds]) = _
      simp only [onL, get_new, if_pos h, set_new]
  · rw [go_stk (show opD pr .append [.ref S.length, y] (S ++ [.lst ds]) = .stuck from ?_)]
    · simp only [h, false_and]
    · show onL S.length (fun ds => if ds.length < line then some (.non, ds ++ [y]) else none) (S ++ [.lst ds]) = _
      simp only [onL, get_new, if_neg h]
theorem asL_app {x : D} {ds : List D} {T : Store} (h : asL S x = some ds) : asL (S ++ T) x = some ds := by
  cases x with
  | fz a => exact h
  | ref a =>
    simp only [asL] at h ⊢
    split at h
    · rename_i zs e
      rw [List.getElem?_append_left (List.getElem?_eq_some_iff.mp e).1, e]
      exact h
    · cases h
  | _ => cases h
theorem g_sortset {m : Bool} {x : D} {ds : List D} {ns : List Int} (h : asL S x = some ds) (hi : intsO ds = some ns) (h1 : (nubI ns).length < 64) (h2 : ns.length < 1000) : Go (opD pr (.sortset m) [x]) S Q ↔ Go (newL m ((sortI (nubI ns)).map .int)) S Q := by
  have e : opD pr (.sortset m) [x] S = newL m ((sortI (nubI ns)).map .int) S := by
    show (match (asL S x).bind intsO with
      | some ns => if (nubI ns).length < 64 ∧ ns.length < 1000 then newL m ((sortI (nubI ns)).map .int) S else .stuck
      | none => .stuck) = _
    simp only [h, Option.bind_some, hi, if_pos (And.intro h1 h2)]
  unfold Go
  rw [e]
theorem mem_nubG {a : Int} : ∀ l : List Int, a ∈ nubI l ↔ a ∈ l
  | [] => Iff.rfl
  | x :: l => by
    unfold nubI
    have ih := mem_nubG (a := a) l
    split
    · rename_i h
      rw [ih, List.mem_cons]
      constructor
      · exact .inr
      · rintro (rfl | q)
        · exact h
        · exact q
    · simp only [List.mem_cons, ih]
theorem mem_insG {a x : Int} : ∀ l : List Int, a ∈ insI x l ↔ a = x ∨ a ∈ l
  | [] => by simp [insI]
  | y :: l => by
    unfold insI
    split
    · simp
    · have ih := mem_insG (a := a) (x := x) l
      simp only [List.mem_cons, ih]
      constructor
      · rintro (q | q | q) <;> simp [q]
      · rintro (q | q | q) <;> simp [q]
theorem mem_sortG {a : Int} : ∀ l : List Int, a ∈ sortI l ↔ a ∈ l
  | [] => Iff.rfl
  | x :: l => by
    unfold sortI
    rw [mem_insG, mem_sortG l, List.mem_cons]
theorem nubG_le : ∀ l : List Int, (nubI l).length ≤ l.length
  | [] => Nat.le_refl _
  | x :: l => by
    unfold nubI
    have ih := nubG_le l
    split <;> simp <;> omega
end
end Mi
namespace Mi
section
variable {C : Cf} {ρ : Env}
theorem ev_c {d : D} : evE C (.c d) ρ = ret d := by rw [evE]
theorem ev_g {d : D} : evE C (.g d) ρ = ret d := by rw [evE]
theorem ev_v {i : Nat} : evE C (.v i) ρ = opt (ρ[i]?.join) := by rw [evE]
theorem ev_op {o : Op} {es : Es} : evE C (.op o es) ρ = bnd (evEs C es ρ) fun ds => opD C.pr o ds := by rw [evE]
theorem ev_and {es : Es} : evE C (.and es) ρ = evAnd C es ρ := by rw [evE]
theorem ev_or {es : Es} : evE C (.or es) ρ = evOr C es ρ := by rw [evE]
theorem ev_not {a : E} : evE C (.not a) ρ = bnd (evE C a ρ) fun d => bnd (opt (asB d)) fun b => ret (.bl (!b)) := by rw [evE]
theorem ev_ite {a b c : E} : evE C (.ite a b c) ρ = bnd (tst (evE C a ρ)) fun t => if t then evE C b ρ else evE C c ρ := by rw [evE]
theorem ev_ch {o p : Op} {a b c : E} : evE C (.ch o p a b c) ρ = bnd (evE C a ρ) fun x => bnd (evE C b ρ) fun y => bnd (opD C.pr o [x, y]) fun r => bnd (opt (asB r)) fun t => if t then bnd (evE C c ρ) fun z => opD C.pr p [y, z] else ret (.bl false) := by rw [evE]
theorem ev_comp {m : Bool} {own : List Nat} {tg : T} {src : Src} {ifs : Es} {elt : E} : evE C (.comp m own tg src ifs elt) ρ = bnd (evSrc C src ρ) fun w => bnd (noX (cmpL w.ok tg (evIfs C ifs) (evE C elt) w.ds (wipeE ρ own) [])) fun ds => newL m ds := by rw [evE]
theorem ev_call {f : Nat} {es : Es} : evE C (.call f es) ρ = bnd (evEs C es ρ) fun ds => C.Φ f ds := by rw [evE]
end
end Mi
namespace Mi
section
variable {S : Store} {ok : Store → Bool} {tg : T} {body : Env → M Out} {ρ : Env} {Q : Out → Store → Prop}
theorem go_forn : Go (forL ok tg body [] ρ) S Q ↔ Q (.nx ρ) S := by
  unfold forL
  exact go_ret
theorem go_forc {d : D} {ds : List D} : Go (forL ok tg body (d :: ds) ρ) S Q ↔ Go (opt (bindT tg d ρ)) S fun ρ1 S1 => Go (body ρ1) S1 fun o S2 => match o with
    | .nx ρ2 => ok S2 = true ∧ Go (forL ok tg body ds ρ2) S2 Q
    | .bk ρ2 => Q (.nx ρ2) S2
    | .rt d => Q (.rt d) S2 := by
  have z : forL ok tg body (d :: ds) ρ = bnd (opt (bindT tg d ρ)) fun ρ1 => bnd (body ρ1) fun o => match o with
    | .nx ρ2 => fun S => if ok S then forL ok tg body ds ρ2 S else .stuck
    | .bk ρ2 => ret (.nx ρ2)
    | .rt d => ret (.rt d) := by
    first
    | (rw [forL]; done)
    | (rw [forL]; rfl)
  rw [z, go_bnd]
  have e : ∀ (o : Out) (S2 : Store), Go (match o with
    | .nx ρ2 => fun S => if ok S then forL ok tg body ds ρ2 S else .stuck
    | .bk ρ2 => ret (.nx ρ2)
    | .rt d => ret (.rt d)) S2 Q ↔ (match o with
    | .nx ρ2 => ok S2 = true ∧ Go (forL ok tg body ds ρ2) S2 Q
    | .bk ρ2 => Q (.nx ρ2) S2
    | .rt d => Q (.rt d) S2) := fun o S2 => by
    cases o
    · exact go_guard
    · exact go_ret
    · exact go_ret
  constructor <;> intro h <;> refine h.mono fun ρ1 S1 q => ?_
  · rw [go_bnd] at q
    exact q.mono fun o S2 q => (e o S2).mp q
  · rw [go_bnd]
    exact q.mono fun o S2 q => (e o S2).mpr q
end
end Mi
namespace Mi
theorem go_forA {α : Type} {ok : Store → Bool} {tg : T} {body : Env → M Out} {Q : Out → Store → Prop} (en : α → D) (I : List α → Env → Store → Prop)
    (step : ∀ a as ρ S, I (a :: as) ρ S → ∃ ρ1, bindT tg (en a) ρ = some ρ1 ∧ Go (body ρ1) S fun o S' => match o with
      | .nx ρ2 => ok S' = true ∧ I as ρ2 S'
      | .bk ρ2 => Q (.nx ρ2) S'
      | .rt d => Q (.rt d) S')
    (done : ∀ ρ S, I [] ρ S → Q (.nx ρ) S) : ∀ (as : List α) (ρ : Env) (S : Store), I as ρ S → Go (forL ok tg body (as.map en) ρ) S Q := by
  intro as
  induction as with
  | nil => intro ρ S h; exact go_forn.mpr (done ρ S h)
  | cons a as ih =>
    intro ρ S h
    obtain ⟨ρ1, e, g⟩ := step a as ρ S h
    rw [List.map_cons, go_forc, e, go_some]
    refine g.mono fun o S' q => ?_
    cases o with
    | nx ρ2 => exact ⟨q.1, ih ρ2 S' q.2⟩
    | bk ρ2 => exact q
    | rt d => exact q
end Mi
namespace Mi
section
variable {S : Store} {pr : Prog} {Q : D → Store → Prop} {C : Cf} {ρ : Env}
theorem go_mk0 {c : Nat} {k : CDef} (hc : C.pr.cls[c]? = some k) (hi : k.init = none) (hn : k.inst = true) : Go (evE C (.mk c .nil) ρ) S Q ↔ Q (.ref S.length) (S ++ [.ins c []]) := by
  refine go_eq ?_
  rw [evE, hc]
  simp only [hi, hn, if_true]
theorem go_mk1 {c f : Nat} {k : CDef} {es : Es} (hc : C.pr.cls[c]? = some k) (hi : k.init = some f) : Go (evE C (.mk c es) ρ) S Q ↔ Go (evEs C es ρ) S fun ds S1 => Go (C.Φ f (.ref S1.length :: ds)) (S1 ++ [.ins c []]) fun r S2 => r = .non ∧ Q (.ref S1.length) S2 := by
  rw [evE, hc]
  simp only [hi]
  rw [go_bnd]
  have e : ∀ (ds : List D) (S1 : Store), Go (fun S => bnd (C.Φ f (.ref S.length :: ds)) (fun r => match r with
        | .non => ret (.ref S.length)
        | _ => stk) (S ++ [.ins c []])) S1 Q ↔ Go (C.Φ f (.ref S1.length :: ds)) (S1 ++ [.ins c []]) fun r S2 => r = .non ∧ Q (.ref S1.length) S2 := fun ds S1 => by
    show Go (bnd (C.Φ f (.ref S1.length :: ds)) (fun r => match r with
        | .non => ret (.ref S1.length)
        | _ => stk)) (S1 ++ [.ins c []]) Q ↔ _
    rw [go_bnd]
    constructor <;> intro h <;> refine h.mono fun r S2 q => ?_
    · cases r with
      | non => exact ⟨rfl, go_ret.mp q⟩
      | _ => exact (go_stk0.mp q).elim
    · obtain ⟨rfl, q⟩ := q
      exact go_ret.mpr q
  exact ⟨fun h => h.mono fun x S1 q => (e x S1).mp q, fun h => h.mono fun x S1 q => (e x S1).mpr q⟩
theorem go_meth {o : E} {m : Nat} {es : Es} : Go (evE C (.meth o m es) ρ) S Q ↔ Go (evE C o ρ) S fun x S1 => ∃ a c fs f, x = .ref a ∧ S1[a]? = some (.ins c fs) ∧ C.pr.meth c m = some f ∧ lookN m fs = none ∧ Go (evEs C es ρ) S1 fun ds S2 => Go (C.Φ f (.ref a :: ds)) S2 Q := by
  rw [evE, go_bnd]
  have e : ∀ (x : D) (S1 : Store), Go (fun S => match x with
    | .ref a => match S[a]? with
      | some (.ins c fs) => match C.pr.meth c m, lookN m fs with
        | some f, none => bnd (evEs C es ρ) (fun ds => C.Φ f (.ref a :: ds)) S
        | _, _ => .stuck
      | _ => .stuck
    | _ => .stuck) S1 Q ↔ ∃ a c fs f, x = .ref a ∧ S1[a]? = some (.ins c fs) ∧ C.pr.meth c m = some f ∧ lookN m fs = none ∧ Go (evEs C es ρ) S1 fun ds S2 => Go (C.Φ f (.ref a :: ds)) S2 Q := fun x S1 => by
    constructor
    · rintro ⟨d, S2, h, q⟩
      dsimp only at h
      split at h
      · split at h
        · split at h
          · rename_i a _ c fs hd _ _ f hf hn
            refine ⟨a, c, fs, f, rfl, hd, hf, hn, ?_⟩
            rw [← go_bnd]
            exact ⟨d, S2, h, q⟩
          · cases h
        · cases h
      · cases h
    · rintro ⟨a, c, fs, f, rfl, hd, hf, hn, g⟩
      rw [← go_bnd] at g
      obtain ⟨d, S2, h, q⟩ := g
      exact ⟨d, S2, by simp only [hd, hf, hn]; exact h, q⟩
  exact ⟨fun h => h.mono fun x S1 q => (e x S1).mp q, fun h => h.mono fun x S1 q => (e x S1).mpr q⟩
theorem g_attr {a k c : Nat} {fs : List (Nat × D)} (h : S[a]? = some (.ins c fs)) : Go (opD pr (.attr k) [.ref a]) S Q ↔ pr.hasF c k = true ∧ ∃ d, lookN k fs = some d ∧ Q d S := by
  have e : opD pr (.attr k) [.ref a] S = if pr.hasF c k then opt (lookN k fs) S else .stuck := by
    show (match S[a]? with
      | some (.ins c fs) => if pr.hasF c k then opt (lookN k fs) S else .stuck
      | _ => .stuck) = _
    rw [h]
  by_cases hf : pr.hasF c k = true
  · rw [if_pos hf] at e
    rw [← go_opt]
    unfold Go
    rw [e]
    simp only [hf, true_and]
  · rw [if_neg hf] at e
    rw [go_stk e]
    simp [hf]
theorem g_isC {a c k : Nat} {fs : List (Nat × D)} (h : S[a]? = some (.ins k fs)) : Go (opD pr (.isC c) [.ref a]) S Q ↔ pr.asks c = true ∧ pr.makes k = true ∧ Q (.bl (pr.sub k c)) S := by
  have e : opD pr (.isC c) [.ref a] S = if pr.asks c then (match (if pr.makes k then some (pr.sub k c) else none) with
      | some b => .ok (.bl b) S
      | none => .stuck) else .stuck := by
    show (if pr.asks c then match isCl pr S c (.ref a) with
      | some b => R.ok (D.bl b) S
      | none => .stuck
      else .stuck) = _
    simp only [isCl, h]
  by_cases ha : pr.asks c = true
  · by_cases hm : pr.makes k = true
    · rw [if_pos ha, if_pos hm] at e
      rw [go_eq e]
      simp only [ha, hm, true_and]
    · rw [if_pos ha, if_neg hm] at e
      rw [go_stk e]
      simp [hm]
  · rw [if_neg ha] at e
    rw [go_stk e]
    simp [ha]
theorem g_isT_ins {t : Ty} {a k : Nat} {fs : List (Nat × D)} (h : S[a]? = some (.ins k fs)) (hm : pr.makes k = true) : Go (opD pr (.isT t) [.ref a]) S Q ↔ Q (.bl false) S := g_isT (by simp only [isTy, h, hm, if_true])
theorem go_setFld {a k c : Nat} {d : D} {fs : List (Nat × D)} {P : Unit → Store → Prop} (h : S[a]? = some (.ins c fs)) : Go (setFld pr (.ref a) k d) S P ↔ (pr.hasF c k = true ∧ fs.length < 100) ∧ P () (S.set a (.ins c (putN k d fs))) := by
  have e : setFld pr (.ref a) k d S = if pr.hasF c k ∧ fs.length < 100 then .ok () (S.set a (.ins c (putN k d fs))) else .stuck := by
    simp only [setFld, h]
  by_cases hf : pr.hasF c k = true ∧ fs.length < 100
  · rw [if_pos hf] at e
    rw [go_eq e]
    simp only [hf, true_and, and_self]
  · rw [if_neg hf] at e
    rw [go_stk e]
    simp [hf]
theorem go_setFldN {k c : Nat} {d : D} {fs : List (Nat × D)} {P : Unit → Store → Prop} : Go (setFld pr (.ref S.length) k d) (S ++ [.ins c fs]) P ↔ (pr.hasF c k = true ∧ fs.length < 100) ∧ P () (S ++ [.ins c (putN k d fs)]) := by
  rw [go_setFld get_new, set_new]
theorem get_app {a : Nat} {o : O} {T : Store} (h : S[a]? = some o) : (S ++ T)[a]? = some o := by
  rw [List.getElem?_append_left (List.getElem?_eq_some_iff.mp h).1, h]
theorem beqN {a b : Nat} : (((a : Nat) : Int) == ((b : Nat) : Int)) = decide (a = b) := by
  rw [Bool.eq_iff_iff]
  simp only [beq_iff_eq, decide_eq_true_eq]
  omega
theorem eq_fz_nil : eqD S (.fz []) (.fz []) = some true := rfl
end
end Mi
namespace Mi
section
variable {S : Store} {pr : Prog} {Q : D → Store → Prop}
theorem res_of {α : Type} {e : α → D} {x : D} {l : List α} {m : Nat} (h : asL S x = some (l.map e)) (he : ∀ a ∈ l, res S m (e a) = some (e a)) : res S (m + 1) x = some (.fz (l.map e)) := by
  have key : mapO (res S m) (l.map e) = some (l.map e) := by
    clear h
    induction l with
    | nil => rfl
    | cons a l ih =>
      simp only [List.map_cons, mapO, he a (.head _), ih fun b hb => he b (.tail _ hb)]
  cases x with
  | fz ds =>
    simp only [asL] at h
    cases h
    simp only [res, key, Option.map_some]
  | ref a =>
    simp only [asL] at h
    split at h
    · rename_i ds hd
      cases h
      simp only [res, hd, key, Option.map_some]
    · cases h
  | _ => cases h
theorem eqPs_map {α : Type} [DecidableEq α] {e : α → D} (he : ∀ a b, eqP (e a) (e b) = decide (a = b)) : ∀ l m : List α, eqPs (l.map e) (m.map e) = decide (l = m)
  | [], [] => rfl
  | [], b :: m => rfl
  | a :: l, [] => rfl
  | a :: l, b :: m => by
    simp only [List.map_cons, eqPs, he, eqPs_map he l m]
    rw [Bool.eq_iff_iff]
    simp
theorem eq_lists {α : Type} [DecidableEq α] {e : α → D} {x y : D} {l m : List α} (h : asL S x = some (l.map e)) (h2 : asL S y = some (m.map e)) (hr : ∀ a, res S 59 (e a) = some (e a)) (he : ∀ a b, eqP (e a) (e b) = decide (a = b)) : eqD S x y = some (decide (l = m)) := by
  unfold eqD
  rw [show deep = 59 + 1 from rfl, res_of h fun a _ => hr a, res_of h2 fun a _ => hr a]
  simp only [eqP, eqPs_map he]
theorem eq_lists2 {α β : Type} [DecidableEq α] [DecidableEq β] {e : α → D} {e2 : β → D} {x y u v : D} {l m : List α} {l2 m2 : List β} (h : asL S x = some (l.map e)) (h2 : asL S u = some (m.map e)) (h3 : asL S y = some (l2.map e2)) (h4 : asL S v = some (m2.map e2)) (hr : ∀ a, res S 58 (e a) = some (e a)) (he : ∀ a b, eqP (e a) (e b) = decide (a = b)) (hr2 : ∀ a, res S 58 (e2 a) = some (e2 a)) (he2 : ∀ a b, eqP (e2 a) (e2 b) = decide (a = b)) : eqD S (.fz [x, y]) (.fz [u, v]) = some (decide (l = m) && decide (l2 = m2)) := by
  unfold eqD
  rw [show deep = 59 + 1 from rfl]
  have r1 : ∀ a b : D, res S (59 + 1) (.fz [a, b]) = (mapO (res S 59) [a, b]).map .fz := fun a b => rfl
  rw [r1, r1]
  simp only [mapO]
  rw [show (59 : Nat) = 58 + 1 from rfl, res_of h fun a _ => hr a, res_of h2 fun a _ => hr a, res_of h3 fun a _ => hr2 a, res_of h4 fun a _ => hr2 a]
  simp only [Option.map_some, eqP, eqPs, eqPs_map he, eqPs_map he2, Bool.and_true]
theorem asR_of {x : D} {ds : List D} (h : asL S x = some ds) : asR S x = some ds := by
  unfold asR
  split
  · simp [asL] at h
  · exact h
theorem cut_map {α : Type} {e : α → D} {l : List α} {lo hi : Option Int} : cut (l.map e) lo hi = ((l.drop (HT.sIx l.length 0 lo)).take (HT.sIx l.length l.length hi - HT.sIx l.length 0 lo)).map e := by
  simp only [cut, List.length_map, List.map_take, List.map_drop]
end
end Mi
namespace Mi
section
variable {S : Store} {pr : Prog} {Q : D → Store → Prop} {m : Bool} {ds es : List D}
theorem gz_slcH {j : Int} : Go (opD pr (.slc m false true) [.fz ds, .int j]) S Q ↔ Go (newL m (cut ds none (some j))) S Q := g_slcH rfl
theorem gz_slcL {j : Int} : Go (opD pr (.slc m true false) [.fz ds, .int j]) S Q ↔ Go (newL m (cut ds (some j) none)) S Q := g_slcL rfl
theorem gz_rev : Go (opD pr (.rev m) [.fz ds]) S Q ↔ Go (newL m ds.reverse) S Q := g_rev rfl
theorem gz_list : Go (opD pr (.list m) [.fz ds]) S Q ↔ Go (newL m ds) S Q := g_list rfl
theorem gz_cat : Go (opD pr (.add m) [.fz ds, .fz es]) S Q ↔ ds.length + es.length ≤ line ∧ Go (newL m (ds ++ es)) S Q := by
  by_cases h : ds.length + es.length ≤ line
  · rw [g_cat rfl rfl h]; simp only [h, true_and]
  · have e : opD pr (.add m) [.fz ds, .fz es] S = .stuck := by
      show (if smalls (ds.length + es.length) then newL m (ds ++ es) S else R.stuck) = _
      exact if_neg fun q => h (small_iff.mp q)
    rw [go_stk e]; simp only [h, false_and]
theorem gz_walkS {P : Walk → Store → Prop} : Go (walkS (.fz ds)) S P ↔ P ⟨ds, stays (.fz ds) ds⟩ S := go_walkS rfl
theorem gz_walkE {P : Walk → Store → Prop} : Go (walkE (.fz ds)) S P ↔ P ⟨enumD 0 ds, stays (.fz ds) ds⟩ S := go_walkE rfl
end
end Mi
namespace Mi
section
variable {S : Store} {pr : Prog} {Q : D → Store → Prop}
theorem get_mid {o : O} {T : Store} : (S ++ o :: T)[S.length]? = some o := by simp
theorem set_mid {o o' : O} {T : Store} : (S ++ o :: T).set S.length o' = S ++ o' :: T := by simp
theorem set_ge {a : Nat} {o : O} {T : Store} (h : S.length ≤ a) : (S ++ T).set a o = S ++ T.set (a - S.length) o := List.set_append_right _ _ h
theorem go_setIx {a : Nat} {ds : List D} {k : Int} {d : D} {P : Unit → Store → Prop} (h : S[a]? = some (.lst ds)) (h0 : 0 ≤ k) (h1 : k < ds.length) : Go (setIx (.ref a) (.int k) d) S P ↔ P () (S.set a (.lst (ds.set k.toNat d))) := go_eq (by
  simp only [setIx, h, L2.ixN, h0, h1, if_true])
theorem go_getIx {x : D} {ds : List D} {k : Int} (h : asL S x = some ds) : Go (getIx x (.int k)) S Q ↔ ∃ d, L2.atI ds k = some d ∧ Q d S := by
  have e : getIx x (.int k) S = opt (L2.atI ds k) S := by simp only [getIx, h]
  rw [← go_opt]
  unfold Go
  rw [e]
theorem g_augA {m : Bool} {i j : Int} : Go (augD (.add m) (.int i) (.int j)) S Q ↔ Q (.int (i + j)) S := go_eq rfl
theorem g_augS {i j : Int} : Go (augD .sub (.int i) (.int j)) S Q ↔ Q (.int (i - j)) S := go_eq rfl
theorem atN {α : Type} {l : List α} {k : Nat} : L2.atI l (k : Int) = l[k]? := by
  by_cases h : k < l.length
  · rw [at_of (by omega) (by omega)]; simp
  · simp only [L2.atI, L2.ixN]
    rw [if_pos (by omega), if_neg (by omega)]
    simp only [Option.bind]
    rw [List.getElem?_eq_none (by omega)]
theorem g_mulL {m : Bool} {x : D} {ds : List D} {k : Nat} (h : asL S x = some ds) (hk : k ≤ 1000) (hl : ds.length ≤ 100) : Go (opD pr (.mul m) [x, .int k]) S Q ↔ Go (newL m (List.replicate k ds).flatten) S Q := by
  have e : opD pr (.mul m) [x, .int k] S = newL m (List.replicate k ds).flatten S := by
    have key : (match asL S x with
      | some xs => if -big < 2 * (k : Int) ∧ 2 * (k : Int) < big ∧ smalls (xs.length * (k : Int).toNat) then newL m (List.replicate (k : Int).toNat xs).flatten S else .stuck
      | none => R.stuck) = newL m (List.replicate k ds).flatten S := by
      rw [h]
      simp only [Int.toNat_natCast]
      refine if_pos ⟨?_, ?_, small_iff.mpr ?_⟩
      · simp only [big]; omega
      · simp only [big]; omega
      · have : ds.length * k ≤ 100 * 1000 := Nat.mul_le_mul hl hk
        simp only [line]; omega
    cases x with
    | fz a => exact key
    | ref a => exact key
    | _ => cases h
  unfold Go
  rw [e]
theorem rep1 {d : D} : ∀ k : Nat, (List.replicate k [d]).flatten = List.replicate k d
  | 0 => rfl
  | k + 1 => by simp [List.replicate_succ, rep1 k]
theorem getD_some {α : Type} {l : List α} {k : Nat} {d : α} (h : k < l.length) : l[k]? = some (l.getD k d) := by
  simp [List.getD, h]
theorem bd_nm {i : Nat} {d : D} {ρ : Env} : bindT (.nm i) d ρ = some (ρ.set i (some d)) := by rw [bindT]
theorem bd_tp {ts : Ts} {ds : List D} {ρ : Env} : bindT (.tp ts) (.tup ds) ρ = bindT.bindTs ts ds ρ := by rw [bindT]
theorem bd_tpL {ts : Ts} {ds : List D} {ρ : Env} : bindT (.tp ts) (.fz ds) ρ = bindT.bindTs ts ds ρ := by rw [bindT]
theorem bds_nil {ρ : Env} : bindT.bindTs .nil [] ρ = some ρ := by rw [bindT.bindTs]
theorem bds_nm {i : Nat} {d : D} {ts : Ts} {ds : List D} {ρ : Env} : bindT.bindTs (.cons (.nm i) ts) (d :: ds) ρ = bindT.bindTs ts ds (ρ.set i (some d)) := by
  rw [bindT.bindTs]
  simp only [bd_nm]
theorem bds_tp {us ts : Ts} {es ds : List D} {ρ : Env} : bindT.bindTs (.cons (.tp us) ts) (.tup es :: ds) ρ = (bindT.bindTs us es ρ).bind fun ρ' => bindT.bindTs ts ds ρ' := by
  rw [bindT.bindTs]
  simp only [bd_tp]
  cases bindT.bindTs us es ρ <;> rfl
theorem get_mid2 {o o2 : O} {T : Store} : (S ++ o :: o2 :: T)[S.length + 1]? = some o2 := by
  rw [List.getElem?_append_right (by omega)]
  simp
end
def Grow (S S' : Store) : Prop := ∃ T, S' = S ++ T
theorem Grow.refl {S : Store} : Grow S S := ⟨[], by simp⟩
theorem Grow.app {S S' T : Store} (h : Grow S S') : Grow S (S' ++ T) := by
  obtain ⟨U, rfl⟩ := h
  exact ⟨U ++ T, by simp⟩
theorem Grow.trans {S S' S2 : Store} (h : Grow S S') (h2 : Grow S' S2) : Grow S S2 := by
  obtain ⟨T, rfl⟩ := h2
  exact h.app
theorem Grow.asL {S S' : Store} {x : D} {ds : List D} (g : Grow S S') (h : asL S x = some ds) : Mi.asL S' x = some ds := by
  obtain ⟨T, rfl⟩ := g
  exact asL_app h
theorem Grow.get {S S' : Store} {a : Nat} {o : O} (g : Grow S S') (h : S[a]? = some o) : S'[a]? = some o := by
  obtain ⟨T, rfl⟩ := g
  exact get_app h
theorem Grow.set {S S' : Store} {a : Nat} {o : O} (g : Grow S S') (h : S.length ≤ a) : Grow S (S'.set a o) := by
  obtain ⟨T, rfl⟩ := g
  rw [set_ge h]
  exact ⟨_, rfl⟩
theorem Grow.len {S S' : Store} (g : Grow S S') : S.length ≤ S'.length := by
  obtain ⟨T, rfl⟩ := g
  simp
theorem cut_to {l : List D} {k : Nat} : cut l none (some (k : Int)) = l.take k := by
  unfold cut
  rw [HT.sIx_nat, HT.sIx_none, List.drop_zero, Nat.sub_zero, ← List.take_eq_take_min]
theorem cut_from {l : List D} {k : Nat} : cut l (some (k : Int)) none = l.drop k := by
  unfold cut
  rw [HT.sIx_nat, HT.sIx_none]
  by_cases h : k ≤ l.length
  · rw [Nat.min_eq_left h, List.take_of_length_le (by simp)]
  · rw [Nat.min_eq_right (by omega), List.drop_of_length_le (Nat.le_refl _), List.drop_of_length_le (by omega)]; simp
theorem cut_last {l : List D} (h : l ≠ []) : cut l none (some (-1)) = l.dropLast := by
  unfold cut
  rw [HT.sIx_none, List.drop_zero, Nat.sub_zero, List.dropLast_eq_take]
  congr 1
  simp only [HT.sIx]
  rw [if_pos (by decide)]
  have : 0 < l.length := List.length_pos_iff.mpr h
  omega
theorem meth_ex {S : Store} {pr : Prog} {a m c f : Nat} {fs : List (Nat × D)} {P : Nat → Nat → Prop} (h : S[a]? = some (.ins c fs)) (hm : pr.meth c m = some f) (hl : lookN m fs = none) :
    (∃ a' c fs f, D.ref a = D.ref a' ∧ S[a']? = some (.ins c fs) ∧ pr.meth c m = some f ∧ lookN m fs = none ∧ P a' f) ↔ P a f := by
  constructor
  · rintro ⟨a', c', fs', f', e, h', hm', _, p⟩
    cases e
    rw [h] at h'; cases h'
    rw [hm] at hm'; cases hm'
    exact p
  · intro p; exact ⟨a, c, fs, f, rfl, h, hm, hl, p⟩
theorem is_run1 {pr : Prog} {S : Store} {fu n f : Nat} {ds : List D} {d : FDef} {e : D} (h : pr.fns[f]? = some d) (hl : ds.length = d.np) (hp : d.pure = 1)
    (hb : ∀ S0 : Store, (S0 = S ∨ (S0 = [] ∧ D.plains ds = true)) → Go (exSs ⟨run pr fu n, fu, pr⟩ d.body (startE d.nl ds)) S0 fun o S' => Go (fin o) S' fun d S'' => Grow S0 S'' ∧ frz S'' S0.length deep d = some e) : Is (run pr fu (n + 1) f ds) S e := by
  rw [is_iff]
  by_cases hc : D.plains ds = true
  · rw [go_runC h hl hp hc]
    refine (hb [] (.inr ⟨rfl, hc⟩)).mono fun o S' q => q.mono fun a S2 q => ?_
    exact ⟨e, q.2, rfl, rfl⟩
  · rw [go_run h hl (by rw [hp]; simp [hc])]
    refine (hb S (.inl rfl)).mono fun o S' q => q.mono fun a S2 q => ?_
    rw [hp]
    exact ⟨q.1.choose, e, q.1.choose_spec, q.2, rfl, rfl⟩
theorem asL_or {S S0 : Store} {x : D} {ds : List D} {l : List D} (hx : asL S x = some l) (hm : x ∈ ds) (h : S0 = S ∨ (S0 = [] ∧ D.plains ds = true)) : asL S0 x = some l := by
  rcases h with rfl | ⟨rfl, hp⟩
  · exact hx
  · cases x with
    | fz ds => exact hx
    | ref a =>
      exfalso
      clear hx
      induction ds with
      | nil => cases hm
      | cons d ds ih =>
        simp only [D.plains, Bool.and_eq_true] at hp
        rcases List.mem_cons.mp hm with rfl | q
        · simp [D.plain] at hp
        · exact ih hp.2 q
    | _ => cases hx
theorem frz_flat {S : Store} {k : Nat} {d : D} (h : D.flat d = true) : frz S k deep d = some d := by
  cases d <;> simp [D.flat] at h <;> rfl
theorem g_min1 {S : Store} {pr : Prog} {Q : D → Store → Prop} {l : List Int} (h : l ≠ []) : Go (opD pr .min1 [.fz (l.map .int)]) S Q ↔ Q (.int (minL l)) S := by
  cases l with
  | nil => exact absurd rfl h
  | cons a l =>
    have e : mapO asI ((a :: l).map D.int) = some (a :: l) := by
      have := mapO_mapG (f := asI) (e := D.int) (g := fun i => i) (fun _ => rfl) (a :: l)
      rwa [List.map_id'] at this
    refine go_eq ?_
    show (match (asL S (.fz ((a :: l).map D.int))).bind intsO with
      | some (n :: ns) => R.ok (D.int (minL (n :: ns))) S
      | _ => .stuck) = _
    simp only [asL, Option.bind_some, intsO, e]
theorem g_max1 {S : Store} {pr : Prog} {Q : D → Store → Prop} {l : List Int} (h : l ≠ []) : Go (opD pr .max1 [.fz (l.map .int)]) S Q ↔ Q (.int (maxL l)) S := by
  cases l with
  | nil => exact absurd rfl h
  | cons a l =>
    have e : mapO asI ((a :: l).map D.int) = some (a :: l) := by
      have := mapO_mapG (f := asI) (e := D.int) (g := fun i => i) (fun _ => rfl) (a :: l)
      rwa [List.map_id'] at this
    refine go_eq ?_
    show (match (asL S (.fz ((a :: l).map D.int))).bind intsO with
      | some (n :: ns) => R.ok (D.int (maxL (n :: ns))) S
      | _ => .stuck) = _
    simp only [asL, Option.bind_some, intsO, e]
theorem intsO_map (l : List Int) : intsO (l.map D.int) = some l := by
  have := mapO_mapG (f := asI) (e := D.int) (g := fun i => i) (fun _ => rfl) l
  rwa [List.map_id'] at this
theorem g_lensetI {S : Store} {pr : Prog} {Q : D → Store → Prop} {l : List Int} (h : l.length < 1000) : Go (opD pr .lenset [.fz (l.map .int)]) S Q ↔ Q (.int (nubI l).length) S := go_eq (by
  show (match intsO (l.map D.int) with
      | some ns => if ns.length < 1000 then R.ok (D.int (nubI ns).length) S else .stuck
      | none => match mapO tupI (l.map D.int) with
        | some ts => if ts.length < 64 then R.ok (D.int (nubT ts).length) S else .stuck
        | none => .stuck) = _
  simp only [intsO_map, if_pos h])
theorem go_walkZ {S : Store} {x y : D} {xs ys : List D} {Q : Walk → Store → Prop} (h : asL S x = some xs) (h2 : asL S y = some ys) : Go (walkZ x y) S Q ↔ Q ⟨zipD xs ys, fun S' => stays x xs S' && stays y ys S'⟩ S := go_eq (by simp only [walkZ, h, h2])
theorem g_any {S : Store} {pr : Prog} {x : D} {ds : List D} {bs : List Bool} {Q : D → Store → Prop} (h : asL S x = some ds) (hb : boolsO ds = some bs) : Go (opD pr .any [x]) S Q ↔ Q (.bl (bs.any id)) S := go_eq (by
  show (match (asL S x).bind boolsO with | some bs => R.ok (D.bl (bs.any id)) S | none => R.stuck) = _
  rw [h]
  show (match boolsO ds with | some bs => R.ok (D.bl (bs.any id)) S | none => R.stuck) = _
  rw [hb])
theorem ev_ch3 {C : Cf} {ρ : Env} {o p q : Op} {a b c d : E} : evE C (.ch3 o p q a b c d) ρ = bnd (evE C a ρ) fun x => bnd (evE C b ρ) fun y => bnd (opD C.pr o [x, y]) fun r => bnd (opt (asB r)) fun t =>
    if t then bnd (evE C c ρ) fun z => bnd (opD C.pr p [y, z]) fun r2 => bnd (opt (asB r2)) fun t2 => if t2 then bnd (evE C d ρ) fun w => opD C.pr q [z, w] else ret (.bl false) else ret (.bl false) := by rw [evE]
theorem g_eqL {S : Store} {pr : Prog} {Q : D → Store → Prop} {x y : D} {l m : List Int} (h : asL S x = some (l.map .int)) (h2 : asL S y = some (m.map .int)) : Go (opD pr .eq [x, y]) S Q ↔ Q (.bl (decide (l = m))) S := g_eq (eq_lists h h2 (fun _ => rfl) (fun a b => rfl))
theorem g_neL {S : Store} {pr : Prog} {Q : D → Store → Prop} {x y : D} {l m : List Int} (h : asL S x = some (l.map .int)) (h2 : asL S y = some (m.map .int)) : Go (opD pr .ne [x, y]) S Q ↔ Q (.bl (!decide (l = m))) S := g_ne (eq_lists h h2 (fun _ => rfl) (fun a b => rfl))
end Mi
namespace Mi
theorem is_anyV {pr : Prog} {fu n f : Nat} {ds es : List D} {d : FDef} {e : D} (h : pr.fns[f]? = some d) (hl : ds.length = d.np) (hp : d.pure = 2) {S S2 : Store} (he : mapO (frz S 0 deep) ds = some es) (he2 : mapO (frz S2 0 deep) ds = some es) (g : Is (run pr fu (n + 1) f ds) S e) : Is (run pr fu (n + 1) f ds) S2 e := by
  rw [is_iff, go_runV h hl hp he] at g
  rw [is_iff, go_runV h hl hp he2]
  refine g.mono fun o S' q => q.mono fun a S3 q => ?_
  exact ⟨q.1, q.2.1, rfl⟩
def okB (r : R D) : Bool := match r with | .ok (.bl true) [] => true | _ => false
theorem okB_eq {r : R D} (h : okB r = true) : r = .ok (.bl true) [] := by
  unfold okB at h
  split at h
  · rfl
  · cases h
def eqs (k : Nat) : List Nat → Nat → List Nat
  | [], _ => []
  | x :: r, b => (if x == b then [k] else []) ++ eqs (k + 1) r b
theorem enum_map (bs : List Nat) (k : Nat) : enumD k (bs.map fun b => D.int (b : Nat)) = (bs.zipIdx k).map fun p => .tup [.int (p.2 : Nat), .int (p.1 : Nat)] := by
  induction bs generalizing k with
  | nil => rfl
  | cons b bs ih => simp only [List.map_cons, enumD, ih, List.zipIdx_cons]
theorem eqs_enum (b : Nat) : ∀ (bs : List Nat) (k : Nat), ((bs.zipIdx k).filter fun p => p.1 == b).map (·.2) = eqs k bs b
  | [], k => rfl
  | x :: r, k => by
    have ih := eqs_enum b r (k + 1)
    rw [List.zipIdx_cons]
    unfold eqs
    by_cases h : x == b
    · simp [h, ih]
    · simp [h, ih]
theorem eqs_range (b : Nat) : ∀ (bs pre : List Nat), ((List.range' pre.length bs.length).filter fun i => (pre ++ bs).getD i 0 == b) = eqs pre.length bs b
  | [], pre => rfl
  | x :: r, pre => by
    have ih := eqs_range b r (pre ++ [x])
    simp only [List.length_append, List.length_cons, List.length_nil, Nat.zero_add, List.append_assoc, List.cons_append, List.nil_append] at ih
    rw [List.length_cons, List.range'_succ]
    unfold eqs
    rw [List.filter_cons, ih]
    have e : (pre ++ x :: r).getD pre.length 0 = x := by simp [List.getD]
    rw [e]
    by_cases h : x == b <;> simp [h]
theorem eqs_lt (b : Nat) : ∀ (bs : List Nat) (k : Nat), ∀ i ∈ eqs k bs b, i < k + bs.length
  | [], k, i, h => by simp [eqs] at h
  | x :: r, k, i, h => by
    unfold eqs at h
    rcases List.mem_append.mp h with q | q
    · split at q
      · simp at q; simp; omega
      · cases q
    · have := eqs_lt b r (k + 1) i q
      simp; omega
theorem eqs_len (b : Nat) : ∀ (bs : List Nat) (k : Nat), (eqs k bs b).length ≤ bs.length
  | [], k => by simp [eqs]
  | x :: r, k => by
    have := eqs_len b r (k + 1)
    unfold eqs
    split <;> simp <;> omega
end Mi
namespace Mi
theorem ev_mxk {C : Cf} {ρ : Env} {b : Bool} {a i : Nat} {m : Int} {e : E} : evE C (.mxk b a i m e) ρ = bnd (evE C e ρ) fun d => bnd (opt (ρ[a]?.join)) fun va => mxkD b m d va := by rw [evE]
end Mi
namespace Mi
theorem g_at {S : Store} {pr : Prog} {Q : D → Store → Prop} {a k c : Nat} {fs : List (Nat × D)} {d : D} (h : S[a]? = some (.ins c fs)) (hf : pr.hasF c k = true) (hl : lookN k fs = some d) : Go (opD pr (.attr k) [.ref a]) S Q ↔ Q d S := by
  rw [g_attr h]
  constructor
  · rintro ⟨_, e, h2, q⟩
    rw [hl] at h2; cases h2; exact q
  · intro q; exact ⟨hf, d, hl, q⟩
end Mi
namespace Mi
theorem go_whl {c : Env → M Bool} {body : Env → M Out} {Q : Out → Store → Prop} (I : Nat → Env → Store → Prop)
    (step : ∀ m ρ S, I m ρ S → Go (c ρ) S fun t S1 => if t then Go (body ρ) S1 fun o S2 => match o with
      | .nx ρ2 => ∃ m' < m, I m' ρ2 S2
      | .bk ρ2 => Q (.nx ρ2) S2
      | .rt d => Q (.rt d) S2 else Q (.nx ρ) S1) : ∀ (fu m : Nat) (ρ : Env) (S : Store), m < fu → I m ρ S → Go (whlL c body fu ρ) S Q := by
  intro fu
  induction fu with
  | zero => intro m ρ S h; exact absurd h (Nat.not_lt_zero _)
  | succ fu ih =>
    intro m ρ S h i
    obtain ⟨t, S1, e, q⟩ := step m ρ S i
    cases t with
    | false => exact ⟨.nx ρ, S1, by simp [whlL, bnd, e, ret], by simpa using q⟩
    | true =>
      simp only [if_true] at q
      obtain ⟨o, S2, e2, q2⟩ := q
      cases o with
      | nx ρ2 =>
        obtain ⟨m', hm, i2⟩ := q2
        obtain ⟨o, S3, e3, q3⟩ := ih m' ρ2 S2 (by omega) i2
        exact ⟨o, S3, by simp [whlL, bnd, e, e2, e3, ret], q3⟩
      | bk ρ2 => exact ⟨.nx ρ2, S2, by simp [whlL, bnd, e, e2, ret], q2⟩
      | rt d => exact ⟨.rt d, S2, by simp [whlL, bnd, e, e2, ret], q2⟩
end Mi
namespace Mi
theorem ev_callv {C : Cf} {ρ : Env} {i : Nat} {es : Es} : evE C (.callv i es) ρ = bnd (opt (ρ[i]?.join)) fun f => match f with
    | .fn f => bnd (evEs C es ρ) fun ds => C.Φ f ds
    | .lam f => bnd (evEs C es ρ) fun ds => noX (C.Φ f ds)
    | _ => stk := by
  first
  | (rw [evE]; done)
  | (rw [evE]; rfl)
end Mi
namespace Mi
def Xc {α : Type} (m : M α) (S : Store) (c : Nat) (Q : Store → Prop) : Prop := ∃ S', m S = .exc c S' ∧ Q S'
section
variable {α β : Type} {S : Store} {c : Nat} {Q : Store → Prop} {C : Cf} {ρ : Env}
theorem Xc.mono {m : M α} {Q' : Store → Prop} (h : Xc m S c Q) (k : ∀ S', Q S' → Q' S') : Xc m S c Q' := by
  obtain ⟨S', e, q⟩ := h
  exact ⟨S', e, k _ q⟩
theorem xc_bnd1 {m : M α} {f : α → M β} (h : Xc m S c Q) : Xc (bnd m f) S c Q := by
  obtain ⟨S', e, q⟩ := h
  exact ⟨S', by simp only [bnd, e], q⟩
theorem xc_bnd2 {m : M α} {f : α → M β} (h : Go m S fun a S1 => Xc (f a) S1 c Q) : Xc (bnd m f) S c Q := by
  obtain ⟨a, S1, e, S', e2, q⟩ := h
  exact ⟨S', by simp only [bnd, e, e2], q⟩
theorem xc_nx {s : St} {ss : Sts} (h : Go (exS C s ρ) S fun o S1 => match o with | .nx ρ' => Xc (exSs C ss ρ') S1 c Q | _ => False) : Xc (exSs C (.cons s ss) ρ) S c Q := by
  obtain ⟨o, S1, e, q⟩ := h
  cases o with
  | nx ρ' =>
    obtain ⟨S', e2, q⟩ := q
    exact ⟨S', by rw [exSs]; simp only [bnd, e, e2], q⟩
  | bk _ => exact q.elim
  | rt _ => exact q.elim
theorem xc_here {s : St} {ss : Sts} (h : Xc (exS C s ρ) S c Q) : Xc (exSs C (.cons s ss) ρ) S c Q := by
  obtain ⟨S', e, q⟩ := h
  exact ⟨S', by rw [exSs]; simp only [bnd, e], q⟩
theorem xc_ite {e : E} {a b : Sts} (h : Go (tst (evE C e ρ)) S fun t S1 => if t then Xc (exSs C a ρ) S1 c Q else Xc (exSs C b ρ) S1 c Q) : Xc (exS C (.ite e a b) ρ) S c Q := by
  rw [exS]
  refine xc_bnd2 (h.mono fun t S1 q => ?_)
  cases t <;> simpa using q
theorem xc_raise {k : Nat} (h : C.pr.raises k = true) (q : Q S) : Xc (exS C (.raise k) ρ) S k Q := ⟨S, by rw [exS]; simp only [h, if_true], q⟩
theorem xc_expr {e : E} (h : Xc (evE C e ρ) S c Q) : Xc (exS C (.expr e) ρ) S c Q := by
  rw [exS]; exact xc_bnd1 h
theorem xc_call {f : Nat} {es : Es} (h : Go (evEs C es ρ) S fun ds S1 => Xc (C.Φ f ds) S1 c Q) : Xc (evE C (.call f es) ρ) S c Q := by
  rw [ev_call]; exact xc_bnd2 h
theorem xc_callv {i f : Nat} {es : Es} (hi : ρ[i]?.join = some (.fn f)) (h : Go (evEs C es ρ) S fun ds S1 => Xc (C.Φ f ds) S1 c Q) : Xc (evE C (.callv i es) ρ) S c Q := by
  rw [ev_callv, hi]
  refine xc_bnd2 (go_some.mpr ?_)
  exact xc_bnd2 h
theorem xc_meth {o : E} {m : Nat} {es : Es} (h : Go (evE C o ρ) S fun x S1 => ∃ a k fs f, x = .ref a ∧ S1[a]? = some (.ins k fs) ∧ C.pr.meth k m = some f ∧ lookN m fs = none ∧ Go (evEs C es ρ) S1 fun ds S2 => Xc (C.Φ f (.ref a :: ds)) S2 c Q) : Xc (evE C (.meth o m es) ρ) S c Q := by
  obtain ⟨x, S1, e1, a, k, fs, f, rfl, h1, h2, h3, ds, S2, e2, S', e3, q⟩ := h
  refine ⟨S', ?_, q⟩
  rw [evE]
  simp only [bnd, e1, h1, h2, h3, e2, e3]
theorem xc_mk {k f : Nat} {d : CDef} {es : Es} (hc : C.pr.cls[k]? = some d) (hi : d.init = some f) (h : Go (evEs C es ρ) S fun ds S1 => Xc (C.Φ f (.ref S1.length :: ds)) (S1 ++ [.ins k []]) c Q) : Xc (evE C (.mk k es) ρ) S c Q := by
  obtain ⟨ds, S1, e1, S', e2, q⟩ := h
  refine ⟨S', ?_, q⟩
  rw [evE]
  simp only [hc, hi, bnd, e1, e2]
theorem xc_run0 {pr : Prog} {fu n f : Nat} {ds : List D} {d : FDef} (h : pr.fns[f]? = some d) (hl : ds.length = d.np) (hp : d.pure = 0) (hb : Xc (exSs ⟨run pr fu n, fu, pr⟩ d.body (startE d.nl ds)) S c Q) : Xc (run pr fu (n + 1) f ds) S c Q := by
  rw [run_eq h hl, hp]
  exact xc_bnd1 hb
theorem xc_runV {pr : Prog} {fu n f : Nat} {ds es : List D} {d : FDef} (h : pr.fns[f]? = some d) (hl : ds.length = d.np) (hp : d.pure = 2) (he : mapO (frz S 0 deep) ds = some es) (hb : Xc (exSs ⟨run pr fu n, fu, pr⟩ d.body (startE d.nl es)) [] c fun _ => Q S) : Xc (run pr fu (n + 1) f ds) S c Q := by
  rw [run_eq h hl, hp]
  obtain ⟨S', e, q⟩ := hb
  refine ⟨S, ?_, q⟩
  show (match mapO (frz S 0 deep) ds with
    | some es => match bnd (exSs ⟨run pr fu n, fu, pr⟩ d.body (startE d.nl es)) fin [] with
      | .ok d _ => if D.flat d then R.ok d S else .stuck
      | .exc c _ => .exc c S
      | .stuck => .stuck
    | none => .stuck) = _
  rw [he]
  simp only [bnd, e]
theorem xc_runC {pr : Prog} {fu n f : Nat} {ds : List D} {d : FDef} (h : pr.fns[f]? = some d) (hl : ds.length = d.np) (hp : d.pure = 1) (hc : D.plains ds = true) (hb : Xc (exSs ⟨run pr fu n, fu, pr⟩ d.body (startE d.nl ds)) [] c fun _ => Q S) : Xc (run pr fu (n + 1) f ds) S c Q := by
  rw [run_eq h hl, hp]
  obtain ⟨S', e, q⟩ := hb
  refine ⟨S, ?_, q⟩
  simp only [shutB, hc, if_true]
  show (match bnd (exSs ⟨run pr fu n, fu, pr⟩ d.body (startE d.nl ds)) fin [] with
    | .ok d S' => match frz S' 0 deep d with
      | some e => R.ok e S
      | none => .stuck
    | .exc c _ => .exc c S
    | .stuck => .stuck) = _
  simp only [bnd, e]
theorem go_askX {g k : Nat} {e : E} {d : D} {P : D → Store → Prop} (h : Xc (evE C e ρ) S k fun S' => P d S') (hv : C.pr.askV g (some k) = some d) : Go (evE C (.ask g e) ρ) S P := by
  obtain ⟨S', e1, q⟩ := h
  refine ⟨d, S', ?_, q⟩
  rw [evE]
  simp only [e1, hv, opt, ret]
theorem go_askO {g : Nat} {e : E} {d : D} {P : D → Store → Prop} (h : Go (evE C e ρ) S fun _ S' => P d S') (hv : C.pr.askV g none = some d) : Go (evE C (.ask g e) ρ) S P := by
  obtain ⟨x, S', e1, q⟩ := h
  refine ⟨d, S', ?_, q⟩
  rw [evE]
  simp only [e1, hv, opt, ret]
end
end Mi
namespace Mi
section
variable {S : Store} {pr : Prog} {Q : D → Store → Prop} {C : Cf} {ρ : Env}
theorem go_lq {p : Op} {o : E} {es : Es} : Go (evE C (.lq p o es) ρ) S Q ↔ Go (evE C o ρ) S fun x S1 => ∃ zs, asL S1 x = some zs ∧ Go (evEs C es ρ) S1 fun ys S2 => Go (opD C.pr p (x :: ys)) S2 Q := by
  rw [evE, go_bnd]
  have e : ∀ (x : D) (S1 : Store), Go (fun S => match asL S x with
    | some _ => bnd (evEs C es ρ) (fun ds => opD C.pr p (x :: ds)) S
    | none => .stuck) S1 Q ↔ ∃ zs, asL S1 x = some zs ∧ Go (evEs C es ρ) S1 fun ys S2 => Go (opD C.pr p (x :: ys)) S2 Q := fun x S1 => by
    constructor
    · rintro ⟨d, S2, h, q⟩
      dsimp only at h
      split at h
      · rename_i zs hz
        refine ⟨zs, hz, ?_⟩
        rw [← go_bnd]
        exact ⟨d, S2, h, q⟩
      · cases h
    · rintro ⟨zs, hz, g⟩
      rw [← go_bnd] at g
      obtain ⟨d, S2, h, q⟩ := g
      exact ⟨d, S2, by simp only [hz]; exact h, q⟩
  exact ⟨fun h => h.mono fun x S1 q => (e x S1).mp q, fun h => h.mono fun x S1 q => (e x S1).mpr q⟩
theorem g_index {x y q : D} {ds ps : List D} {j : Nat} (h : asL S x = some ds) (h1 : res S deep y = some q) (h2 : mapO (res S deep) ds = some ps) (h3 : firstN (fun p => eqP p q) ps = some j) : Go (opD pr .index [x, y]) S Q ↔ Q (.int (j : Nat)) S := go_eq (by
  show (match asL S x, res S deep y with
    | some ds, some q => match mapO (res S deep) ds with
      | some ps => match firstN (fun p => eqP p q) ps with
        | some j => R.ok (D.int (j : Nat)) S
        | none => .stuck
      | none => .stuck
    | _, _ => .stuck) = _
  simp only [h, h1, h2, h3])
theorem g_count {x : D} {ds : List D} {ns : List Int} {k : Int} (h : asL S x = some ds) (h1 : intsO ds = some ns) : Go (opD pr .count [x, .int k]) S Q ↔ Q (.int (ns.count k : Nat)) S := go_eq (by
  show (match (asL S x).bind intsO, D.int k with
    | some ns, .int k => R.ok (D.int (ns.count k : Nat)) S
    | _, _ => .stuck) = _
  simp only [h, Option.bind_some, h1])
end
end Mi
namespace Mi
theorem go_askTX {C : Cf} {ρ : Env} {S : Store} {g k t : Nat} {e : E} {d : D} {P : D → Store → Prop} (h : Xc (evE C e ρ) S k fun S' => P d S') (hv : C.pr.askW g t (some k) = some d) : Go (evE C (.askT g e t) ρ) S P := by
  obtain ⟨S', e1, q⟩ := h
  refine ⟨d, S', ?_, q⟩
  rw [evE]
  simp only [e1, hv, opt, ret]
end Mi
namespace K15
open Mi
theorem q_raises_1 : pr.raises 1 = true := rfl
theorem q_raises_2 : pr.raises 2 = true := rfl
theorem q_raises_3 : pr.raises 3 = true := rfl
theorem q_raises_4 : pr.raises 4 = true := rfl
theorem q_raises_5 : pr.raises 5 = true := rfl
theorem q_raises_6 : pr.raises 6 = true := rfl
theorem q_raises_7 : pr.raises 7 = true := rfl
theorem q_raises_8 : pr.raises 8 = true := rfl
theorem q_raises_9 : pr.raises 9 = true := rfl
theorem q_asks_11 : pr.asks 11 = true := rfl
theorem q_makes_11 : pr.makes 11 = true := rfl
theorem q_sub_11_15 : pr.sub 11 15 = false := rfl
theorem q_sub_11_19 : pr.sub 11 19 = false := rfl
theorem q_sub_11_11 : pr.sub 11 11 = true := rfl
theorem q_sub_11_13 : pr.sub 11 13 = false := rfl
theorem q_meth_11_9 : pr.meth 11 9 = some 20 := rfl
theorem q_mt_11_9 {S : Store} {a : Nat} {P : Nat → Nat → Prop} (h : S[a]? = some (O.ins 11 [])) : (∃ a' c fs f, D.ref a = D.ref a' ∧ S[a']? = some (O.ins c fs) ∧ pr.meth c 9 = some f ∧ lookN 9 fs = none ∧ P a' f) ↔ P a 20 := meth_ex h rfl rfl
theorem q_mn_11_9 {S T : Store} {P : Nat → Nat → Prop} : (∃ a' c fs f, D.ref S.length = D.ref a' ∧ (S ++ O.ins 11 [] :: T)[a']? = some (O.ins c fs) ∧ pr.meth c 9 = some f ∧ lookN 9 fs = none ∧ P a' f) ↔ P S.length 20 := meth_ex get_mid rfl rfl
theorem q_mk_11 {fu n : Nat} {ρ : Env} {S : Store} {Q : D → Store → Prop} : Go (evE ⟨run pr fu n, fu, pr⟩ (.mk 11 .nil) ρ) S Q ↔ Q (.ref S.length) (S ++ [.ins 11 []]) := go_mk0 rfl rfl rfl
theorem q_makes_12 : pr.makes 12 = true := rfl
theorem q_sub_12_15 : pr.sub 12 15 = false := rfl
theorem q_sub_12_19 : pr.sub 12 19 = false := rfl
theorem q_sub_12_11 : pr.sub 12 11 = false := rfl
theorem q_sub_12_13 : pr.sub 12 13 = false := rfl
theorem q_has_12_11 : pr.hasF 12 11 = true := rfl
theorem q_has_12_12 : pr.hasF 12 12 = true := rfl
theorem q_meth_12_9 : pr.meth 12 9 = some 22 := rfl
theorem q_mt_12_9 {S : Store} {a : Nat} {d0 d1 : D} {P : Nat → Nat → Prop} (h : S[a]? = some (O.ins 12 [(12, d0), (11, d1)])) : (∃ a' c fs f, D.ref a = D.ref a' ∧ S[a']? = some (O.ins c fs) ∧ pr.meth c 9 = some f ∧ lookN 9 fs = none ∧ P a' f) ↔ P a 22 := meth_ex h rfl rfl
theorem q_mn_12_9 {S T : Store} {d0 d1 : D} {P : Nat → Nat → Prop} : (∃ a' c fs f, D.ref S.length = D.ref a' ∧ (S ++ O.ins 12 [(12, d0), (11, d1)] :: T)[a']? = some (O.ins c fs) ∧ pr.meth c 9 = some f ∧ lookN 9 fs = none ∧ P a' f) ↔ P S.length 22 := meth_ex get_mid rfl rfl
theorem q_mk_12 {fu n : Nat} {ρ : Env} {S : Store} {Q : D → Store → Prop} {es : Es} : Go (evE ⟨run pr fu n, fu, pr⟩ (.mk 12 es) ρ) S Q ↔ Go (evEs ⟨run pr fu n, fu, pr⟩ es ρ) S fun ds S1 => Go (run pr fu n 21 (.ref S1.length :: ds)) (S1 ++ [.ins 12 []]) fun r S2 => r = .non ∧ Q (.ref S1.length) S2 := go_mk1 rfl rfl
theorem q_asks_13 : pr.asks 13 = true := rfl
theorem q_makes_13 : pr.makes 13 = true := rfl
theorem q_sub_13_15 : pr.sub 13 15 = false := rfl
theorem q_sub_13_19 : pr.sub 13 19 = false := rfl
theorem q_sub_13_11 : pr.sub 13 11 = false := rfl
theorem q_sub_13_13 : pr.sub 13 13 = true := rfl
theorem q_has_13_1 : pr.hasF 13 1 = true := rfl
theorem q_meth_13_9 : pr.meth 13 9 = some 24 := rfl
theorem q_mt_13_9 {S : Store} {a : Nat} {d0 : D} {P : Nat → Nat → Prop} (h : S[a]? = some (O.ins 13 [(1, d0)])) : (∃ a' c fs f, D.ref a = D.ref a' ∧ S[a']? = some (O.ins c fs) ∧ pr.meth c 9 = some f ∧ lookN 9 fs = none ∧ P a' f) ↔ P a 24 := meth_ex h rfl rfl
theorem q_mn_13_9 {S T : Store} {d0 : D} {P : Nat → Nat → Prop} : (∃ a' c fs f, D.ref S.length = D.ref a' ∧ (S ++ O.ins 13 [(1, d0)] :: T)[a']? = some (O.ins c fs) ∧ pr.meth c 9 = some f ∧ lookN 9 fs = none ∧ P a' f) ↔ P S.length 24 := meth_ex get_mid rfl rfl
theorem q_mk_13 {fu n : Nat} {ρ : Env} {S : Store} {Q : D → Store → Prop} {es : Es} : Go (evE ⟨run pr fu n, fu, pr⟩ (.mk 13 es) ρ) S Q ↔ Go (evEs ⟨run pr fu n, fu, pr⟩ es ρ) S fun ds S1 => Go (run pr fu n 23 (.ref S1.length :: ds)) (S1 ++ [.ins 13 []]) fun r S2 => r = .non ∧ Q (.ref S1.length) S2 := go_mk1 rfl rfl
theorem q_makes_14 : pr.makes 14 = true := rfl
theorem q_sub_14_15 : pr.sub 14 15 = false := rfl
theorem q_sub_14_19 : pr.sub 14 19 = false := rfl
theorem q_sub_14_11 : pr.sub 14 11 = false := rfl
theorem q_sub_14_13 : pr.sub 14 13 = false := rfl
theorem q_has_14_0 : pr.hasF 14 0 = true := rfl
theorem q_has_14_3 : pr.hasF 14 3 = true := rfl
theorem q_has_14_4 : pr.hasF 14 4 = true := rfl
theorem q_has_14_6 : pr.hasF 14 6 = true := rfl
theorem q_has_14_7 : pr.hasF 14 7 = true := rfl
theorem q_meth_14_9 : pr.meth 14 9 = some 26 := rfl
theorem q_mt_14_9 {S : Store} {a : Nat} {d0 d1 d2 d3 d4 : D} {P : Nat → Nat → Prop} (h : S[a]? = some (O.ins 14 [(0, d0), (6, d1), (4, d2), (7, d3), (3, d4)])) : (∃ a' c fs f, D.ref a = D.ref a' ∧ S[a']? = some (O.ins c fs) ∧ pr.meth c 9 = some f ∧ lookN 9 fs = none ∧ P a' f) ↔ P a 26 := meth_ex h rfl rfl
theorem q_mn_14_9 {S T : Store} {d0 d1 d2 d3 d4 : D} {P : Nat → Nat → Prop} : (∃ a' c fs f, D.ref S.length = D.ref a' ∧ (S ++ O.ins 14 [(0, d0), (6, d1), (4, d2), (7, d3), (3, d4)] :: T)[a']? = some (O.ins c fs) ∧ pr.meth c 9 = some f ∧ lookN 9 fs = none ∧ P a' f) ↔ P S.length 26 := meth_ex get_mid rfl rfl
theorem q_mk_14 {fu n : Nat} {ρ : Env} {S : Store} {Q : D → Store → Prop} {es : Es} : Go (evE ⟨run pr fu n, fu, pr⟩ (.mk 14 es) ρ) S Q ↔ Go (evEs ⟨run pr fu n, fu, pr⟩ es ρ) S fun ds S1 => Go (run pr fu n 25 (.ref S1.length :: ds)) (S1 ++ [.ins 14 []]) fun r S2 => r = .non ∧ Q (.ref S1.length) S2 := go_mk1 rfl rfl
theorem q_asks_15 : pr.asks 15 = true := rfl
theorem q_makes_15 : pr.makes 15 = true := rfl
theorem q_sub_15_15 : pr.sub 15 15 = true := rfl
theorem q_sub_15_19 : pr.sub 15 19 = false := rfl
theorem q_sub_15_11 : pr.sub 15 11 = false := rfl
theorem q_sub_15_13 : pr.sub 15 13 = false := rfl
theorem q_has_15_1 : pr.hasF 15 1 = true := rfl
theorem q_meth_15_9 : pr.meth 15 9 = some 28 := rfl
theorem q_mt_15_9 {S : Store} {a : Nat} {d0 : D} {P : Nat → Nat → Prop} (h : S[a]? = some (O.ins 15 [(1, d0)])) : (∃ a' c fs f, D.ref a = D.ref a' ∧ S[a']? = some (O.ins c fs) ∧ pr.meth c 9 = some f ∧ lookN 9 fs = none ∧ P a' f) ↔ P a 28 := meth_ex h rfl rfl
theorem q_mn_15_9 {S T : Store} {d0 : D} {P : Nat → Nat → Prop} : (∃ a' c fs f, D.ref S.length = D.ref a' ∧ (S ++ O.ins 15 [(1, d0)] :: T)[a']? = some (O.ins c fs) ∧ pr.meth c 9 = some f ∧ lookN 9 fs = none ∧ P a' f) ↔ P S.length 28 := meth_ex get_mid rfl rfl
theorem q_mk_15 {fu n : Nat} {ρ : Env} {S : Store} {Q : D → Store → Prop} {es : Es} : Go (evE ⟨run pr fu n, fu, pr⟩ (.mk 15 es) ρ) S Q ↔ Go (evEs ⟨run pr fu n, fu, pr⟩ es ρ) S fun ds S1 => Go (run pr fu n 27 (.ref S1.length :: ds)) (S1 ++ [.ins 15 []]) fun r S2 => r = .non ∧ Q (.ref S1.length) S2 := go_mk1 rfl rfl
theorem q_makes_16 : pr.makes 16 = true := rfl
theorem q_sub_16_15 : pr.sub 16 15 = false := rfl
theorem q_sub_16_19 : pr.sub 16 19 = false := rfl
theorem q_sub_16_11 : pr.sub 16 11 = false := rfl
theorem q_sub_16_13 : pr.sub 16 13 = false := rfl
theorem q_has_16_10 : pr.hasF 16 10 = true := rfl
theorem q_meth_16_9 : pr.meth 16 9 = some 30 := rfl
theorem q_mt_16_9 {S : Store} {a : Nat} {d0 : D} {P : Nat → Nat → Prop} (h : S[a]? = some (O.ins 16 [(10, d0)])) : (∃ a' c fs f, D.ref a = D.ref a' ∧ S[a']? = some (O.ins c fs) ∧ pr.meth c 9 = some f ∧ lookN 9 fs = none ∧ P a' f) ↔ P a 30 := meth_ex h rfl rfl
theorem q_mn_16_9 {S T : Store} {d0 : D} {P : Nat → Nat → Prop} : (∃ a' c fs f, D.ref S.length = D.ref a' ∧ (S ++ O.ins 16 [(10, d0)] :: T)[a']? = some (O.ins c fs) ∧ pr.meth c 9 = some f ∧ lookN 9 fs = none ∧ P a' f) ↔ P S.length 30 := meth_ex get_mid rfl rfl
theorem q_mk_16 {fu n : Nat} {ρ : Env} {S : Store} {Q : D → Store → Prop} {es : Es} : Go (evE ⟨run pr fu n, fu, pr⟩ (.mk 16 es) ρ) S Q ↔ Go (evEs ⟨run pr fu n, fu, pr⟩ es ρ) S fun ds S1 => Go (run pr fu n 29 (.ref S1.length :: ds)) (S1 ++ [.ins 16 []]) fun r S2 => r = .non ∧ Q (.ref S1.length) S2 := go_mk1 rfl rfl
theorem q_makes_17 : pr.makes 17 = true := rfl
theorem q_sub_17_15 : pr.sub 17 15 = false := rfl
theorem q_sub_17_19 : pr.sub 17 19 = false := rfl
theorem q_sub_17_11 : pr.sub 17 11 = false := rfl
theorem q_sub_17_13 : pr.sub 17 13 = false := rfl
theorem q_has_17_2 : pr.hasF 17 2 = true := rfl
theorem q_meth_17_9 : pr.meth 17 9 = some 32 := rfl
theorem q_mt_17_9 {S : Store} {a : Nat} {d0 : D} {P : Nat → Nat → Prop} (h : S[a]? = some (O.ins 17 [(2, d0)])) : (∃ a' c fs f, D.ref a = D.ref a' ∧ S[a']? = some (O.ins c fs) ∧ pr.meth c 9 = some f ∧ lookN 9 fs = none ∧ P a' f) ↔ P a 32 := meth_ex h rfl rfl
theorem q_mn_17_9 {S T : Store} {d0 : D} {P : Nat → Nat → Prop} : (∃ a' c fs f, D.ref S.length = D.ref a' ∧ (S ++ O.ins 17 [(2, d0)] :: T)[a']? = some (O.ins c fs) ∧ pr.meth c 9 = some f ∧ lookN 9 fs = none ∧ P a' f) ↔ P S.length 32 := meth_ex get_mid rfl rfl
theorem q_mk_17 {fu n : Nat} {ρ : Env} {S : Store} {Q : D → Store → Prop} {es : Es} : Go (evE ⟨run pr fu n, fu, pr⟩ (.mk 17 es) ρ) S Q ↔ Go (evEs ⟨run pr fu n, fu, pr⟩ es ρ) S fun ds S1 => Go (run pr fu n 31 (.ref S1.length :: ds)) (S1 ++ [.ins 17 []]) fun r S2 => r = .non ∧ Q (.ref S1.length) S2 := go_mk1 rfl rfl
theorem q_makes_18 : pr.makes 18 = true := rfl
theorem q_sub_18_15 : pr.sub 18 15 = false := rfl
theorem q_sub_18_19 : pr.sub 18 19 = false := rfl
theorem q_sub_18_11 : pr.sub 18 11 = false := rfl
theorem q_sub_18_13 : pr.sub 18 13 = false := rfl
theorem q_has_18_8 : pr.hasF 18 8 = true := rfl
theorem q_meth_18_9 : pr.meth 18 9 = some 34 := rfl
theorem q_mt_18_9 {S : Store} {a : Nat} {d0 : D} {P : Nat → Nat → Prop} (h : S[a]? = some (O.ins 18 [(8, d0)])) : (∃ a' c fs f, D.ref a = D.ref a' ∧ S[a']? = some (O.ins c fs) ∧ pr.meth c 9 = some f ∧ lookN 9 fs = none ∧ P a' f) ↔ P a 34 := meth_ex h rfl rfl
theorem q_mn_18_9 {S T : Store} {d0 : D} {P : Nat → Nat → Prop} : (∃ a' c fs f, D.ref S.length = D.ref a' ∧ (S ++ O.ins 18 [(8, d0)] :: T)[a']? = some (O.ins c fs) ∧ pr.meth c 9 = some f ∧ lookN 9 fs = none ∧ P a' f) ↔ P S.length 34 := meth_ex get_mid rfl rfl
theorem q_mk_18 {fu n : Nat} {ρ : Env} {S : Store} {Q : D → Store → Prop} {es : Es} : Go (evE ⟨run pr fu n, fu, pr⟩ (.mk 18 es) ρ) S Q ↔ Go (evEs ⟨run pr fu n, fu, pr⟩ es ρ) S fun ds S1 => Go (run pr fu n 33 (.ref S1.length :: ds)) (S1 ++ [.ins 18 []]) fun r S2 => r = .non ∧ Q (.ref S1.length) S2 := go_mk1 rfl rfl
theorem q_asks_19 : pr.asks 19 = true := rfl
theorem q_makes_19 : pr.makes 19 = true := rfl
theorem q_sub_19_15 : pr.sub 19 15 = false := rfl
theorem q_sub_19_19 : pr.sub 19 19 = true := rfl
theorem q_sub_19_11 : pr.sub 19 11 = false := rfl
theorem q_sub_19_13 : pr.sub 19 13 = false := rfl
theorem q_meth_19_9 : pr.meth 19 9 = some 35 := rfl
theorem q_mt_19_9 {S : Store} {a : Nat} {P : Nat → Nat → Prop} (h : S[a]? = some (O.ins 19 [])) : (∃ a' c fs f, D.ref a = D.ref a' ∧ S[a']? = some (O.ins c fs) ∧ pr.meth c 9 = some f ∧ lookN 9 fs = none ∧ P a' f) ↔ P a 35 := meth_ex h rfl rfl
theorem q_mn_19_9 {S T : Store} {P : Nat → Nat → Prop} : (∃ a' c fs f, D.ref S.length = D.ref a' ∧ (S ++ O.ins 19 [] :: T)[a']? = some (O.ins c fs) ∧ pr.meth c 9 = some f ∧ lookN 9 fs = none ∧ P a' f) ↔ P S.length 35 := meth_ex get_mid rfl rfl
theorem q_mk_19 {fu n : Nat} {ρ : Env} {S : Store} {Q : D → Store → Prop} : Go (evE ⟨run pr fu n, fu, pr⟩ (.mk 19 .nil) ρ) S Q ↔ Q (.ref S.length) (S ++ [.ins 19 []]) := go_mk0 rfl rfl rfl
theorem q_makes_20 : pr.makes 20 = true := rfl
theorem q_sub_20_15 : pr.sub 20 15 = false := rfl
theorem q_sub_20_19 : pr.sub 20 19 = false := rfl
theorem q_sub_20_11 : pr.sub 20 11 = false := rfl
theorem q_sub_20_13 : pr.sub 20 13 = false := rfl
theorem q_has_20_5 : pr.hasF 20 5 = true := rfl
theorem q_meth_20_9 : pr.meth 20 9 = some 37 := rfl
theorem q_mt_20_9 {S : Store} {a : Nat} {d0 : D} {P : Nat → Nat → Prop} (h : S[a]? = some (O.ins 20 [(5, d0)])) : (∃ a' c fs f, D.ref a = D.ref a' ∧ S[a']? = some (O.ins c fs) ∧ pr.meth c 9 = some f ∧ lookN 9 fs = none ∧ P a' f) ↔ P a 37 := meth_ex h rfl rfl
theorem q_mn_20_9 {S T : Store} {d0 : D} {P : Nat → Nat → Prop} : (∃ a' c fs f, D.ref S.length = D.ref a' ∧ (S ++ O.ins 20 [(5, d0)] :: T)[a']? = some (O.ins c fs) ∧ pr.meth c 9 = some f ∧ lookN 9 fs = none ∧ P a' f) ↔ P S.length 37 := meth_ex get_mid rfl rfl
theorem q_mk_20 {fu n : Nat} {ρ : Env} {S : Store} {Q : D → Store → Prop} {es : Es} : Go (evE ⟨run pr fu n, fu, pr⟩ (.mk 20 es) ρ) S Q ↔ Go (evEs ⟨run pr fu n, fu, pr⟩ es ρ) S fun ds S1 => Go (run pr fu n 36 (.ref S1.length :: ds)) (S1 ++ [.ins 20 []]) fun r S2 => r = .non ∧ Q (.ref S1.length) S2 := go_mk1 rfl rfl
end K15
namespace K15
open PySem L2 Mi
theorem o0 : BOk f0 := fun _ _ _ _ _ _ us hl => match us, hl with | [_], _ => rfl
theorem c0 : chF tx f0.ft d0 = true := by decide +kernel
theorem o1 : BOk f1 := fun _ _ _ _ _ _ us hl => match us, hl with | [_, _, _], _ => rfl
theorem c1 : chF tx f1.ft d1 = true := by decide +kernel
theorem o2 : BOk f2 := fun _ _ _ _ _ _ us hl => match us, hl with | [_], _ => rfl
theorem c2 : chF tx f2.ft d2 = true := by decide +kernel
theorem o3 : BOk f3 := fun _ _ _ _ _ _ us hl => match us, hl with | [_], _ => rfl
theorem c3 : chF tx f3.ft d3 = true := by decide +kernel
theorem o4 : BOk f4 := fun _ _ _ _ _ _ us hl => match us, hl with | [_], _ => rfl
theorem c4 : chF tx f4.ft d4 = true := by decide +kernel
theorem o5 : BOk f5 := fun _ _ _ _ _ _ us hl => match us, hl with | [_], _ => rfl
theorem c5 : chF tx f5.ft d5 = true := by decide +kernel
theorem o6 : BOk f6 := fun _ _ _ _ _ _ us hl => match us, hl with | [_], _ => rfl
theorem c6 : chF tx f6.ft d6 = true := by decide +kernel
theorem o7 : BOk f7 := fun _ _ _ _ _ _ us hl => match us, hl with | [_, _, _], _ => rfl
theorem c7 : chF tx f7.ft d7 = true := by decide +kernel
theorem o8 : BOk f8 := fun _ _ _ _ _ _ us hl => match us, hl with | [_, _], _ => rfl
theorem c8 : chF tx f8.ft d8 = true := by decide +kernel
theorem o9 : BOk f9 := fun _ _ _ _ _ _ us hl => match us, hl with | [_, _], _ => rfl
theorem c9 : chF tx f9.ft d9 = true := by decide +kernel
theorem o10 : BOk f10 := fun _ _ _ _ _ _ us hl => match us, hl with | [_, _], _ => rfl
theorem c10 : chF tx f10.ft d10 = true := by decide +kernel
theorem o11 : BOk f11 := fun _ _ _ _ _ _ us hl => match us, hl with | [_, _], _ => rfl
theorem c11 : chF tx f11.ft d11 = true := by decide +kernel
theorem o12 : BOk f12 := fun _ _ _ _ _ _ us hl => match us, hl with | [_, _], _ => rfl
theorem c12 : chF tx f12.ft d12 = true := by decide +kernel
theorem o13 : BOk f13 := fun _ _ _ _ _ _ us hl => match us, hl with | [_, _], _ => rfl
theorem c13 : chF tx f13.ft d13 = true := by decide +kernel
theorem o14 : BOk f14 := fun _ _ _ _ _ _ us hl => match us, hl with | [_, _], _ => rfl
theorem c14 : chF tx f14.ft d14 = true := by decide +kernel
theorem o15 : BOk f15 := fun _ _ _ _ _ _ us hl => match us, hl with | [_, _, _, _], _ => rfl
theorem c15 : chF tx f15.ft d15 = true := by decide +kernel
theorem o16 : BOk f16 := fun _ _ _ _ _ _ us hl => match us, hl with | [_, _], _ => rfl
theorem c16 : chF tx f16.ft d16 = true := by decide +kernel
theorem o17 : BOk f17 := fun _ _ _ _ _ _ us hl => match us, hl with | [_, _], _ => rfl
theorem c17 : chF tx f17.ft d17 = true := by decide +kernel
theorem o18 : BOk f18 := fun _ _ _ _ _ _ us hl => match us, hl with | [_, _], _ => rfl
theorem c18 : chF tx f18.ft d18 = true := by decide +kernel
theorem o19 : BOk f19 := fun _ _ _ _ _ _ us hl => match us, hl with | [_, _, _, _], _ => rfl
theorem c19 : chF tx f19.ft d19 = true := by decide +kernel
theorem o20 : BOk f20 := fun _ _ _ _ _ _ us hl => match us, hl with | [_, _, _], _ => rfl
theorem c20 : chF tx f20.ft d20 = true := by decide +kernel
theorem o21 : BOk f21 := fun _ _ _ _ _ _ us hl => match us, hl with | [_, _, _], _ => rfl
theorem c21 : chF tx f21.ft d21 = true := by decide +kernel
theorem o22 : BOk f22 := fun _ _ _ _ _ _ us hl => match us, hl with | [_, _, _], _ => rfl
theorem c22 : chF tx f22.ft d22 = true := by decide +kernel
theorem o23 : BOk f23 := fun _ _ _ _ _ _ us hl => match us, hl with | [_, _], _ => rfl
theorem c23 : chF tx f23.ft d23 = true := by decide +kernel
theorem o24 : BOk f24 := fun _ _ _ _ _ _ us hl => match us, hl with | [_, _, _], _ => rfl
theorem c24 : chF tx f24.ft d24 = true := by decide +kernel
theorem o25 : BOk f25 := fun _ _ _ _ _ _ us hl => match us, hl with | [_, _, _, _, _, _], _ => rfl
theorem c25 : chF tx f25.ft d25 = true := by decide +kernel
theorem o26 : BOk f26 := fun _ _ _ _ _ _ us hl => match us, hl with | [_, _, _], _ => rfl
theorem c26 : chF tx f26.ft d26 = true := by decide +kernel
theorem o27 : BOk f27 := fun _ _ _ _ _ _ us hl => match us, hl with | [_, _], _ => rfl
theorem c27 : chF tx f27.ft d27 = true := by decide +kernel
theorem o28 : BOk f28 := fun _ _ _ _ _ _ us hl => match us, hl with | [_, _, _], _ => rfl
theorem c28 : chF tx f28.ft d28 = true := by decide +kernel
theorem o29 : BOk f29 := fun _ _ _ _ _ _ us hl => match us, hl with | [_, _], _ => rfl
theorem c29 : chF tx f29.ft d29 = true := by decide +kernel
theorem o30 : BOk f30 := fun _ _ _ _ _ _ us hl => match us, hl with | [_, _, _], _ => rfl
theorem c30 : chF tx f30.ft d30 = true := by decide +kernel
theorem o31 : BOk f31 := fun _ _ _ _ _ _ us hl => match us, hl with | [_, _], _ => rfl
theorem c31 : chF tx f31.ft d31 = true := by decide +kernel
theorem o32 : BOk f32 := fun _ _ _ _ _ _ us hl => match us, hl with | [_, _, _, _, _], _ => rfl
theorem c32 : chF tx f32.ft d32 = true := by decide +kernel
theorem o33 : BOk f33 := fun _ _ _ _ _ _ us hl => match us, hl with | [_, _], _ => rfl
theorem c33 : chF tx f33.ft d33 = true := by decide +kernel
theorem o34 : BOk f34 := fun _ _ _ _ _ _ us hl => match us, hl with | [_, _, _, _, _], _ => rfl
theorem c34 : chF tx f34.ft d34 = true := by decide +kernel
theorem o35 : BOk f35 := fun _ _ _ _ _ _ us hl => match us, hl with | [_, _, _, _, _], _ => rfl
theorem c35 : chF tx f35.ft d35 = true := by decide +kernel
theorem o36 : BOk f36 := fun _ _ _ _ _ _ us hl => match us, hl with | [_, _], _ => rfl
theorem c36 : chF tx f36.ft d36 = true := by decide +kernel
theorem o37 : BOk f37 := fun _ _ _ _ _ _ us hl => match us, hl with | [_, _, _, _, _], _ => rfl
theorem c37 : chF tx f37.ft d37 = true := by decide +kernel
theorem o38 : BOk f38 := fun _ _ _ _ _ _ us hl => match us, hl with | [_, _, _], _ => rfl
theorem c38 : chF tx f38.ft d38 = true := by decide +kernel
theorem o39 : BOk f39 := fun _ _ _ _ _ _ us hl => match us, hl with | [_, _], _ => rfl
theorem c39 : chF tx f39.ft d39 = true := by decide +kernel
theorem o40 : BOk f40 := fun _ _ _ _ _ _ us hl => match us, hl with | [_, _], _ => rfl
theorem c40 : chF tx f40.ft d40 = true := by decide +kernel
theorem o41 : BOk f41 := fun _ _ _ _ _ _ us hl => match us, hl with | [_, _], _ => rfl
theorem c41 : chF tx f41.ft d41 = true := by decide +kernel
theorem o42 : BOk f42 := fun _ _ _ _ _ _ us hl => match us, hl with | [_, _, _, _], _ => rfl
theorem c42 : chF tx f42.ft d42 = true := by decide +kernel
theorem o43 : BOk f43 := fun _ _ _ _ _ _ us hl => match us, hl with | [_, _], _ => rfl
theorem c43 : chF tx f43.ft d43 = true := by decide +kernel
theorem o44 : BOk f44 := fun _ _ _ _ _ _ us hl => match us, hl with | [_], _ => rfl
theorem c44 : chF tx f44.ft d44 = true := by decide +kernel
theorem o45 : BOk f45 := fun _ _ _ _ _ _ us hl => match us, hl with | [_], _ => rfl
theorem c45 : chF tx f45.ft d45 = true := by decide +kernel
theorem o46 : BOk f46 := fun _ _ _ _ _ _ us hl => match us, hl with | [_, _], _ => rfl
theorem c46 : chF tx f46.ft d46 = true := by decide +kernel
theorem o47 : BOk f47 := fun _ _ _ _ _ _ us hl => match us, hl with | [_, _], _ => rfl
theorem c47 : chF tx f47.ft d47 = true := by decide +kernel
theorem o48 : BOk f48 := fun _ _ _ _ _ _ us hl => match us, hl with | [_, _], _ => rfl
theorem c48 : chF tx f48.ft d48 = true := by decide +kernel
theorem o49 : BOk f49 := fun _ _ _ _ _ _ us hl => match us, hl with | [_, _], _ => rfl
theorem c49 : chF tx f49.ft d49 = true := by decide +kernel
theorem o50 : BOk f50 := fun _ _ _ _ _ _ us hl => match us, hl with | [_, _, _], _ => rfl
theorem c50 : chF tx f50.ft d50 = true := by decide +kernel
theorem o51 : BOk f51 := fun _ _ _ _ _ _ us hl => match us, hl with | [_, _], _ => rfl
theorem c51 : chF tx f51.ft d51 = true := by decide +kernel
theorem o52 : BOk f52 := fun _ _ _ _ _ _ us hl => match us, hl with | [_, _], _ => rfl
theorem c52 : chF tx f52.ft d52 = true := by decide +kernel
theorem o53 : BOk f53 := fun _ _ _ _ _ _ us hl => match us, hl with | [_], _ => rfl
theorem c53 : chF tx f53.ft d53 = true := by decide +kernel
theorem o54 : BOk f54 := fun _ _ _ _ _ _ us hl => match us, hl with | [_, _, _, _], _ => rfl
theorem c54 : chF tx f54.ft d54 = true := by decide +kernel
theorem o55 : BOk f55 := fun _ _ _ _ _ _ us hl => match us, hl with | [_, _], _ => rfl
theorem c55 : chF tx f55.ft d55 = true := by decide +kernel
theorem o56 : BOk f56 := fun _ _ _ _ _ _ us hl => match us, hl with | [_], _ => rfl
theorem c56 : chF tx f56.ft d56 = true := by decide +kernel
theorem o57 : BOk f57 := fun _ _ _ _ _ _ us hl => match us, hl with | [_, _], _ => rfl
theorem c57 : chF tx f57.ft d57 = true := by decide +kernel
theorem o58 : BOk f58 := fun _ _ _ _ _ _ us hl => match us, hl with | [_], _ => rfl
theorem c58 : chF tx f58.ft d58 = true := by decide +kernel
theorem o59 : BOk f59 := fun _ _ _ _ _ _ us hl => match us, hl with | [_, _, _], _ => rfl
theorem c59 : chF tx f59.ft d59 = true := by decide +kernel
theorem o60 : BOk f60 := fun _ _ _ _ _ _ us hl => match us, hl with | [_], _ => rfl
theorem c60 : chF tx f60.ft d60 = true := by decide +kernel
theorem o61 : BOk f61 := fun _ _ _ _ _ _ us hl => match us, hl with | [], _ => rfl
theorem c61 : chF tx f61.ft d61 = true := by decide +kernel
theorem o62 : BOk f62 := fun _ _ _ _ _ _ us hl => match us, hl with | [], _ => rfl
theorem c62 : chF tx f62.ft d62 = true := by decide +kernel
theorem o63 : BOk f63 := fun _ _ _ _ _ _ us hl => match us, hl with | [], _ => rfl
theorem c63 : chF tx f63.ft d63 = true := by decide +kernel
theorem o64 : BOk f64 := fun _ _ _ _ _ _ us hl => match us, hl with | [_], _ => rfl
theorem c64 : chF tx f64.ft d64 = true := by decide +kernel
theorem o65 : BOk f65 := fun _ _ _ _ _ _ us hl => match us, hl with | [_, _], _ => rfl
theorem c65 : chF tx f65.ft d65 = true := by decide +kernel
theorem o66 : BOk f66 := fun _ _ _ _ _ _ us hl => match us, hl with | [_, _], _ => rfl
theorem c66 : chF tx f66.ft d66 = true := by decide +kernel
theorem o67 : BOk f67 := fun _ _ _ _ _ _ us hl => match us, hl with | [_, _], _ => rfl
theorem c67 : chF tx f67.ft d67 = true := by decide +kernel
theorem tab_ok : tabB tx pr fs = true := by decide +kernel
theorem as_ok : AsOk tx fs pr.asks_ := trivial
theorem lm_ok : LmAll pr tx.lams := ⟨rfl, rfl, rfl, rfl, rfl, rfl, rfl, rfl, rfl, rfl, rfl, rfl, rfl, rfl, rfl, rfl, rfl, rfl, rfl, rfl, rfl, rfl, rfl, rfl, rfl, rfl, rfl, trivial⟩
theorem b_ok : BAll fs := ⟨o0, o1, o2, o3, o4, o5, o6, o7, o8, o9, o10, o11, o12, o13, o14, o15, o16, o17, o18, o19, o20, o21, o22, o23, o24, o25, o26, o27, o28, o29, o30, o31, o32, o33, o34, o35, o36, o37, o38, o39, o40, o41, o42, o43, o44, o45, o46, o47, o48, o49, o50, o51, o52, o53, o54, o55, o56, o57, o58, o59, o60, o61, o62, o63, o64, o65, o66, o67, trivial⟩
theorem ch_ok : chAll tx fs pr.fns = true := by
  simp only [fs, pr, chAll, c0, c1, c2, c3, c4, c5, c6, c7, c8, c9, c10, c11, c12, c13, c14, c15, c16, c17, c18, c19, c20, c21, c22, c23, c24, c25, c26, c27, c28, c29, c30, c31, c32, c33, c34, c35, c36, c37, c38, c39, c40, c41, c42, c43, c44, c45, c46, c47, c48, c49, c50, c51, c52, c53, c54, c55, c56, c57, c58, c59, c60, c61, c62, c63, c64, c65, c66, c67, Bool.and_self]
end K15
namespace K15
open Mi
section
variable {fu n : Nat} {S : Store} {Q : D → Store → Prop}
def stD (s : Bool × Int) : D := .tup [.str (if s.1 then 11 else 5), .int s.2]
def coD (c : Int × Int) : D := .tup [.int c.1, .int c.2]
theorem pl_co {c : Int × Int} : D.plain (coD c) = true := rfl
theorem pl_st {s : Bool × Int} : D.plain (stD s) = true := rfl
theorem pl_cos {l : List (Int × Int)} : D.plain (.fz (l.map coD)) = true := pl_fzm fun _ => rfl
theorem pl_sts {l : List (Bool × Int)} : D.plain (.fz (l.map stD)) = true := pl_fzm fun _ => rfl
theorem fic_cos {T : Store} {l : List (Int × Int)} : Fic S Q (.fz (l.map coD)) T ↔ Q (.fz (l.map coD)) S := fic_fz fun _ _ _ => rfl
theorem fic_sts {T : Store} {l : List (Bool × Int)} : Fic S Q (.fz (l.map stD)) T ↔ Q (.fz (l.map stD)) S := fic_fz fun _ _ _ => rfl
theorem fr_co {c : Int × Int} : frz S 0 deep (coD c) = some (coD c) := rfl
theorem fr_st {c : Bool × Int} : frz S 0 deep (stD c) = some (stD c) := rfl
theorem fr_cos {l : List (Int × Int)} : frz S 0 deep (.fz (l.map coD)) = some (.fz (l.map coD)) := fr_fz fun _ _ _ => rfl
theorem fr_sts {l : List (Bool × Int)} : frz S 0 deep (.fz (l.map stD)) = some (.fz (l.map stD)) := fr_fz fun _ _ _ => rfl
abbrev naD (k : Nat) : D := .int k
theorem pl_nas {l : List Nat} : D.plain (.fz (l.map naD)) = true := pl_fzm fun _ => rfl
theorem fr_nas {l : List Nat} : frz S 0 deep (.fz (l.map naD)) = some (.fz (l.map naD)) := fr_fz fun _ _ _ => rfl
theorem fic_nas {T : Store} {l : List Nat} : Fic S Q (.fz (l.map naD)) T ↔ Q (.fz (l.map naD)) S := fic_fz fun _ _ _ => rfl
def falls (s : Bool × Int) (c : Int × Int) : Bool := if s.1 then decide (c.1 ≤ s.2) else decide (s.2 ≤ c.2)
def box : List (Bool × Int) → Int × Int → Nat
  | [], _ => 0
  | s :: r, c => if falls s c then 0 else box r c + 1

theorem r_is_whole {i : Int} : Go (run pr fu (n + 1) 0 [.int i]) S Q ↔ Q (.bl true) S := by
  rw [go_runV (d := d0) rfl rfl rfl (by simp only [fr_cons, fr_nil, fr_int, fr_bl, fr_str, fr_non, fr_ints, fr_co, fr_st, fr_cos, fr_sts, fr_nas, Option.bind_some, Option.map_some]; rfl)]
  simp only [d0, b0_0, g_augA, g_augS, gz_slcH, gz_slcL, gz_rev, gz_list, gz_cat, gz_walkS, gz_walkE, go_lm, go_meth, go_setFldN, putN, lookN, go_forn, go_forc, go_cons, go_nil, go_fin, go_finN, exS, ev_c, ev_g, ev_v, ev_op, ev_and, ev_or, ev_not, ev_ite, ev_ch, ev_comp, ev_call, evEs, evAnd, evOr, evSrc, evIfs, go_bnd, go_ret, go_some, go_tst, go_ite, go_noX, ex_bl, asB_bl, join_some, g_add, g_sub, g_mul, g_fdiv, g_mod, g_pow, g_shl, g_shr, g_band, g_neg, g_lt, g_le, g_gt, g_ge, g_max2, g_min2, g_mkT, g_mkL, g_newF, g_newC, g_idxT, g_idxF, g_isT_tup, g_isT_fz, g_isT_int, g_isT_str, g_isT_bl, g_len_tup, g_len_fz, g_eqI, g_neI, g_eqS, g_eqB, g_isB, g_isnotB, g_isin2, at0, at1, ex_some, List.getElem?_cons_zero, List.getElem?_cons_succ, List.set_cons_zero, List.set_cons_succ, startE, List.map_cons, List.map_nil, List.length_cons, List.length_nil, Nat.reduceAdd, Nat.reduceSub, List.replicate_succ, List.replicate_zero, List.cons_append, List.nil_append, bd_nm, bd_tp, bds_nil, bds_nm, bds_tp, Option.bind_some, setAll, wipeE, Bool.not_true, Bool.not_false, Bool.false_eq_true, if_true, if_false, true_and, and_true, decide_true, decide_false, fin_f, fin_bl0, fin_bl1, fin_bl2, fin_int0, fin_int1, fin_int2, fin_non0, fin_non1, fin_ints0, fin_ints1, fic_bl, fic_int, fic_non, fic_str, fic_ints, fiv_bl, fiv_int, fiv_non, ev_ch3, bd_tpL, ev_mxk, ev_callv, go_lq, q_raises_1, q_raises_2, q_raises_3, q_raises_4, q_raises_5, q_raises_6, q_raises_7, q_raises_8, q_raises_9, q_asks_11, q_makes_11, q_sub_11_11, q_sub_11_19, q_sub_11_13, q_sub_11_15, q_meth_11_9, q_mn_11_9, q_mk_11, q_makes_12, q_sub_12_11, q_sub_12_19, q_sub_12_13, q_sub_12_15, q_has_12_11, q_has_12_12, q_meth_12_9, q_mn_12_9, q_mk_12, q_asks_13, q_makes_13, q_sub_13_11, q_sub_13_19, q_sub_13_13, q_sub_13_15, q_has_13_1, q_meth_13_9, q_mn_13_9, q_mk_13, q_makes_14, q_sub_14_11, q_sub_14_19, q_sub_14_13, q_sub_14_15, q_has_14_0, q_has_14_3, q_has_14_4, q_has_14_6, q_has_14_7, q_meth_14_9, q_mn_14_9, q_mk_14, q_asks_15, q_makes_15, q_sub_15_11, q_sub_15_19, q_sub_15_13, q_sub_15_15, q_has_15_1, q_meth_15_9, q_mn_15_9, q_mk_15, q_makes_16, q_sub_16_11, q_sub_16_19, q_sub_16_13, q_sub_16_15, q_has_16_10, q_meth_16_9, q_mn_16_9, q_mk_16, q_makes_17, q_sub_17_11, q_sub_17_19, q_sub_17_13, q_sub_17_15, q_has_17_2, q_meth_17_9, q_mn_17_9, q_mk_17, q_makes_18, q_sub_18_11, q_sub_18_19, q_sub_18_13, q_sub_18_15, q_has_18_8, q_meth_18_9, q_mn_18_9, q_mk_18, q_asks_19, q_makes_19, q_sub_19_11, q_sub_19_19, q_sub_19_13, q_sub_19_15, q_meth_19_9, q_mn_19_9, q_mk_19, q_makes_20, q_sub_20_11, q_sub_20_19, q_sub_20_13, q_sub_20_15, q_has_20_5, q_meth_20_9, q_mn_20_9, q_mk_20, reduceCtorEq, or_self]

theorem r_is_within {i a b : Int} : Go (run pr fu (n + 2) 1 [.int i, .int a, .int b]) S Q ↔ Q (.bl (decide (a ≤ i ∧ i ≤ b))) S := by
  rw [go_runV (d := d1) rfl rfl rfl (by simp only [fr_cons, fr_nil, fr_int, fr_bl, fr_str, fr_non, fr_ints, fr_co, fr_st, fr_cos, fr_sts, fr_nas, Option.bind_some, Option.map_some]; rfl)]
  simp only [d1, b1_0, g_augA, g_augS, gz_slcH, gz_slcL, gz_rev, gz_list, gz_cat, gz_walkS, gz_walkE, go_lm, go_meth, go_setFldN, putN, lookN, go_forn, go_forc, go_cons, go_nil, go_fin, go_finN, exS, ev_c, ev_g, ev_v, ev_op, ev_and, ev_or, ev_not, ev_ite, ev_ch, ev_comp, ev_call, evEs, evAnd, evOr, evSrc, evIfs, go_bnd, go_ret, go_some, go_tst, go_ite, go_noX, ex_bl, asB_bl, join_some, g_add, g_sub, g_mul, g_fdiv, g_mod, g_pow, g_shl, g_shr, g_band, g_neg, g_lt, g_le, g_gt, g_ge, g_max2, g_min2, g_mkT, g_mkL, g_newF, g_newC, g_idxT, g_idxF, g_isT_tup, g_isT_fz, g_isT_int, g_isT_str, g_isT_bl, g_len_tup, g_len_fz, g_eqI, g_neI, g_eqS, g_eqB, g_isB, g_isnotB, g_isin2, at0, at1, ex_some, List.getElem?_cons_zero, List.getElem?_cons_succ, List.set_cons_zero, List.set_cons_succ, startE, List.map_cons, List.map_nil, List.length_cons, List.length_nil, Nat.reduceAdd, Nat.reduceSub, List.replicate_succ, List.replicate_zero, List.cons_append, List.nil_append, bd_nm, bd_tp, bds_nil, bds_nm, bds_tp, Option.bind_some, setAll, wipeE, Bool.not_true, Bool.not_false, Bool.false_eq_true, if_true, if_false, true_and, and_true, decide_true, decide_false, fin_f, fin_bl0, fin_bl1, fin_bl2, fin_int0, fin_int1, fin_int2, fin_non0, fin_non1, fin_ints0, fin_ints1, fic_bl, fic_int, fic_non, fic_str, fic_ints, fiv_bl, fiv_int, fiv_non, ev_ch3, bd_tpL, ev_mxk, ev_callv, go_lq, q_raises_1, q_raises_2, q_raises_3, q_raises_4, q_raises_5, q_raises_6, q_raises_7, q_raises_8, q_raises_9, q_asks_11, q_makes_11, q_sub_11_11, q_sub_11_19, q_sub_11_13, q_sub_11_15, q_meth_11_9, q_mn_11_9, q_mk_11, q_makes_12, q_sub_12_11, q_sub_12_19, q_sub_12_13, q_sub_12_15, q_has_12_11, q_has_12_12, q_meth_12_9, q_mn_12_9, q_mk_12, q_asks_13, q_makes_13, q_sub_13_11, q_sub_13_19, q_sub_13_13, q_sub_13_15, q_has_13_1, q_meth_13_9, q_mn_13_9, q_mk_13, q_makes_14, q_sub_14_11, q_sub_14_19, q_sub_14_13, q_sub_14_15, q_has_14_0, q_has_14_3, q_has_14_4, q_has_14_6, q_has_14_7, q_meth_14_9, q_mn_14_9, q_mk_14, q_asks_15, q_makes_15, q_sub_15_11, q_sub_15_19, q_sub_15_13, q_sub_15_15, q_has_15_1, q_meth_15_9, q_mn_15_9, q_mk_15, q_makes_16, q_sub_16_11, q_sub_16_19, q_sub_16_13, q_sub_16_15, q_has_16_10, q_meth_16_9, q_mn_16_9, q_mk_16, q_makes_17, q_sub_17_11, q_sub_17_19, q_sub_17_13, q_sub_17_15, q_has_17_2, q_meth_17_9, q_mn_17_9, q_mk_17, q_makes_18, q_sub_18_11, q_sub_18_19, q_sub_18_13, q_sub_18_15, q_has_18_8, q_meth_18_9, q_mn_18_9, q_mk_18, q_asks_19, q_makes_19, q_sub_19_11, q_sub_19_19, q_sub_19_13, q_sub_19_15, q_meth_19_9, q_mn_19_9, q_mk_19, q_makes_20, q_sub_20_11, q_sub_20_19, q_sub_20_13, q_sub_20_15, q_has_20_5, q_meth_20_9, q_mn_20_9, q_mk_20, r_is_whole]
  by_cases h : a ≤ i
  · simp [h, g_le, go_fin, go_ret]
  · simp [h, g_le, go_fin, go_ret]

theorem r_is_kind {c : Int × Int} : Go (run pr fu (n + 3) 2 [coD c]) S Q ↔ Q (.bl (decide (1 ≤ c.1 ∧ c.1 ≤ 100) && decide (1 ≤ c.2 ∧ c.2 ≤ 100))) S := by
  rw [go_runV (d := d2) rfl rfl rfl (by simp only [fr_cons, fr_nil, fr_int, fr_bl, fr_str, fr_non, fr_ints, fr_co, fr_st, fr_cos, fr_sts, fr_nas, Option.bind_some, Option.map_some]; rfl)]
  simp only [d2, b2_0, b2_1, g_augA, g_augS, gz_slcH, gz_slcL, gz_rev, gz_list, gz_cat, gz_walkS, gz_walkE, go_lm, go_meth, go_setFldN, putN, lookN, go_forn, go_forc, go_cons, go_nil, go_fin, go_finN, exS, ev_c, ev_g, ev_v, ev_op, ev_and, ev_or, ev_not, ev_ite, ev_ch, ev_comp, ev_call, evEs, evAnd, evOr, evSrc, evIfs, go_bnd, go_ret, go_some, go_tst, go_ite, go_noX, ex_bl, asB_bl, join_some, g_add, g_sub, g_mul, g_fdiv, g_mod, g_pow, g_shl, g_shr, g_band, g_neg, g_lt, g_le, g_gt, g_ge, g_max2, g_min2, g_mkT, g_mkL, g_newF, g_newC, g_idxT, g_idxF, g_isT_tup, g_isT_fz, g_isT_int, g_isT_str, g_isT_bl, g_len_tup, g_len_fz, g_eqI, g_neI, g_eqS, g_eqB, g_isB, g_isnotB, g_isin2, at0, at1, ex_some, List.getElem?_cons_zero, List.getElem?_cons_succ, List.set_cons_zero, List.set_cons_succ, startE, List.map_cons, List.map_nil, List.length_cons, List.length_nil, Nat.reduceAdd, Nat.reduceSub, List.replicate_succ, List.replicate_zero, List.cons_append, List.nil_append, bd_nm, bd_tp, bds_nil, bds_nm, bds_tp, Option.bind_some, setAll, wipeE, Bool.not_true, Bool.not_false, Bool.false_eq_true, if_true, if_false, true_and, and_true, decide_true, decide_false, fin_f, fin_bl0, fin_bl1, fin_bl2, fin_int0, fin_int1, fin_int2, fin_non0, fin_non1, fin_ints0, fin_ints1, fic_bl, fic_int, fic_non, fic_str, fic_ints, fiv_bl, fiv_int, fiv_non, ev_ch3, bd_tpL, ev_mxk, ev_callv, go_lq, q_raises_1, q_raises_2, q_raises_3, q_raises_4, q_raises_5, q_raises_6, q_raises_7, q_raises_8, q_raises_9, q_asks_11, q_makes_11, q_sub_11_11, q_sub_11_19, q_sub_11_13, q_sub_11_15, q_meth_11_9, q_mn_11_9, q_mk_11, q_makes_12, q_sub_12_11, q_sub_12_19, q_sub_12_13, q_sub_12_15, q_has_12_11, q_has_12_12, q_meth_12_9, q_mn_12_9, q_mk_12, q_asks_13, q_makes_13, q_sub_13_11, q_sub_13_19, q_sub_13_13, q_sub_13_15, q_has_13_1, q_meth_13_9, q_mn_13_9, q_mk_13, q_makes_14, q_sub_14_11, q_sub_14_19, q_sub_14_13, q_sub_14_15, q_has_14_0, q_has_14_3, q_has_14_4, q_has_14_6, q_has_14_7, q_meth_14_9, q_mn_14_9, q_mk_14, q_asks_15, q_makes_15, q_sub_15_11, q_sub_15_19, q_sub_15_13, q_sub_15_15, q_has_15_1, q_meth_15_9, q_mn_15_9, q_mk_15, q_makes_16, q_sub_16_11, q_sub_16_19, q_sub_16_13, q_sub_16_15, q_has_16_10, q_meth_16_9, q_mn_16_9, q_mk_16, q_makes_17, q_sub_17_11, q_sub_17_19, q_sub_17_13, q_sub_17_15, q_has_17_2, q_meth_17_9, q_mn_17_9, q_mk_17, q_makes_18, q_sub_18_11, q_sub_18_19, q_sub_18_13, q_sub_18_15, q_has_18_8, q_meth_18_9, q_mn_18_9, q_mk_18, q_asks_19, q_makes_19, q_sub_19_11, q_sub_19_19, q_sub_19_13, q_sub_19_15, q_meth_19_9, q_mn_19_9, q_mk_19, q_makes_20, q_sub_20_11, q_sub_20_19, q_sub_20_13, q_sub_20_15, q_has_20_5, q_meth_20_9, q_mn_20_9, q_mk_20, coD, g_isT (show isTy pr [] .tuple (.tup [.int c.1, .int c.2]) = some true from rfl), g_len (show asQ [] (.tup [.int c.1, .int c.2]) = some [.int c.1, .int c.2] from rfl), g_ne (show eqD [] (.int (2 : Nat)) (.int 2) = some true from rfl), go_walkS (show asQ [] (.tup [.int c.1, .int c.2]) = some [.int c.1, .int c.2] from rfl)]
  refine (go_mapA (S := []) D.int (fun i => .bl (decide (1 ≤ i ∧ i ≤ 100))) (as := [c.1, c.2]) rfl fun i _ => ⟨_, rfl, ?h⟩).trans ?_
  case h =>
    rw [is_iff]
    simp only [g_augA, g_augS, gz_slcH, gz_slcL, gz_rev, gz_list, gz_cat, gz_walkS, gz_walkE, go_lm, go_meth, go_setFldN, putN, lookN, go_forn, go_forc, go_cons, go_nil, go_fin, go_finN, exS, ev_c, ev_g, ev_v, ev_op, ev_and, ev_or, ev_not, ev_ite, ev_ch, ev_comp, ev_call, evEs, evAnd, evOr, evSrc, evIfs, go_bnd, go_ret, go_some, go_tst, go_ite, go_noX, ex_bl, asB_bl, join_some, g_add, g_sub, g_mul, g_fdiv, g_mod, g_pow, g_shl, g_shr, g_band, g_neg, g_lt, g_le, g_gt, g_ge, g_max2, g_min2, g_mkT, g_mkL, g_newF, g_newC, g_idxT, g_idxF, g_isT_tup, g_isT_fz, g_isT_int, g_isT_str, g_isT_bl, g_len_tup, g_len_fz, g_eqI, g_neI, g_eqS, g_eqB, g_isB, g_isnotB, g_isin2, at0, at1, ex_some, List.getElem?_cons_zero, List.getElem?_cons_succ, List.set_cons_zero, List.set_cons_succ, startE, List.map_cons, List.map_nil, List.length_cons, List.length_nil, Nat.reduceAdd, Nat.reduceSub, List.replicate_succ, List.replicate_zero, List.cons_append, List.nil_append, bd_nm, bd_tp, bds_nil, bds_nm, bds_tp, Option.bind_some, setAll, wipeE, Bool.not_true, Bool.not_false, Bool.false_eq_true, if_true, if_false, true_and, and_true, decide_true, decide_false, fin_f, fin_bl0, fin_bl1, fin_bl2, fin_int0, fin_int1, fin_int2, fin_non0, fin_non1, fin_ints0, fin_ints1, fic_bl, fic_int, fic_non, fic_str, fic_ints, fiv_bl, fiv_int, fiv_non, ev_ch3, bd_tpL, ev_mxk, ev_callv, go_lq, q_raises_1, q_raises_2, q_raises_3, q_raises_4, q_raises_5, q_raises_6, q_raises_7, q_raises_8, q_raises_9, q_asks_11, q_makes_11, q_sub_11_11, q_sub_11_19, q_sub_11_13, q_sub_11_15, q_meth_11_9, q_mn_11_9, q_mk_11, q_makes_12, q_sub_12_11, q_sub_12_19, q_sub_12_13, q_sub_12_15, q_has_12_11, q_has_12_12, q_meth_12_9, q_mn_12_9, q_mk_12, q_asks_13, q_makes_13, q_sub_13_11, q_sub_13_19, q_sub_13_13, q_sub_13_15, q_has_13_1, q_meth_13_9, q_mn_13_9, q_mk_13, q_makes_14, q_sub_14_11, q_sub_14_19, q_sub_14_13, q_sub_14_15, q_has_14_0, q_has_14_3, q_has_14_4, q_has_14_6, q_has_14_7, q_meth_14_9, q_mn_14_9, q_mk_14, q_asks_15, q_makes_15, q_sub_15_11, q_sub_15_19, q_sub_15_13, q_sub_15_15, q_has_15_1, q_meth_15_9, q_mn_15_9, q_mk_15, q_makes_16, q_sub_16_11, q_sub_16_19, q_sub_16_13, q_sub_16_15, q_has_16_10, q_meth_16_9, q_mn_16_9, q_mk_16, q_makes_17, q_sub_17_11, q_sub_17_19, q_sub_17_13, q_sub_17_15, q_has_17_2, q_meth_17_9, q_mn_17_9, q_mk_17, q_makes_18, q_sub_18_11, q_sub_18_19, q_sub_18_13, q_sub_18_15, q_has_18_8, q_meth_18_9, q_mn_18_9, q_mk_18, q_asks_19, q_makes_19, q_sub_19_11, q_sub_19_19, q_sub_19_13, q_sub_19_15, q_meth_19_9, q_mn_19_9, q_mk_19, q_makes_20, q_sub_20_11, q_sub_20_19, q_sub_20_13, q_sub_20_15, q_has_20_5, q_meth_20_9, q_mn_20_9, q_mk_20, r_is_within]
  simp only [g_augA, g_augS, gz_slcH, gz_slcL, gz_rev, gz_list, gz_cat, gz_walkS, gz_walkE, go_lm, go_meth, go_setFldN, putN, lookN, go_forn, go_forc, go_cons, go_nil, go_fin, go_finN, exS, ev_c, ev_g, ev_v, ev_op, ev_and, ev_or, ev_not, ev_ite, ev_ch, ev_comp, ev_call, evEs, evAnd, evOr, evSrc, evIfs, go_bnd, go_ret, go_some, go_tst, go_ite, go_noX, ex_bl, asB_bl, join_some, g_add, g_sub, g_mul, g_fdiv, g_mod, g_pow, g_shl, g_shr, g_band, g_neg, g_lt, g_le, g_gt, g_ge, g_max2, g_min2, g_mkT, g_mkL, g_newF, g_newC, g_idxT, g_idxF, g_isT_tup, g_isT_fz, g_isT_int, g_isT_str, g_isT_bl, g_len_tup, g_len_fz, g_eqI, g_neI, g_eqS, g_eqB, g_isB, g_isnotB, g_isin2, at0, at1, ex_some, List.getElem?_cons_zero, List.getElem?_cons_succ, List.set_cons_zero, List.set_cons_succ, startE, List.map_cons, List.map_nil, List.length_cons, List.length_nil, Nat.reduceAdd, Nat.reduceSub, List.replicate_succ, List.replicate_zero, List.cons_append, List.nil_append, bd_nm, bd_tp, bds_nil, bds_nm, bds_tp, Option.bind_some, setAll, wipeE, Bool.not_true, Bool.not_false, Bool.false_eq_true, if_true, if_false, true_and, and_true, decide_true, decide_false, fin_f, fin_bl0, fin_bl1, fin_bl2, fin_int0, fin_int1, fin_int2, fin_non0, fin_non1, fin_ints0, fin_ints1, fic_bl, fic_int, fic_non, fic_str, fic_ints, fiv_bl, fiv_int, fiv_non, ev_ch3, bd_tpL, ev_mxk, ev_callv, go_lq, q_raises_1, q_raises_2, q_raises_3, q_raises_4, q_raises_5, q_raises_6, q_raises_7, q_raises_8, q_raises_9, q_asks_11, q_makes_11, q_sub_11_11, q_sub_11_19, q_sub_11_13, q_sub_11_15, q_meth_11_9, q_mn_11_9, q_mk_11, q_makes_12, q_sub_12_11, q_sub_12_19, q_sub_12_13, q_sub_12_15, q_has_12_11, q_has_12_12, q_meth_12_9, q_mn_12_9, q_mk_12, q_asks_13, q_makes_13, q_sub_13_11, q_sub_13_19, q_sub_13_13, q_sub_13_15, q_has_13_1, q_meth_13_9, q_mn_13_9, q_mk_13, q_makes_14, q_sub_14_11, q_sub_14_19, q_sub_14_13, q_sub_14_15, q_has_14_0, q_has_14_3, q_has_14_4, q_has_14_6, q_has_14_7, q_meth_14_9, q_mn_14_9, q_mk_14, q_asks_15, q_makes_15, q_sub_15_11, q_sub_15_19, q_sub_15_13, q_sub_15_15, q_has_15_1, q_meth_15_9, q_mn_15_9, q_mk_15, q_makes_16, q_sub_16_11, q_sub_16_19, q_sub_16_13, q_sub_16_15, q_has_16_10, q_meth_16_9, q_mn_16_9, q_mk_16, q_makes_17, q_sub_17_11, q_sub_17_19, q_sub_17_13, q_sub_17_15, q_has_17_2, q_meth_17_9, q_mn_17_9, q_mk_17, q_makes_18, q_sub_18_11, q_sub_18_19, q_sub_18_13, q_sub_18_15, q_has_18_8, q_meth_18_9, q_mn_18_9, q_mk_18, q_asks_19, q_makes_19, q_sub_19_11, q_sub_19_19, q_sub_19_13, q_sub_19_15, q_meth_19_9, q_mn_19_9, q_mk_19, q_makes_20, q_sub_20_11, q_sub_20_19, q_sub_20_13, q_sub_20_15, q_has_20_5, q_meth_20_9, q_mn_20_9, q_mk_20]
  rw [g_all (show asL _ (.fz _) = some _ from rfl) (show boolsO [.bl _, .bl _] = some [_, _] from rfl)]
  simp [g_augA, g_augS, gz_slcH, gz_slcL, gz_rev, gz_list, gz_cat, gz_walkS, gz_walkE, go_lm, go_meth, go_setFldN, putN, lookN, go_forn, go_forc, go_cons, go_nil, go_fin, go_finN, exS, ev_c, ev_g, ev_v, ev_op, ev_and, ev_or, ev_not, ev_ite, ev_ch, ev_comp, ev_call, evEs, evAnd, evOr, evSrc, evIfs, go_bnd, go_ret, go_some, go_tst, go_ite, go_noX, ex_bl, asB_bl, join_some, g_add, g_sub, g_mul, g_fdiv, g_mod, g_pow, g_shl, g_shr, g_band, g_neg, g_lt, g_le, g_gt, g_ge, g_max2, g_min2, g_mkT, g_mkL, g_newF, g_newC, g_idxT, g_idxF, g_isT_tup, g_isT_fz, g_isT_int, g_isT_str, g_isT_bl, g_len_tup, g_len_fz, g_eqI, g_neI, g_eqS, g_eqB, g_isB, g_isnotB, g_isin2, at0, at1, ex_some, List.getElem?_cons_zero, List.getElem?_cons_succ, List.set_cons_zero, List.set_cons_succ, startE, List.map_cons, List.map_nil, List.length_cons, List.length_nil, Nat.reduceAdd, Nat.reduceSub, List.replicate_succ, List.replicate_zero, List.cons_append, List.nil_append, bd_nm, bd_tp, bds_nil, bds_nm, bds_tp, Option.bind_some, setAll, wipeE, Bool.not_true, Bool.not_false, Bool.false_eq_true, if_true, if_false, true_and, and_true, decide_true, decide_false, fin_f, fin_bl0, fin_bl1, fin_bl2, fin_int0, fin_int1, fin_int2, fin_non0, fin_non1, fin_ints0, fin_ints1, fic_bl, fic_int, fic_non, fic_str, fic_ints, fiv_bl, fiv_int, fiv_non, ev_ch3, bd_tpL, ev_mxk, ev_callv, go_lq, q_raises_1, q_raises_2, q_raises_3, q_raises_4, q_raises_5, q_raises_6, q_raises_7, q_raises_8, q_raises_9, q_asks_11, q_makes_11, q_sub_11_11, q_sub_11_19, q_sub_11_13, q_sub_11_15, q_meth_11_9, q_mn_11_9, q_mk_11, q_makes_12, q_sub_12_11, q_sub_12_19, q_sub_12_13, q_sub_12_15, q_has_12_11, q_has_12_12, q_meth_12_9, q_mn_12_9, q_mk_12, q_asks_13, q_makes_13, q_sub_13_11, q_sub_13_19, q_sub_13_13, q_sub_13_15, q_has_13_1, q_meth_13_9, q_mn_13_9, q_mk_13, q_makes_14, q_sub_14_11, q_sub_14_19, q_sub_14_13, q_sub_14_15, q_has_14_0, q_has_14_3, q_has_14_4, q_has_14_6, q_has_14_7, q_meth_14_9, q_mn_14_9, q_mk_14, q_asks_15, q_makes_15, q_sub_15_11, q_sub_15_19, q_sub_15_13, q_sub_15_15, q_has_15_1, q_meth_15_9, q_mn_15_9, q_mk_15, q_makes_16, q_sub_16_11, q_sub_16_19, q_sub_16_13, q_sub_16_15, q_has_16_10, q_meth_16_9, q_mn_16_9, q_mk_16, q_makes_17, q_sub_17_11, q_sub_17_19, q_sub_17_13, q_sub_17_15, q_has_17_2, q_meth_17_9, q_mn_17_9, q_mk_17, q_makes_18, q_sub_18_11, q_sub_18_19, q_sub_18_13, q_sub_18_15, q_has_18_8, q_meth_18_9, q_mn_18_9, q_mk_18, q_asks_19, q_makes_19, q_sub_19_11, q_sub_19_19, q_sub_19_13, q_sub_19_15, q_meth_19_9, q_mn_19_9, q_mk_19, q_makes_20, q_sub_20_11, q_sub_20_19, q_sub_20_13, q_sub_20_15, q_has_20_5, q_meth_20_9, q_mn_20_9, q_mk_20]

theorem r_falls {s : Bool × Int} {c : Int × Int} : Go (run pr fu (n + 1) 12 [stD s, coD c]) S Q ↔ Q (.bl (falls s c)) S := by
  obtain ⟨b, z⟩ := s
  rw [go_runV (d := d12) rfl rfl rfl (by simp only [fr_cons, fr_nil, fr_int, fr_bl, fr_str, fr_non, fr_ints, fr_co, fr_st, fr_cos, fr_sts, fr_nas, Option.bind_some, Option.map_some]; rfl)]
  cases b <;> simp [d12, b12_0, g_augA, g_augS, gz_slcH, gz_slcL, gz_rev, gz_list, gz_cat, gz_walkS, gz_walkE, go_lm, go_meth, go_setFldN, putN, lookN, go_forn, go_forc, go_cons, go_nil, go_fin, go_finN, exS, ev_c, ev_g, ev_v, ev_op, ev_and, ev_or, ev_not, ev_ite, ev_ch, ev_comp, ev_call, evEs, evAnd, evOr, evSrc, evIfs, go_bnd, go_ret, go_some, go_tst, go_ite, go_noX, ex_bl, asB_bl, join_some, g_add, g_sub, g_mul, g_fdiv, g_mod, g_pow, g_shl, g_shr, g_band, g_neg, g_lt, g_le, g_gt, g_ge, g_max2, g_min2, g_mkT, g_mkL, g_newF, g_newC, g_idxT, g_idxF, g_isT_tup, g_isT_fz, g_isT_int, g_isT_str, g_isT_bl, g_len_tup, g_len_fz, g_eqI, g_neI, g_eqS, g_eqB, g_isB, g_isnotB, g_isin2, at0, at1, ex_some, List.getElem?_cons_zero, List.getElem?_cons_succ, List.set_cons_zero, List.set_cons_succ, startE, List.map_cons, List.map_nil, List.length_cons, List.length_nil, Nat.reduceAdd, Nat.reduceSub, List.replicate_succ, List.replicate_zero, List.cons_append, List.nil_append, bd_nm, bd_tp, bds_nil, bds_nm, bds_tp, Option.bind_some, setAll, wipeE, Bool.not_true, Bool.not_false, Bool.false_eq_true, if_true, if_false, true_and, and_true, decide_true, decide_false, fin_f, fin_bl0, fin_bl1, fin_bl2, fin_int0, fin_int1, fin_int2, fin_non0, fin_non1, fin_ints0, fin_ints1, fic_bl, fic_int, fic_non, fic_str, fic_ints, fiv_bl, fiv_int, fiv_non, ev_ch3, bd_tpL, ev_mxk, ev_callv, go_lq, q_raises_1, q_raises_2, q_raises_3, q_raises_4, q_raises_5, q_raises_6, q_raises_7, q_raises_8, q_raises_9, q_asks_11, q_makes_11, q_sub_11_11, q_sub_11_19, q_sub_11_13, q_sub_11_15, q_meth_11_9, q_mn_11_9, q_mk_11, q_makes_12, q_sub_12_11, q_sub_12_19, q_sub_12_13, q_sub_12_15, q_has_12_11, q_has_12_12, q_meth_12_9, q_mn_12_9, q_mk_12, q_asks_13, q_makes_13, q_sub_13_11, q_sub_13_19, q_sub_13_13, q_sub_13_15, q_has_13_1, q_meth_13_9, q_mn_13_9, q_mk_13, q_makes_14, q_sub_14_11, q_sub_14_19, q_sub_14_13, q_sub_14_15, q_has_14_0, q_has_14_3, q_has_14_4, q_has_14_6, q_has_14_7, q_meth_14_9, q_mn_14_9, q_mk_14, q_asks_15, q_makes_15, q_sub_15_11, q_sub_15_19, q_sub_15_13, q_sub_15_15, q_has_15_1, q_meth_15_9, q_mn_15_9, q_mk_15, q_makes_16, q_sub_16_11, q_sub_16_19, q_sub_16_13, q_sub_16_15, q_has_16_10, q_meth_16_9, q_mn_16_9, q_mk_16, q_makes_17, q_sub_17_11, q_sub_17_19, q_sub_17_13, q_sub_17_15, q_has_17_2, q_meth_17_9, q_mn_17_9, q_mk_17, q_makes_18, q_sub_18_11, q_sub_18_19, q_sub_18_13, q_sub_18_15, q_has_18_8, q_meth_18_9, q_mn_18_9, q_mk_18, q_asks_19, q_makes_19, q_sub_19_11, q_sub_19_19, q_sub_19_13, q_sub_19_15, q_meth_19_9, q_mn_19_9, q_mk_19, q_makes_20, q_sub_20_11, q_sub_20_19, q_sub_20_13, q_sub_20_15, q_has_20_5, q_meth_20_9, q_mn_20_9, q_mk_20, stD, coD, falls]

theorem eqS {a b : Nat} : eqD S (.str a) (.str b) = some (a == b) := rfl
theorem eqI {a b : Int} : eqD S (.int a) (.int b) = some (a == b) := rfl
def stOk (s : Bool × Int) : Prop := 0 ≤ s.2 ∧ s.2 ≤ 101

def stB (s : Bool × Int) : Bool := decide (0 ≤ s.2 ∧ s.2 ≤ 101)
theorem r_is_station {s : Bool × Int} : Go (run pr fu (n + 3) 4 [stD s]) S Q ↔ Q (.bl (stB s)) S := by
  rw [go_runV (d := d4) rfl rfl rfl (by simp only [fr_cons, fr_nil, fr_int, fr_bl, fr_str, fr_non, fr_ints, fr_co, fr_st, fr_cos, fr_sts, fr_nas, Option.bind_some, Option.map_some]; rfl)]
  obtain ⟨b, z⟩ := s
  cases b <;> simp [d4, b4_0, b4_1, g_augA, g_augS, gz_slcH, gz_slcL, gz_rev, gz_list, gz_cat, gz_walkS, gz_walkE, go_lm, go_meth, go_setFldN, putN, lookN, go_forn, go_forc, go_cons, go_nil, go_fin, go_finN, exS, ev_c, ev_g, ev_v, ev_op, ev_and, ev_or, ev_not, ev_ite, ev_ch, ev_comp, ev_call, evEs, evAnd, evOr, evSrc, evIfs, go_bnd, go_ret, go_some, go_tst, go_ite, go_noX, ex_bl, asB_bl, join_some, g_add, g_sub, g_mul, g_fdiv, g_mod, g_pow, g_shl, g_shr, g_band, g_neg, g_lt, g_le, g_gt, g_ge, g_max2, g_min2, g_mkT, g_mkL, g_newF, g_newC, g_idxT, g_idxF, g_isT_tup, g_isT_fz, g_isT_int, g_isT_str, g_isT_bl, g_len_tup, g_len_fz, g_eqI, g_neI, g_eqS, g_eqB, g_isB, g_isnotB, g_isin2, at0, at1, ex_some, List.getElem?_cons_zero, List.getElem?_cons_succ, List.set_cons_zero, List.set_cons_succ, startE, List.map_cons, List.map_nil, List.length_cons, List.length_nil, Nat.reduceAdd, Nat.reduceSub, List.replicate_succ, List.replicate_zero, List.cons_append, List.nil_append, bd_nm, bd_tp, bds_nil, bds_nm, bds_tp, Option.bind_some, setAll, wipeE, Bool.not_true, Bool.not_false, Bool.false_eq_true, if_true, if_false, true_and, and_true, decide_true, decide_false, fin_f, fin_bl0, fin_bl1, fin_bl2, fin_int0, fin_int1, fin_int2, fin_non0, fin_non1, fin_ints0, fin_ints1, fic_bl, fic_int, fic_non, fic_str, fic_ints, fiv_bl, fiv_int, fiv_non, ev_ch3, bd_tpL, ev_mxk, ev_callv, go_lq, q_raises_1, q_raises_2, q_raises_3, q_raises_4, q_raises_5, q_raises_6, q_raises_7, q_raises_8, q_raises_9, q_asks_11, q_makes_11, q_sub_11_11, q_sub_11_19, q_sub_11_13, q_sub_11_15, q_meth_11_9, q_mn_11_9, q_mk_11, q_makes_12, q_sub_12_11, q_sub_12_19, q_sub_12_13, q_sub_12_15, q_has_12_11, q_has_12_12, q_meth_12_9, q_mn_12_9, q_mk_12, q_asks_13, q_makes_13, q_sub_13_11, q_sub_13_19, q_sub_13_13, q_sub_13_15, q_has_13_1, q_meth_13_9, q_mn_13_9, q_mk_13, q_makes_14, q_sub_14_11, q_sub_14_19, q_sub_14_13, q_sub_14_15, q_has_14_0, q_has_14_3, q_has_14_4, q_has_14_6, q_has_14_7, q_meth_14_9, q_mn_14_9, q_mk_14, q_asks_15, q_makes_15, q_sub_15_11, q_sub_15_19, q_sub_15_13, q_sub_15_15, q_has_15_1, q_meth_15_9, q_mn_15_9, q_mk_15, q_makes_16, q_sub_16_11, q_sub_16_19, q_sub_16_13, q_sub_16_15, q_has_16_10, q_meth_16_9, q_mn_16_9, q_mk_16, q_makes_17, q_sub_17_11, q_sub_17_19, q_sub_17_13, q_sub_17_15, q_has_17_2, q_meth_17_9, q_mn_17_9, q_mk_17, q_makes_18, q_sub_18_11, q_sub_18_19, q_sub_18_13, q_sub_18_15, q_has_18_8, q_meth_18_9, q_mn_18_9, q_mk_18, q_asks_19, q_makes_19, q_sub_19_11, q_sub_19_19, q_sub_19_13, q_sub_19_15, q_meth_19_9, q_mn_19_9, q_mk_19, q_makes_20, q_sub_20_11, q_sub_20_19, q_sub_20_13, q_sub_20_15, q_has_20_5, q_meth_20_9, q_mn_20_9, q_mk_20, stD, stB, r_is_within, line]

def chB (ch : List (Bool × Int)) : Bool := decide (ch.length ≤ 24) && ch.all stB
theorem chB_ok {ch : List (Bool × Int)} (hl : ch.length ≤ 24) (ho : ∀ s ∈ ch, stOk s) : chB ch = true := by
  simp only [chB, Bool.and_eq_true, decide_eq_true_eq, List.all_eq_true, stB]
  exact ⟨hl, fun s h => ho s h⟩
theorem r_is_chuteL {S : Store} {Q : D → Store → Prop} {x : D} {ch : List (Bool × Int)} (hx : asL S x = some (ch.map stD)) : Go (run pr fu (n + 4) 5 [x]) S Q ↔ Q (.bl (chB ch)) S := by
  rw [go_runV (d := d5) rfl rfl rfl (by simp only [fr_cons, fr_nil, fr_int, fr_bl, fr_str, fr_non, fr_ints, fr_co, fr_st, fr_cos, fr_sts, fr_nas, Option.bind_some, Option.map_some, fr_L hx (fun _ _ _ => rfl)]; rfl)]
  simp only [d5, b5_0, g_augA, g_augS, gz_slcH, gz_slcL, gz_rev, gz_list, gz_cat, gz_walkS, gz_walkE, go_lm, go_meth, go_setFldN, putN, lookN, go_forn, go_forc, go_cons, go_nil, go_fin, go_finN, exS, ev_c, ev_g, ev_v, ev_op, ev_and, ev_or, ev_not, ev_ite, ev_ch, ev_comp, ev_call, evEs, evAnd, evOr, evSrc, evIfs, go_bnd, go_ret, go_some, go_tst, go_ite, go_noX, ex_bl, asB_bl, join_some, g_add, g_sub, g_mul, g_fdiv, g_mod, g_pow, g_shl, g_shr, g_band, g_neg, g_lt, g_le, g_gt, g_ge, g_max2, g_min2, g_mkT, g_mkL, g_newF, g_newC, g_idxT, g_idxF, g_isT_tup, g_isT_fz, g_isT_int, g_isT_str, g_isT_bl, g_len_tup, g_len_fz, g_eqI, g_neI, g_eqS, g_eqB, g_isB, g_isnotB, g_isin2, at0, at1, ex_some, List.getElem?_cons_zero, List.getElem?_cons_succ, List.set_cons_zero, List.set_cons_succ, startE, List.map_cons, List.map_nil, List.length_cons, List.length_nil, Nat.reduceAdd, Nat.reduceSub, List.replicate_succ, List.replicate_zero, List.cons_append, List.nil_append, bd_nm, bd_tp, bds_nil, bds_nm, bds_tp, Option.bind_some, setAll, wipeE, Bool.not_true, Bool.not_false, Bool.false_eq_true, if_true, if_false, true_and, and_true, decide_true, decide_false, fin_f, fin_bl0, fin_bl1, fin_bl2, fin_int0, fin_int1, fin_int2, fin_non0, fin_non1, fin_ints0, fin_ints1, fic_bl, fic_int, fic_non, fic_str, fic_ints, fiv_bl, fiv_int, fiv_non, ev_ch3, bd_tpL, ev_mxk, ev_callv, go_lq, q_raises_1, q_raises_2, q_raises_3, q_raises_4, q_raises_5, q_raises_6, q_raises_7, q_raises_8, q_raises_9, q_asks_11, q_makes_11, q_sub_11_11, q_sub_11_19, q_sub_11_13, q_sub_11_15, q_meth_11_9, q_mn_11_9, q_mk_11, q_makes_12, q_sub_12_11, q_sub_12_19, q_sub_12_13, q_sub_12_15, q_has_12_11, q_has_12_12, q_meth_12_9, q_mn_12_9, q_mk_12, q_asks_13, q_makes_13, q_sub_13_11, q_sub_13_19, q_sub_13_13, q_sub_13_15, q_has_13_1, q_meth_13_9, q_mn_13_9, q_mk_13, q_makes_14, q_sub_14_11, q_sub_14_19, q_sub_14_13, q_sub_14_15, q_has_14_0, q_has_14_3, q_has_14_4, q_has_14_6, q_has_14_7, q_meth_14_9, q_mn_14_9, q_mk_14, q_asks_15, q_makes_15, q_sub_15_11, q_sub_15_19, q_sub_15_13, q_sub_15_15, q_has_15_1, q_meth_15_9, q_mn_15_9, q_mk_15, q_makes_16, q_sub_16_11, q_sub_16_19, q_sub_16_13, q_sub_16_15, q_has_16_10, q_meth_16_9, q_mn_16_9, q_mk_16, q_makes_17, q_sub_17_11, q_sub_17_19, q_sub_17_13, q_sub_17_15, q_has_17_2, q_meth_17_9, q_mn_17_9, q_mk_17, q_makes_18, q_sub_18_11, q_sub_18_19, q_sub_18_13, q_sub_18_15, q_has_18_8, q_meth_18_9, q_mn_18_9, q_mk_18, q_asks_19, q_makes_19, q_sub_19_11, q_sub_19_19, q_sub_19_13, q_sub_19_15, q_meth_19_9, q_mn_19_9, q_mk_19, q_makes_20, q_sub_20_11, q_sub_20_19, q_sub_20_13, q_sub_20_15, q_has_20_5, q_meth_20_9, q_mn_20_9, q_mk_20, List.length_map]
  by_cases h : ch.length ≤ 24
  · have h2 : ((ch.length : Nat) : Int) ≤ 24 := by omega
    simp only [h2, g_augA, g_augS, gz_slcH, gz_slcL, gz_rev, gz_list, gz_cat, gz_walkS, gz_walkE, go_lm, go_meth, go_setFldN, putN, lookN, go_forn, go_forc, go_cons, go_nil, go_fin, go_finN, exS, ev_c, ev_g, ev_v, ev_op, ev_and, ev_or, ev_not, ev_ite, ev_ch, ev_comp, ev_call, evEs, evAnd, evOr, evSrc, evIfs, go_bnd, go_ret, go_some, go_tst, go_ite, go_noX, ex_bl, asB_bl, join_some, g_add, g_sub, g_mul, g_fdiv, g_mod, g_pow, g_shl, g_shr, g_band, g_neg, g_lt, g_le, g_gt, g_ge, g_max2, g_min2, g_mkT, g_mkL, g_newF, g_newC, g_idxT, g_idxF, g_isT_tup, g_isT_fz, g_isT_int, g_isT_str, g_isT_bl, g_len_tup, g_len_fz, g_eqI, g_neI, g_eqS, g_eqB, g_isB, g_isnotB, g_isin2, at0, at1, ex_some, List.getElem?_cons_zero, List.getElem?_cons_succ, List.set_cons_zero, List.set_cons_succ, startE, List.map_cons, List.map_nil, List.length_cons, List.length_nil, Nat.reduceAdd, Nat.reduceSub, List.replicate_succ, List.replicate_zero, List.cons_append, List.nil_append, bd_nm, bd_tp, bds_nil, bds_nm, bds_tp, Option.bind_some, setAll, wipeE, Bool.not_true, Bool.not_false, Bool.false_eq_true, if_true, if_false, true_and, and_true, decide_true, decide_false, fin_f, fin_bl0, fin_bl1, fin_bl2, fin_int0, fin_int1, fin_int2, fin_non0, fin_non1, fin_ints0, fin_ints1, fic_bl, fic_int, fic_non, fic_str, fic_ints, fiv_bl, fiv_int, fiv_non, ev_ch3, bd_tpL, ev_mxk, ev_callv, go_lq, q_raises_1, q_raises_2, q_raises_3, q_raises_4, q_raises_5, q_raises_6, q_raises_7, q_raises_8, q_raises_9, q_asks_11, q_makes_11, q_sub_11_11, q_sub_11_19, q_sub_11_13, q_sub_11_15, q_meth_11_9, q_mn_11_9, q_mk_11, q_makes_12, q_sub_12_11, q_sub_12_19, q_sub_12_13, q_sub_12_15, q_has_12_11, q_has_12_12, q_meth_12_9, q_mn_12_9, q_mk_12, q_asks_13, q_makes_13, q_sub_13_11, q_sub_13_19, q_sub_13_13, q_sub_13_15, q_has_13_1, q_meth_13_9, q_mn_13_9, q_mk_13, q_makes_14, q_sub_14_11, q_sub_14_19, q_sub_14_13, q_sub_14_15, q_has_14_0, q_has_14_3, q_has_14_4, q_has_14_6, q_has_14_7, q_meth_14_9, q_mn_14_9, q_mk_14, q_asks_15, q_makes_15, q_sub_15_11, q_sub_15_19, q_sub_15_13, q_sub_15_15, q_has_15_1, q_meth_15_9, q_mn_15_9, q_mk_15, q_makes_16, q_sub_16_11, q_sub_16_19, q_sub_16_13, q_sub_16_15, q_has_16_10, q_meth_16_9, q_mn_16_9, q_mk_16, q_makes_17, q_sub_17_11, q_sub_17_19, q_sub_17_13, q_sub_17_15, q_has_17_2, q_meth_17_9, q_mn_17_9, q_mk_17, q_makes_18, q_sub_18_11, q_sub_18_19, q_sub_18_13, q_sub_18_15, q_has_18_8, q_meth_18_9, q_mn_18_9, q_mk_18, q_asks_19, q_makes_19, q_sub_19_11, q_sub_19_19, q_sub_19_13, q_sub_19_15, q_meth_19_9, q_mn_19_9, q_mk_19, q_makes_20, q_sub_20_11, q_sub_20_19, q_sub_20_13, q_sub_20_15, q_has_20_5, q_meth_20_9, q_mn_20_9, q_mk_20]
    rw [go_mapA stD (fun s => .bl (stB s)) rfl fun s hs => ⟨_, rfl, ?h⟩]
    case h =>
      rw [is_iff]
      simp only [g_augA, g_augS, gz_slcH, gz_slcL, gz_rev, gz_list, gz_cat, gz_walkS, gz_walkE, go_lm, go_meth, go_setFldN, putN, lookN, go_forn, go_forc, go_cons, go_nil, go_fin, go_finN, exS, ev_c, ev_g, ev_v, ev_op, ev_and, ev_or, ev_not, ev_ite, ev_ch, ev_comp, ev_call, evEs, evAnd, evOr, evSrc, evIfs, go_bnd, go_ret, go_some, go_tst, go_ite, go_noX, ex_bl, asB_bl, join_some, g_add, g_sub, g_mul, g_fdiv, g_mod, g_pow, g_shl, g_shr, g_band, g_neg, g_lt, g_le, g_gt, g_ge, g_max2, g_min2, g_mkT, g_mkL, g_newF, g_newC, g_idxT, g_idxF, g_isT_tup, g_isT_fz, g_isT_int, g_isT_str, g_isT_bl, g_len_tup, g_len_fz, g_eqI, g_neI, g_eqS, g_eqB, g_isB, g_isnotB, g_isin2, at0, at1, ex_some, List.getElem?_cons_zero, List.getElem?_cons_succ, List.set_cons_zero, List.set_cons_succ, startE, List.map_cons, List.map_nil, List.length_cons, List.length_nil, Nat.reduceAdd, Nat.reduceSub, List.replicate_succ, List.replicate_zero, List.cons_append, List.nil_append, bd_nm, bd_tp, bds_nil, bds_nm, bds_tp, Option.bind_some, setAll, wipeE, Bool.not_true, Bool.not_false, Bool.false_eq_true, if_true, if_false, true_and, and_true, decide_true, decide_false, fin_f, fin_bl0, fin_bl1, fin_bl2, fin_int0, fin_int1, fin_int2, fin_non0, fin_non1, fin_ints0, fin_ints1, fic_bl, fic_int, fic_non, fic_str, fic_ints, fiv_bl, fiv_int, fiv_non, ev_ch3, bd_tpL, ev_mxk, ev_callv, go_lq, q_raises_1, q_raises_2, q_raises_3, q_raises_4, q_raises_5, q_raises_6, q_raises_7, q_raises_8, q_raises_9, q_asks_11, q_makes_11, q_sub_11_11, q_sub_11_19, q_sub_11_13, q_sub_11_15, q_meth_11_9, q_mn_11_9, q_mk_11, q_makes_12, q_sub_12_11, q_sub_12_19, q_sub_12_13, q_sub_12_15, q_has_12_11, q_has_12_12, q_meth_12_9, q_mn_12_9, q_mk_12, q_asks_13, q_makes_13, q_sub_13_11, q_sub_13_19, q_sub_13_13, q_sub_13_15, q_has_13_1, q_meth_13_9, q_mn_13_9, q_mk_13, q_makes_14, q_sub_14_11, q_sub_14_19, q_sub_14_13, q_sub_14_15, q_has_14_0, q_has_14_3, q_has_14_4, q_has_14_6, q_has_14_7, q_meth_14_9, q_mn_14_9, q_mk_14, q_asks_15, q_makes_15, q_sub_15_11, q_sub_15_19, q_sub_15_13, q_sub_15_15, q_has_15_1, q_meth_15_9, q_mn_15_9, q_mk_15, q_makes_16, q_sub_16_11, q_sub_16_19, q_sub_16_13, q_sub_16_15, q_has_16_10, q_meth_16_9, q_mn_16_9, q_mk_16, q_makes_17, q_sub_17_11, q_sub_17_19, q_sub_17_13, q_sub_17_15, q_has_17_2, q_meth_17_9, q_mn_17_9, q_mk_17, q_makes_18, q_sub_18_11, q_sub_18_19, q_sub_18_13, q_sub_18_15, q_has_18_8, q_meth_18_9, q_mn_18_9, q_mk_18, q_asks_19, q_makes_19, q_sub_19_11, q_sub_19_19, q_sub_19_13, q_sub_19_15, q_meth_19_9, q_mn_19_9, q_mk_19, q_makes_20, q_sub_20_11, q_sub_20_19, q_sub_20_13, q_sub_20_15, q_has_20_5, q_meth_20_9, q_mn_20_9, q_mk_20, r_is_station]
    rw [g_all (show asL _ (.fz _) = some _ from rfl) (bools_mapG (p := stB) ch)]
    simp only [g_augA, g_augS, gz_slcH, gz_slcL, gz_rev, gz_list, gz_cat, gz_walkS, gz_walkE, go_lm, go_meth, go_setFldN, putN, lookN, go_forn, go_forc, go_cons, go_nil, go_fin, go_finN, exS, ev_c, ev_g, ev_v, ev_op, ev_and, ev_or, ev_not, ev_ite, ev_ch, ev_comp, ev_call, evEs, evAnd, evOr, evSrc, evIfs, go_bnd, go_ret, go_some, go_tst, go_ite, go_noX, ex_bl, asB_bl, join_some, g_add, g_sub, g_mul, g_fdiv, g_mod, g_pow, g_shl, g_shr, g_band, g_neg, g_lt, g_le, g_gt, g_ge, g_max2, g_min2, g_mkT, g_mkL, g_newF, g_newC, g_idxT, g_idxF, g_isT_tup, g_isT_fz, g_isT_int, g_isT_str, g_isT_bl, g_len_tup, g_len_fz, g_eqI, g_neI, g_eqS, g_eqB, g_isB, g_isnotB, g_isin2, at0, at1, ex_some, List.getElem?_cons_zero, List.getElem?_cons_succ, List.set_cons_zero, List.set_cons_succ, startE, List.map_cons, List.map_nil, List.length_cons, List.length_nil, Nat.reduceAdd, Nat.reduceSub, List.replicate_succ, List.replicate_zero, List.cons_append, List.nil_append, bd_nm, bd_tp, bds_nil, bds_nm, bds_tp, Option.bind_some, setAll, wipeE, Bool.not_true, Bool.not_false, Bool.false_eq_true, if_true, if_false, true_and, and_true, decide_true, decide_false, fin_f, fin_bl0, fin_bl1, fin_bl2, fin_int0, fin_int1, fin_int2, fin_non0, fin_non1, fin_ints0, fin_ints1, fic_bl, fic_int, fic_non, fic_str, fic_ints, fiv_bl, fiv_int, fiv_non, ev_ch3, bd_tpL, ev_mxk, ev_callv, go_lq, q_raises_1, q_raises_2, q_raises_3, q_raises_4, q_raises_5, q_raises_6, q_raises_7, q_raises_8, q_raises_9, q_asks_11, q_makes_11, q_sub_11_11, q_sub_11_19, q_sub_11_13, q_sub_11_15, q_meth_11_9, q_mn_11_9, q_mk_11, q_makes_12, q_sub_12_11, q_sub_12_19, q_sub_12_13, q_sub_12_15, q_has_12_11, q_has_12_12, q_meth_12_9, q_mn_12_9, q_mk_12, q_asks_13, q_makes_13, q_sub_13_11, q_sub_13_19, q_sub_13_13, q_sub_13_15, q_has_13_1, q_meth_13_9, q_mn_13_9, q_mk_13, q_makes_14, q_sub_14_11, q_sub_14_19, q_sub_14_13, q_sub_14_15, q_has_14_0, q_has_14_3, q_has_14_4, q_has_14_6, q_has_14_7, q_meth_14_9, q_mn_14_9, q_mk_14, q_asks_15, q_makes_15, q_sub_15_11, q_sub_15_19, q_sub_15_13, q_sub_15_15, q_has_15_1, q_meth_15_9, q_mn_15_9, q_mk_15, q_makes_16, q_sub_16_11, q_sub_16_19, q_sub_16_13, q_sub_16_15, q_has_16_10, q_meth_16_9, q_mn_16_9, q_mk_16, q_makes_17, q_sub_17_11, q_sub_17_19, q_sub_17_13, q_sub_17_15, q_has_17_2, q_meth_17_9, q_mn_17_9, q_mk_17, q_makes_18, q_sub_18_11, q_sub_18_19, q_sub_18_13, q_sub_18_15, q_has_18_8, q_meth_18_9, q_mn_18_9, q_mk_18, q_asks_19, q_makes_19, q_sub_19_11, q_sub_19_19, q_sub_19_13, q_sub_19_15, q_meth_19_9, q_mn_19_9, q_mk_19, q_makes_20, q_sub_20_11, q_sub_20_19, q_sub_20_13, q_sub_20_15, q_has_20_5, q_meth_20_9, q_mn_20_9, q_mk_20, chB, h, Bool.true_and, List.all_map]
    rfl
  · have h2 : ¬ ((ch.length : Nat) : Int) ≤ 24 := by omega
    simp only [h2, g_augA, g_augS, gz_slcH, gz_slcL, gz_rev, gz_list, gz_cat, gz_walkS, gz_walkE, go_lm, go_meth, go_setFldN, putN, lookN, go_forn, go_forc, go_cons, go_nil, go_fin, go_finN, exS, ev_c, ev_g, ev_v, ev_op, ev_and, ev_or, ev_not, ev_ite, ev_ch, ev_comp, ev_call, evEs, evAnd, evOr, evSrc, evIfs, go_bnd, go_ret, go_some, go_tst, go_ite, go_noX, ex_bl, asB_bl, join_some, g_add, g_sub, g_mul, g_fdiv, g_mod, g_pow, g_shl, g_shr, g_band, g_neg, g_lt, g_le, g_gt, g_ge, g_max2, g_min2, g_mkT, g_mkL, g_newF, g_newC, g_idxT, g_idxF, g_isT_tup, g_isT_fz, g_isT_int, g_isT_str, g_isT_bl, g_len_tup, g_len_fz, g_eqI, g_neI, g_eqS, g_eqB, g_isB, g_isnotB, g_isin2, at0, at1, ex_some, List.getElem?_cons_zero, List.getElem?_cons_succ, List.set_cons_zero, List.set_cons_succ, startE, List.map_cons, List.map_nil, List.length_cons, List.length_nil, Nat.reduceAdd, Nat.reduceSub, List.replicate_succ, List.replicate_zero, List.cons_append, List.nil_append, bd_nm, bd_tp, bds_nil, bds_nm, bds_tp, Option.bind_some, setAll, wipeE, Bool.not_true, Bool.not_false, Bool.false_eq_true, if_true, if_false, true_and, and_true, decide_true, decide_false, fin_f, fin_bl0, fin_bl1, fin_bl2, fin_int0, fin_int1, fin_int2, fin_non0, fin_non1, fin_ints0, fin_ints1, fic_bl, fic_int, fic_non, fic_str, fic_ints, fiv_bl, fiv_int, fiv_non, ev_ch3, bd_tpL, ev_mxk, ev_callv, go_lq, q_raises_1, q_raises_2, q_raises_3, q_raises_4, q_raises_5, q_raises_6, q_raises_7, q_raises_8, q_raises_9, q_asks_11, q_makes_11, q_sub_11_11, q_sub_11_19, q_sub_11_13, q_sub_11_15, q_meth_11_9, q_mn_11_9, q_mk_11, q_makes_12, q_sub_12_11, q_sub_12_19, q_sub_12_13, q_sub_12_15, q_has_12_11, q_has_12_12, q_meth_12_9, q_mn_12_9, q_mk_12, q_asks_13, q_makes_13, q_sub_13_11, q_sub_13_19, q_sub_13_13, q_sub_13_15, q_has_13_1, q_meth_13_9, q_mn_13_9, q_mk_13, q_makes_14, q_sub_14_11, q_sub_14_19, q_sub_14_13, q_sub_14_15, q_has_14_0, q_has_14_3, q_has_14_4, q_has_14_6, q_has_14_7, q_meth_14_9, q_mn_14_9, q_mk_14, q_asks_15, q_makes_15, q_sub_15_11, q_sub_15_19, q_sub_15_13, q_sub_15_15, q_has_15_1, q_meth_15_9, q_mn_15_9, q_mk_15, q_makes_16, q_sub_16_11, q_sub_16_19, q_sub_16_13, q_sub_16_15, q_has_16_10, q_meth_16_9, q_mn_16_9, q_mk_16, q_makes_17, q_sub_17_11, q_sub_17_19, q_sub_17_13, q_sub_17_15, q_has_17_2, q_meth_17_9, q_mn_17_9, q_mk_17, q_makes_18, q_sub_18_11, q_sub_18_19, q_sub_18_13, q_sub_18_15, q_has_18_8, q_meth_18_9, q_mn_18_9, q_mk_18, q_asks_19, q_makes_19, q_sub_19_11, q_sub_19_19, q_sub_19_13, q_sub_19_15, q_meth_19_9, q_mn_19_9, q_mk_19, q_makes_20, q_sub_20_11, q_sub_20_19, q_sub_20_13, q_sub_20_15, q_has_20_5, q_meth_20_9, q_mn_20_9, q_mk_20, chB, h, Bool.false_and]
theorem r_is_chute {ch : List (Bool × Int)} : Go (run pr fu (n + 4) 5 [.fz (ch.map stD)]) S Q ↔ Q (.bl (chB ch)) S := r_is_chuteL rfl

theorem r_check_chute {ch : List (Bool × Int)} (hl : ch.length ≤ 24) (ho : ∀ s ∈ ch, stOk s) : Go (run pr fu (n + 5) 6 [.fz (ch.map stD)]) S Q ↔ Q .non S := by
  rw [go_runV (d := d6) rfl rfl rfl (by simp only [fr_cons, fr_nil, fr_int, fr_bl, fr_str, fr_non, fr_ints, fr_co, fr_st, fr_cos, fr_sts, fr_nas, Option.bind_some, Option.map_some]; rfl)]
  simp only [d6, b6_0, g_augA, g_augS, gz_slcH, gz_slcL, gz_rev, gz_list, gz_cat, gz_walkS, gz_walkE, go_lm, go_meth, go_setFldN, putN, lookN, go_forn, go_forc, go_cons, go_nil, go_fin, go_finN, exS, ev_c, ev_g, ev_v, ev_op, ev_and, ev_or, ev_not, ev_ite, ev_ch, ev_comp, ev_call, evEs, evAnd, evOr, evSrc, evIfs, go_bnd, go_ret, go_some, go_tst, go_ite, go_noX, ex_bl, asB_bl, join_some, g_add, g_sub, g_mul, g_fdiv, g_mod, g_pow, g_shl, g_shr, g_band, g_neg, g_lt, g_le, g_gt, g_ge, g_max2, g_min2, g_mkT, g_mkL, g_newF, g_newC, g_idxT, g_idxF, g_isT_tup, g_isT_fz, g_isT_int, g_isT_str, g_isT_bl, g_len_tup, g_len_fz, g_eqI, g_neI, g_eqS, g_eqB, g_isB, g_isnotB, g_isin2, at0, at1, ex_some, List.getElem?_cons_zero, List.getElem?_cons_succ, List.set_cons_zero, List.set_cons_succ, startE, List.map_cons, List.map_nil, List.length_cons, List.length_nil, Nat.reduceAdd, Nat.reduceSub, List.replicate_succ, List.replicate_zero, List.cons_append, List.nil_append, bd_nm, bd_tp, bds_nil, bds_nm, bds_tp, Option.bind_some, setAll, wipeE, Bool.not_true, Bool.not_false, Bool.false_eq_true, if_true, if_false, true_and, and_true, decide_true, decide_false, fin_f, fin_bl0, fin_bl1, fin_bl2, fin_int0, fin_int1, fin_int2, fin_non0, fin_non1, fin_ints0, fin_ints1, fic_bl, fic_int, fic_non, fic_str, fic_ints, fiv_bl, fiv_int, fiv_non, ev_ch3, bd_tpL, ev_mxk, ev_callv, go_lq, q_raises_1, q_raises_2, q_raises_3, q_raises_4, q_raises_5, q_raises_6, q_raises_7, q_raises_8, q_raises_9, q_asks_11, q_makes_11, q_sub_11_11, q_sub_11_19, q_sub_11_13, q_sub_11_15, q_meth_11_9, q_mn_11_9, q_mk_11, q_makes_12, q_sub_12_11, q_sub_12_19, q_sub_12_13, q_sub_12_15, q_has_12_11, q_has_12_12, q_meth_12_9, q_mn_12_9, q_mk_12, q_asks_13, q_makes_13, q_sub_13_11, q_sub_13_19, q_sub_13_13, q_sub_13_15, q_has_13_1, q_meth_13_9, q_mn_13_9, q_mk_13, q_makes_14, q_sub_14_11, q_sub_14_19, q_sub_14_13, q_sub_14_15, q_has_14_0, q_has_14_3, q_has_14_4, q_has_14_6, q_has_14_7, q_meth_14_9, q_mn_14_9, q_mk_14, q_asks_15, q_makes_15, q_sub_15_11, q_sub_15_19, q_sub_15_13, q_sub_15_15, q_has_15_1, q_meth_15_9, q_mn_15_9, q_mk_15, q_makes_16, q_sub_16_11, q_sub_16_19, q_sub_16_13, q_sub_16_15, q_has_16_10, q_meth_16_9, q_mn_16_9, q_mk_16, q_makes_17, q_sub_17_11, q_sub_17_19, q_sub_17_13, q_sub_17_15, q_has_17_2, q_meth_17_9, q_mn_17_9, q_mk_17, q_makes_18, q_sub_18_11, q_sub_18_19, q_sub_18_13, q_sub_18_15, q_has_18_8, q_meth_18_9, q_mn_18_9, q_mk_18, q_asks_19, q_makes_19, q_sub_19_11, q_sub_19_19, q_sub_19_13, q_sub_19_15, q_meth_19_9, q_mn_19_9, q_mk_19, q_makes_20, q_sub_20_11, q_sub_20_19, q_sub_20_13, q_sub_20_15, q_has_20_5, q_meth_20_9, q_mn_20_9, q_mk_20, r_is_chute, chB_ok hl ho]

theorem r_box_of {ch : List (Bool × Int)} {c : Int × Int} : Go (run pr fu (n + 2) 13 [.fz (ch.map stD), coD c]) S Q ↔ Q (.int (box ch c)) S := by
  suffices z : Go (run pr fu (n + 2) 13 [.fz (ch.map stD), coD c]) S fun d S' => d = .int (box ch c) ∧ S' = S from (is_iff.mpr z).go
  rw [go_runV (d := d13) rfl rfl rfl (by simp only [fr_cons, fr_nil, fr_int, fr_bl, fr_str, fr_non, fr_ints, fr_co, fr_st, fr_cos, fr_sts, fr_nas, Option.bind_some, Option.map_some]; rfl)]
  simp only [d13, b13_0, b13_1, g_augA, g_augS, gz_slcH, gz_slcL, gz_rev, gz_list, gz_cat, gz_walkS, gz_walkE, go_lm, go_meth, go_setFldN, putN, lookN, go_forn, go_forc, go_cons, go_nil, go_fin, go_finN, exS, ev_c, ev_g, ev_v, ev_op, ev_and, ev_or, ev_not, ev_ite, ev_ch, ev_comp, ev_call, evEs, evAnd, evOr, evSrc, evIfs, go_bnd, go_ret, go_some, go_tst, go_ite, go_noX, ex_bl, asB_bl, join_some, g_add, g_sub, g_mul, g_fdiv, g_mod, g_pow, g_shl, g_shr, g_band, g_neg, g_lt, g_le, g_gt, g_ge, g_max2, g_min2, g_mkT, g_mkL, g_newF, g_newC, g_idxT, g_idxF, g_isT_tup, g_isT_fz, g_isT_int, g_isT_str, g_isT_bl, g_len_tup, g_len_fz, g_eqI, g_neI, g_eqS, g_eqB, g_isB, g_isnotB, g_isin2, at0, at1, ex_some, List.getElem?_cons_zero, List.getElem?_cons_succ, List.set_cons_zero, List.set_cons_succ, startE, List.map_cons, List.map_nil, List.length_cons, List.length_nil, Nat.reduceAdd, Nat.reduceSub, List.replicate_succ, List.replicate_zero, List.cons_append, List.nil_append, bd_nm, bd_tp, bds_nil, bds_nm, bds_tp, Option.bind_some, setAll, wipeE, Bool.not_true, Bool.not_false, Bool.false_eq_true, if_true, if_false, true_and, and_true, decide_true, decide_false, fin_f, fin_bl0, fin_bl1, fin_bl2, fin_int0, fin_int1, fin_int2, fin_non0, fin_non1, fin_ints0, fin_ints1, fic_bl, fic_int, fic_non, fic_str, fic_ints, fiv_bl, fiv_int, fiv_non, ev_ch3, bd_tpL, ev_mxk, ev_callv, go_lq, q_raises_1, q_raises_2, q_raises_3, q_raises_4, q_raises_5, q_raises_6, q_raises_7, q_raises_8, q_raises_9, q_asks_11, q_makes_11, q_sub_11_11, q_sub_11_19, q_sub_11_13, q_sub_11_15, q_meth_11_9, q_mn_11_9, q_mk_11, q_makes_12, q_sub_12_11, q_sub_12_19, q_sub_12_13, q_sub_12_15, q_has_12_11, q_has_12_12, q_meth_12_9, q_mn_12_9, q_mk_12, q_asks_13, q_makes_13, q_sub_13_11, q_sub_13_19, q_sub_13_13, q_sub_13_15, q_has_13_1, q_meth_13_9, q_mn_13_9, q_mk_13, q_makes_14, q_sub_14_11, q_sub_14_19, q_sub_14_13, q_sub_14_15, q_has_14_0, q_has_14_3, q_has_14_4, q_has_14_6, q_has_14_7, q_meth_14_9, q_mn_14_9, q_mk_14, q_asks_15, q_makes_15, q_sub_15_11, q_sub_15_19, q_sub_15_13, q_sub_15_15, q_has_15_1, q_meth_15_9, q_mn_15_9, q_mk_15, q_makes_16, q_sub_16_11, q_sub_16_19, q_sub_16_13, q_sub_16_15, q_has_16_10, q_meth_16_9, q_mn_16_9, q_mk_16, q_makes_17, q_sub_17_11, q_sub_17_19, q_sub_17_13, q_sub_17_15, q_has_17_2, q_meth_17_9, q_mn_17_9, q_mk_17, q_makes_18, q_sub_18_11, q_sub_18_19, q_sub_18_13, q_sub_18_15, q_has_18_8, q_meth_18_9, q_mn_18_9, q_mk_18, q_asks_19, q_makes_19, q_sub_19_11, q_sub_19_19, q_sub_19_13, q_sub_19_15, q_meth_19_9, q_mn_19_9, q_mk_19, q_makes_20, q_sub_20_11, q_sub_20_19, q_sub_20_13, q_sub_20_15, q_has_20_5, q_meth_20_9, q_mn_20_9, q_mk_20]
  refine go_for (fun ds ρ S' => S' = [] ∧ ∃ (k : Nat) (rest : List (Bool × Int)) (u w : Option D), ds = enumD k (rest.map stD) ∧ ρ = [some (.fz (ch.map stD)), some (coD c), u, w] ∧ box ch c = k + box rest c ∧ k + rest.length = ch.length) ?_ ?_ _ _ _ ⟨rfl, 0, ch, none, none, rfl, rfl, by simp, by simp⟩
  · rintro d ds ρ S' ⟨rfl, k, rest, u, w, hd, rfl, hb, hk⟩
    cases rest with
    | nil => cases hd
    | cons s rest =>
      cases hd
      refine ⟨_, rfl, ?_⟩
      simp only [g_augA, g_augS, gz_slcH, gz_slcL, gz_rev, gz_list, gz_cat, gz_walkS, gz_walkE, go_lm, go_meth, go_setFldN, putN, lookN, go_forn, go_forc, go_cons, go_nil, go_fin, go_finN, exS, ev_c, ev_g, ev_v, ev_op, ev_and, ev_or, ev_not, ev_ite, ev_ch, ev_comp, ev_call, evEs, evAnd, evOr, evSrc, evIfs, go_bnd, go_ret, go_some, go_tst, go_ite, go_noX, ex_bl, asB_bl, join_some, g_add, g_sub, g_mul, g_fdiv, g_mod, g_pow, g_shl, g_shr, g_band, g_neg, g_lt, g_le, g_gt, g_ge, g_max2, g_min2, g_mkT, g_mkL, g_newF, g_newC, g_idxT, g_idxF, g_isT_tup, g_isT_fz, g_isT_int, g_isT_str, g_isT_bl, g_len_tup, g_len_fz, g_eqI, g_neI, g_eqS, g_eqB, g_isB, g_isnotB, g_isin2, at0, at1, ex_some, List.getElem?_cons_zero, List.getElem?_cons_succ, List.set_cons_zero, List.set_cons_succ, startE, List.map_cons, List.map_nil, List.length_cons, List.length_nil, Nat.reduceAdd, Nat.reduceSub, List.replicate_succ, List.replicate_zero, List.cons_append, List.nil_append, bd_nm, bd_tp, bds_nil, bds_nm, bds_tp, Option.bind_some, setAll, wipeE, Bool.not_true, Bool.not_false, Bool.false_eq_true, if_true, if_false, true_and, and_true, decide_true, decide_false, fin_f, fin_bl0, fin_bl1, fin_bl2, fin_int0, fin_int1, fin_int2, fin_non0, fin_non1, fin_ints0, fin_ints1, fic_bl, fic_int, fic_non, fic_str, fic_ints, fiv_bl, fiv_int, fiv_non, ev_ch3, bd_tpL, ev_mxk, ev_callv, go_lq, q_raises_1, q_raises_2, q_raises_3, q_raises_4, q_raises_5, q_raises_6, q_raises_7, q_raises_8, q_raises_9, q_asks_11, q_makes_11, q_sub_11_11, q_sub_11_19, q_sub_11_13, q_sub_11_15, q_meth_11_9, q_mn_11_9, q_mk_11, q_makes_12, q_sub_12_11, q_sub_12_19, q_sub_12_13, q_sub_12_15, q_has_12_11, q_has_12_12, q_meth_12_9, q_mn_12_9, q_mk_12, q_asks_13, q_makes_13, q_sub_13_11, q_sub_13_19, q_sub_13_13, q_sub_13_15, q_has_13_1, q_meth_13_9, q_mn_13_9, q_mk_13, q_makes_14, q_sub_14_11, q_sub_14_19, q_sub_14_13, q_sub_14_15, q_has_14_0, q_has_14_3, q_has_14_4, q_has_14_6, q_has_14_7, q_meth_14_9, q_mn_14_9, q_mk_14, q_asks_15, q_makes_15, q_sub_15_11, q_sub_15_19, q_sub_15_13, q_sub_15_15, q_has_15_1, q_meth_15_9, q_mn_15_9, q_mk_15, q_makes_16, q_sub_16_11, q_sub_16_19, q_sub_16_13, q_sub_16_15, q_has_16_10, q_meth_16_9, q_mn_16_9, q_mk_16, q_makes_17, q_sub_17_11, q_sub_17_19, q_sub_17_13, q_sub_17_15, q_has_17_2, q_meth_17_9, q_mn_17_9, q_mk_17, q_makes_18, q_sub_18_11, q_sub_18_19, q_sub_18_13, q_sub_18_15, q_has_18_8, q_meth_18_9, q_mn_18_9, q_mk_18, q_asks_19, q_makes_19, q_sub_19_11, q_sub_19_19, q_sub_19_13, q_sub_19_15, q_meth_19_9, q_mn_19_9, q_mk_19, q_makes_20, q_sub_20_11, q_sub_20_19, q_sub_20_13, q_sub_20_15, q_has_20_5, q_meth_20_9, q_mn_20_9, q_mk_20, r_falls]
      cases hf : falls s c with
      | true =>
        simp only [g_augA, g_augS, gz_slcH, gz_slcL, gz_rev, gz_list, gz_cat, gz_walkS, gz_walkE, go_lm, go_meth, go_setFldN, putN, lookN, go_forn, go_forc, go_cons, go_nil, go_fin, go_finN, exS, ev_c, ev_g, ev_v, ev_op, ev_and, ev_or, ev_not, ev_ite, ev_ch, ev_comp, ev_call, evEs, evAnd, evOr, evSrc, evIfs, go_bnd, go_ret, go_some, go_tst, go_ite, go_noX, ex_bl, asB_bl, join_some, g_add, g_sub, g_mul, g_fdiv, g_mod, g_pow, g_shl, g_shr, g_band, g_neg, g_lt, g_le, g_gt, g_ge, g_max2, g_min2, g_mkT, g_mkL, g_newF, g_newC, g_idxT, g_idxF, g_isT_tup, g_isT_fz, g_isT_int, g_isT_str, g_isT_bl, g_len_tup, g_len_fz, g_eqI, g_neI, g_eqS, g_eqB, g_isB, g_isnotB, g_isin2, at0, at1, ex_some, List.getElem?_cons_zero, List.getElem?_cons_succ, List.set_cons_zero, List.set_cons_succ, startE, List.map_cons, List.map_nil, List.length_cons, List.length_nil, Nat.reduceAdd, Nat.reduceSub, List.replicate_succ, List.replicate_zero, List.cons_append, List.nil_append, bd_nm, bd_tp, bds_nil, bds_nm, bds_tp, Option.bind_some, setAll, wipeE, Bool.not_true, Bool.not_false, Bool.false_eq_true, if_true, if_false, true_and, and_true, decide_true, decide_false, fin_f, fin_bl0, fin_bl1, fin_bl2, fin_int0, fin_int1, fin_int2, fin_non0, fin_non1, fin_ints0, fin_ints1, fic_bl, fic_int, fic_non, fic_str, fic_ints, fiv_bl, fiv_int, fiv_non, ev_ch3, bd_tpL, ev_mxk, ev_callv, go_lq, q_raises_1, q_raises_2, q_raises_3, q_raises_4, q_raises_5, q_raises_6, q_raises_7, q_raises_8, q_raises_9, q_asks_11, q_makes_11, q_sub_11_11, q_sub_11_19, q_sub_11_13, q_sub_11_15, q_meth_11_9, q_mn_11_9, q_mk_11, q_makes_12, q_sub_12_11, q_sub_12_19, q_sub_12_13, q_sub_12_15, q_has_12_11, q_has_12_12, q_meth_12_9, q_mn_12_9, q_mk_12, q_asks_13, q_makes_13, q_sub_13_11, q_sub_13_19, q_sub_13_13, q_sub_13_15, q_has_13_1, q_meth_13_9, q_mn_13_9, q_mk_13, q_makes_14, q_sub_14_11, q_sub_14_19, q_sub_14_13, q_sub_14_15, q_has_14_0, q_has_14_3, q_has_14_4, q_has_14_6, q_has_14_7, q_meth_14_9, q_mn_14_9, q_mk_14, q_asks_15, q_makes_15, q_sub_15_11, q_sub_15_19, q_sub_15_13, q_sub_15_15, q_has_15_1, q_meth_15_9, q_mn_15_9, q_mk_15, q_makes_16, q_sub_16_11, q_sub_16_19, q_sub_16_13, q_sub_16_15, q_has_16_10, q_meth_16_9, q_mn_16_9, q_mk_16, q_makes_17, q_sub_17_11, q_sub_17_19, q_sub_17_13, q_sub_17_15, q_has_17_2, q_meth_17_9, q_mn_17_9, q_mk_17, q_makes_18, q_sub_18_11, q_sub_18_19, q_sub_18_13, q_sub_18_15, q_has_18_8, q_meth_18_9, q_mn_18_9, q_mk_18, q_asks_19, q_makes_19, q_sub_19_11, q_sub_19_19, q_sub_19_13, q_sub_19_15, q_meth_19_9, q_mn_19_9, q_mk_19, q_makes_20, q_sub_20_11, q_sub_20_19, q_sub_20_13, q_sub_20_15, q_has_20_5, q_meth_20_9, q_mn_20_9, q_mk_20, box, hf] at hb ⊢
        simp [hb]
      | false =>
        simp only [g_augA, g_augS, gz_slcH, gz_slcL, gz_rev, gz_list, gz_cat, gz_walkS, gz_walkE, go_lm, go_meth, go_setFldN, putN, lookN, go_forn, go_forc, go_cons, go_nil, go_fin, go_finN, exS, ev_c, ev_g, ev_v, ev_op, ev_and, ev_or, ev_not, ev_ite, ev_ch, ev_comp, ev_call, evEs, evAnd, evOr, evSrc, evIfs, go_bnd, go_ret, go_some, go_tst, go_ite, go_noX, ex_bl, asB_bl, join_some, g_add, g_sub, g_mul, g_fdiv, g_mod, g_pow, g_shl, g_shr, g_band, g_neg, g_lt, g_le, g_gt, g_ge, g_max2, g_min2, g_mkT, g_mkL, g_newF, g_newC, g_idxT, g_idxF, g_isT_tup, g_isT_fz, g_isT_int, g_isT_str, g_isT_bl, g_len_tup, g_len_fz, g_eqI, g_neI, g_eqS, g_eqB, g_isB, g_isnotB, g_isin2, at0, at1, ex_some, List.getElem?_cons_zero, List.getElem?_cons_succ, List.set_cons_zero, List.set_cons_succ, startE, List.map_cons, List.map_nil, List.length_cons, List.length_nil, Nat.reduceAdd, Nat.reduceSub, List.replicate_succ, List.replicate_zero, List.cons_append, List.nil_append, bd_nm, bd_tp, bds_nil, bds_nm, bds_tp, Option.bind_some, setAll, wipeE, Bool.not_true, Bool.not_false, Bool.false_eq_true, if_true, if_false, true_and, and_true, decide_true, decide_false, fin_f, fin_bl0, fin_bl1, fin_bl2, fin_int0, fin_int1, fin_int2, fin_non0, fin_non1, fin_ints0, fin_ints1, fic_bl, fic_int, fic_non, fic_str, fic_ints, fiv_bl, fiv_int, fiv_non, ev_ch3, bd_tpL, ev_mxk, ev_callv, go_lq, q_raises_1, q_raises_2, q_raises_3, q_raises_4, q_raises_5, q_raises_6, q_raises_7, q_raises_8, q_raises_9, q_asks_11, q_makes_11, q_sub_11_11, q_sub_11_19, q_sub_11_13, q_sub_11_15, q_meth_11_9, q_mn_11_9, q_mk_11, q_makes_12, q_sub_12_11, q_sub_12_19, q_sub_12_13, q_sub_12_15, q_has_12_11, q_has_12_12, q_meth_12_9, q_mn_12_9, q_mk_12, q_asks_13, q_makes_13, q_sub_13_11, q_sub_13_19, q_sub_13_13, q_sub_13_15, q_has_13_1, q_meth_13_9, q_mn_13_9, q_mk_13, q_makes_14, q_sub_14_11, q_sub_14_19, q_sub_14_13, q_sub_14_15, q_has_14_0, q_has_14_3, q_has_14_4, q_has_14_6, q_has_14_7, q_meth_14_9, q_mn_14_9, q_mk_14, q_asks_15, q_makes_15, q_sub_15_11, q_sub_15_19, q_sub_15_13, q_sub_15_15, q_has_15_1, q_meth_15_9, q_mn_15_9, q_mk_15, q_makes_16, q_sub_16_11, q_sub_16_19, q_sub_16_13, q_sub_16_15, q_has_16_10, q_meth_16_9, q_mn_16_9, q_mk_16, q_makes_17, q_sub_17_11, q_sub_17_19, q_sub_17_13, q_sub_17_15, q_has_17_2, q_meth_17_9, q_mn_17_9, q_mk_17, q_makes_18, q_sub_18_11, q_sub_18_19, q_sub_18_13, q_sub_18_15, q_has_18_8, q_meth_18_9, q_mn_18_9, q_mk_18, q_asks_19, q_makes_19, q_sub_19_11, q_sub_19_19, q_sub_19_13, q_sub_19_15, q_meth_19_9, q_mn_19_9, q_mk_19, q_makes_20, q_sub_20_11, q_sub_20_19, q_sub_20_13, q_sub_20_15, q_has_20_5, q_meth_20_9, q_mn_20_9, q_mk_20, box, hf] at hb ⊢
        exact ⟨rfl, k + 1, rest, _, _, rfl, rfl, by omega, by simp at hk; omega⟩
  · rintro ρ S' ⟨rfl, k, rest, u, w, hd, rfl, hb, hk⟩
    cases rest with
    | nil =>
      simp only [g_augA, g_augS, gz_slcH, gz_slcL, gz_rev, gz_list, gz_cat, gz_walkS, gz_walkE, go_lm, go_meth, go_setFldN, putN, lookN, go_forn, go_forc, go_cons, go_nil, go_fin, go_finN, exS, ev_c, ev_g, ev_v, ev_op, ev_and, ev_or, ev_not, ev_ite, ev_ch, ev_comp, ev_call, evEs, evAnd, evOr, evSrc, evIfs, go_bnd, go_ret, go_some, go_tst, go_ite, go_noX, ex_bl, asB_bl, join_some, g_add, g_sub, g_mul, g_fdiv, g_mod, g_pow, g_shl, g_shr, g_band, g_neg, g_lt, g_le, g_gt, g_ge, g_max2, g_min2, g_mkT, g_mkL, g_newF, g_newC, g_idxT, g_idxF, g_isT_tup, g_isT_fz, g_isT_int, g_isT_str, g_isT_bl, g_len_tup, g_len_fz, g_eqI, g_neI, g_eqS, g_eqB, g_isB, g_isnotB, g_isin2, at0, at1, ex_some, List.getElem?_cons_zero, List.getElem?_cons_succ, List.set_cons_zero, List.set_cons_succ, startE, List.map_cons, List.map_nil, List.length_cons, List.length_nil, Nat.reduceAdd, Nat.reduceSub, List.replicate_succ, List.replicate_zero, List.cons_append, List.nil_append, bd_nm, bd_tp, bds_nil, bds_nm, bds_tp, Option.bind_some, setAll, wipeE, Bool.not_true, Bool.not_false, Bool.false_eq_true, if_true, if_false, true_and, and_true, decide_true, decide_false, fin_f, fin_bl0, fin_bl1, fin_bl2, fin_int0, fin_int1, fin_int2, fin_non0, fin_non1, fin_ints0, fin_ints1, fic_bl, fic_int, fic_non, fic_str, fic_ints, fiv_bl, fiv_int, fiv_non, ev_ch3, bd_tpL, ev_mxk, ev_callv, go_lq, q_raises_1, q_raises_2, q_raises_3, q_raises_4, q_raises_5, q_raises_6, q_raises_7, q_raises_8, q_raises_9, q_asks_11, q_makes_11, q_sub_11_11, q_sub_11_19, q_sub_11_13, q_sub_11_15, q_meth_11_9, q_mn_11_9, q_mk_11, q_makes_12, q_sub_12_11, q_sub_12_19, q_sub_12_13, q_sub_12_15, q_has_12_11, q_has_12_12, q_meth_12_9, q_mn_12_9, q_mk_12, q_asks_13, q_makes_13, q_sub_13_11, q_sub_13_19, q_sub_13_13, q_sub_13_15, q_has_13_1, q_meth_13_9, q_mn_13_9, q_mk_13, q_makes_14, q_sub_14_11, q_sub_14_19, q_sub_14_13, q_sub_14_15, q_has_14_0, q_has_14_3, q_has_14_4, q_has_14_6, q_has_14_7, q_meth_14_9, q_mn_14_9, q_mk_14, q_asks_15, q_makes_15, q_sub_15_11, q_sub_15_19, q_sub_15_13, q_sub_15_15, q_has_15_1, q_meth_15_9, q_mn_15_9, q_mk_15, q_makes_16, q_sub_16_11, q_sub_16_19, q_sub_16_13, q_sub_16_15, q_has_16_10, q_meth_16_9, q_mn_16_9, q_mk_16, q_makes_17, q_sub_17_11, q_sub_17_19, q_sub_17_13, q_sub_17_15, q_has_17_2, q_meth_17_9, q_mn_17_9, q_mk_17, q_makes_18, q_sub_18_11, q_sub_18_19, q_sub_18_13, q_sub_18_15, q_has_18_8, q_meth_18_9, q_mn_18_9, q_mk_18, q_asks_19, q_makes_19, q_sub_19_11, q_sub_19_19, q_sub_19_13, q_sub_19_15, q_meth_19_9, q_mn_19_9, q_mk_19, q_makes_20, q_sub_20_11, q_sub_20_19, q_sub_20_13, q_sub_20_15, q_has_20_5, q_meth_20_9, q_mn_20_9, q_mk_20, List.length_map]
      simp [box] at hb hk
      simp [hb, hk]
    | cons s rest => cases hd

theorem r_boxes_of {ch : List (Bool × Int)} {ks : List (Int × Int)} : Go (run pr fu (n + 3) 14 [.fz (ks.map coD), .fz (ch.map stD)]) S Q ↔ Q (.fz ((ks.map (box ch)).map naD)) S := by
  rw [go_runC (d := d14) rfl rfl rfl (by simp only [pls_cons, pls_nil, pl_ints, pl_int, pl_bl, pl_str, pl_non, pl_co, pl_st, pl_cos, pl_sts, pl_nas, Bool.and_self, Bool.true_and])]
  simp only [d14, b14_0, g_augA, g_augS, gz_slcH, gz_slcL, gz_rev, gz_list, gz_cat, gz_walkS, gz_walkE, go_lm, go_meth, go_setFldN, putN, lookN, go_forn, go_forc, go_cons, go_nil, go_fin, go_finN, exS, ev_c, ev_g, ev_v, ev_op, ev_and, ev_or, ev_not, ev_ite, ev_ch, ev_comp, ev_call, evEs, evAnd, evOr, evSrc, evIfs, go_bnd, go_ret, go_some, go_tst, go_ite, go_noX, ex_bl, asB_bl, join_some, g_add, g_sub, g_mul, g_fdiv, g_mod, g_pow, g_shl, g_shr, g_band, g_neg, g_lt, g_le, g_gt, g_ge, g_max2, g_min2, g_mkT, g_mkL, g_newF, g_newC, g_idxT, g_idxF, g_isT_tup, g_isT_fz, g_isT_int, g_isT_str, g_isT_bl, g_len_tup, g_len_fz, g_eqI, g_neI, g_eqS, g_eqB, g_isB, g_isnotB, g_isin2, at0, at1, ex_some, List.getElem?_cons_zero, List.getElem?_cons_succ, List.set_cons_zero, List.set_cons_succ, startE, List.map_cons, List.map_nil, List.length_cons, List.length_nil, Nat.reduceAdd, Nat.reduceSub, List.replicate_succ, List.replicate_zero, List.cons_append, List.nil_append, bd_nm, bd_tp, bds_nil, bds_nm, bds_tp, Option.bind_some, setAll, wipeE, Bool.not_true, Bool.not_false, Bool.false_eq_true, if_true, if_false, true_and, and_true, decide_true, decide_false, fin_f, fin_bl0, fin_bl1, fin_bl2, fin_int0, fin_int1, fin_int2, fin_non0, fin_non1, fin_ints0, fin_ints1, fic_bl, fic_int, fic_non, fic_str, fic_ints, fiv_bl, fiv_int, fiv_non, ev_ch3, bd_tpL, ev_mxk, ev_callv, go_lq, q_raises_1, q_raises_2, q_raises_3, q_raises_4, q_raises_5, q_raises_6, q_raises_7, q_raises_8, q_raises_9, q_asks_11, q_makes_11, q_sub_11_11, q_sub_11_19, q_sub_11_13, q_sub_11_15, q_meth_11_9, q_mn_11_9, q_mk_11, q_makes_12, q_sub_12_11, q_sub_12_19, q_sub_12_13, q_sub_12_15, q_has_12_11, q_has_12_12, q_meth_12_9, q_mn_12_9, q_mk_12, q_asks_13, q_makes_13, q_sub_13_11, q_sub_13_19, q_sub_13_13, q_sub_13_15, q_has_13_1, q_meth_13_9, q_mn_13_9, q_mk_13, q_makes_14, q_sub_14_11, q_sub_14_19, q_sub_14_13, q_sub_14_15, q_has_14_0, q_has_14_3, q_has_14_4, q_has_14_6, q_has_14_7, q_meth_14_9, q_mn_14_9, q_mk_14, q_asks_15, q_makes_15, q_sub_15_11, q_sub_15_19, q_sub_15_13, q_sub_15_15, q_has_15_1, q_meth_15_9, q_mn_15_9, q_mk_15, q_makes_16, q_sub_16_11, q_sub_16_19, q_sub_16_13, q_sub_16_15, q_has_16_10, q_meth_16_9, q_mn_16_9, q_mk_16, q_makes_17, q_sub_17_11, q_sub_17_19, q_sub_17_13, q_sub_17_15, q_has_17_2, q_meth_17_9, q_mn_17_9, q_mk_17, q_makes_18, q_sub_18_11, q_sub_18_19, q_sub_18_13, q_sub_18_15, q_has_18_8, q_meth_18_9, q_mn_18_9, q_mk_18, q_asks_19, q_makes_19, q_sub_19_11, q_sub_19_19, q_sub_19_13, q_sub_19_15, q_meth_19_9, q_mn_19_9, q_mk_19, q_makes_20, q_sub_20_11, q_sub_20_19, q_sub_20_13, q_sub_20_15, q_has_20_5, q_meth_20_9, q_mn_20_9, q_mk_20]
  rw [go_mapA coD (fun k => .int (box ch k)) rfl fun s hs => ⟨_, rfl, ?h⟩]
  case h =>
    rw [is_iff]
    simp only [g_augA, g_augS, gz_slcH, gz_slcL, gz_rev, gz_list, gz_cat, gz_walkS, gz_walkE, go_lm, go_meth, go_setFldN, putN, lookN, go_forn, go_forc, go_cons, go_nil, go_fin, go_finN, exS, ev_c, ev_g, ev_v, ev_op, ev_and, ev_or, ev_not, ev_ite, ev_ch, ev_comp, ev_call, evEs, evAnd, evOr, evSrc, evIfs, go_bnd, go_ret, go_some, go_tst, go_ite, go_noX, ex_bl, asB_bl, join_some, g_add, g_sub, g_mul, g_fdiv, g_mod, g_pow, g_shl, g_shr, g_band, g_neg, g_lt, g_le, g_gt, g_ge, g_max2, g_min2, g_mkT, g_mkL, g_newF, g_newC, g_idxT, g_idxF, g_isT_tup, g_isT_fz, g_isT_int, g_isT_str, g_isT_bl, g_len_tup, g_len_fz, g_eqI, g_neI, g_eqS, g_eqB, g_isB, g_isnotB, g_isin2, at0, at1, ex_some, List.getElem?_cons_zero, List.getElem?_cons_succ, List.set_cons_zero, List.set_cons_succ, startE, List.map_cons, List.map_nil, List.length_cons, List.length_nil, Nat.reduceAdd, Nat.reduceSub, List.replicate_succ, List.replicate_zero, List.cons_append, List.nil_append, bd_nm, bd_tp, bds_nil, bds_nm, bds_tp, Option.bind_some, setAll, wipeE, Bool.not_true, Bool.not_false, Bool.false_eq_true, if_true, if_false, true_and, and_true, decide_true, decide_false, fin_f, fin_bl0, fin_bl1, fin_bl2, fin_int0, fin_int1, fin_int2, fin_non0, fin_non1, fin_ints0, fin_ints1, fic_bl, fic_int, fic_non, fic_str, fic_ints, fiv_bl, fiv_int, fiv_non, ev_ch3, bd_tpL, ev_mxk, ev_callv, go_lq, q_raises_1, q_raises_2, q_raises_3, q_raises_4, q_raises_5, q_raises_6, q_raises_7, q_raises_8, q_raises_9, q_asks_11, q_makes_11, q_sub_11_11, q_sub_11_19, q_sub_11_13, q_sub_11_15, q_meth_11_9, q_mn_11_9, q_mk_11, q_makes_12, q_sub_12_11, q_sub_12_19, q_sub_12_13, q_sub_12_15, q_has_12_11, q_has_12_12, q_meth_12_9, q_mn_12_9, q_mk_12, q_asks_13, q_makes_13, q_sub_13_11, q_sub_13_19, q_sub_13_13, q_sub_13_15, q_has_13_1, q_meth_13_9, q_mn_13_9, q_mk_13, q_makes_14, q_sub_14_11, q_sub_14_19, q_sub_14_13, q_sub_14_15, q_has_14_0, q_has_14_3, q_has_14_4, q_has_14_6, q_has_14_7, q_meth_14_9, q_mn_14_9, q_mk_14, q_asks_15, q_makes_15, q_sub_15_11, q_sub_15_19, q_sub_15_13, q_sub_15_15, q_has_15_1, q_meth_15_9, q_mn_15_9, q_mk_15, q_makes_16, q_sub_16_11, q_sub_16_19, q_sub_16_13, q_sub_16_15, q_has_16_10, q_meth_16_9, q_mn_16_9, q_mk_16, q_makes_17, q_sub_17_11, q_sub_17_19, q_sub_17_13, q_sub_17_15, q_has_17_2, q_meth_17_9, q_mn_17_9, q_mk_17, q_makes_18, q_sub_18_11, q_sub_18_19, q_sub_18_13, q_sub_18_15, q_has_18_8, q_meth_18_9, q_mn_18_9, q_mk_18, q_asks_19, q_makes_19, q_sub_19_11, q_sub_19_19, q_sub_19_13, q_sub_19_15, q_meth_19_9, q_mn_19_9, q_mk_19, q_makes_20, q_sub_20_11, q_sub_20_19, q_sub_20_13, q_sub_20_15, q_has_20_5, q_meth_20_9, q_mn_20_9, q_mk_20, r_box_of]
  rw [show (ks.map fun k => D.int (box ch k)) = (ks.map (box ch)).map naD from by simp]
  exact fic_nas

def coOk (c : Int × Int) : Prop := (1 ≤ c.1 ∧ c.1 ≤ 100) ∧ 1 ≤ c.2 ∧ c.2 ≤ 100

theorem r_check_kinds {ks : List (Int × Int)} (h1 : 1 ≤ ks.length) (h2 : ks.length ≤ 20) (ho : ∀ c ∈ ks, coOk c) (nd : ks.Nodup) : Go (run pr fu (n + 4) 3 [.fz (ks.map coD)]) S Q ↔ Q .non S := by
  rw [go_runV (d := d3) rfl rfl rfl (by simp only [fr_cons, fr_nil, fr_int, fr_bl, fr_str, fr_non, fr_ints, fr_co, fr_st, fr_cos, fr_sts, fr_nas, Option.bind_some, Option.map_some]; rfl)]
  have l1 : (1 : Int) ≤ ((ks.length : Nat) : Int) := by omega
  have l2 : ((ks.length : Nat) : Int) ≤ 20 := by omega
  have i0 : intsO (ks.map coD) = none := by
    cases ks with
    | nil => simp at h1
    | cons c r => simp [intsO, mapO, asI, coD]
  have t0 : mapO tupI (ks.map coD) = some (ks.map fun c => [c.1, c.2]) := mapO_mapG (f := tupI) (e := coD) (g := fun c => [c.1, c.2]) (fun c => rfl) ks
  have nd2 : (ks.map fun c => [c.1, c.2]).Nodup := by
    refine List.Pairwise.map _ (fun a b q e => q ?_) nd
    simp only [List.cons.injEq, and_true] at e
    exact Prod.ext e.1 e.2
  simp only [d3, b3_0, b3_1, g_augA, g_augS, gz_slcH, gz_slcL, gz_rev, gz_list, gz_cat, gz_walkS, gz_walkE, go_lm, go_meth, go_setFldN, putN, lookN, go_forn, go_forc, go_cons, go_nil, go_fin, go_finN, exS, ev_c, ev_g, ev_v, ev_op, ev_and, ev_or, ev_not, ev_ite, ev_ch, ev_comp, ev_call, evEs, evAnd, evOr, evSrc, evIfs, go_bnd, go_ret, go_some, go_tst, go_ite, go_noX, ex_bl, asB_bl, join_some, g_add, g_sub, g_mul, g_fdiv, g_mod, g_pow, g_shl, g_shr, g_band, g_neg, g_lt, g_le, g_gt, g_ge, g_max2, g_min2, g_mkT, g_mkL, g_newF, g_newC, g_idxT, g_idxF, g_isT_tup, g_isT_fz, g_isT_int, g_isT_str, g_isT_bl, g_len_tup, g_len_fz, g_eqI, g_neI, g_eqS, g_eqB, g_isB, g_isnotB, g_isin2, at0, at1, ex_some, List.getElem?_cons_zero, List.getElem?_cons_succ, List.set_cons_zero, List.set_cons_succ, startE, List.map_cons, List.map_nil, List.length_cons, List.length_nil, Nat.reduceAdd, Nat.reduceSub, List.replicate_succ, List.replicate_zero, List.cons_append, List.nil_append, bd_nm, bd_tp, bds_nil, bds_nm, bds_tp, Option.bind_some, setAll, wipeE, Bool.not_true, Bool.not_false, Bool.false_eq_true, if_true, if_false, true_and, and_true, decide_true, decide_false, fin_f, fin_bl0, fin_bl1, fin_bl2, fin_int0, fin_int1, fin_int2, fin_non0, fin_non1, fin_ints0, fin_ints1, fic_bl, fic_int, fic_non, fic_str, fic_ints, fiv_bl, fiv_int, fiv_non, ev_ch3, bd_tpL, ev_mxk, ev_callv, go_lq, q_raises_1, q_raises_2, q_raises_3, q_raises_4, q_raises_5, q_raises_6, q_raises_7, q_raises_8, q_raises_9, q_asks_11, q_makes_11, q_sub_11_11, q_sub_11_19, q_sub_11_13, q_sub_11_15, q_meth_11_9, q_mn_11_9, q_mk_11, q_makes_12, q_sub_12_11, q_sub_12_19, q_sub_12_13, q_sub_12_15, q_has_12_11, q_has_12_12, q_meth_12_9, q_mn_12_9, q_mk_12, q_asks_13, q_makes_13, q_sub_13_11, q_sub_13_19, q_sub_13_13, q_sub_13_15, q_has_13_1, q_meth_13_9, q_mn_13_9, q_mk_13, q_makes_14, q_sub_14_11, q_sub_14_19, q_sub_14_13, q_sub_14_15, q_has_14_0, q_has_14_3, q_has_14_4, q_has_14_6, q_has_14_7, q_meth_14_9, q_mn_14_9, q_mk_14, q_asks_15, q_makes_15, q_sub_15_11, q_sub_15_19, q_sub_15_13, q_sub_15_15, q_has_15_1, q_meth_15_9, q_mn_15_9, q_mk_15, q_makes_16, q_sub_16_11, q_sub_16_19, q_sub_16_13, q_sub_16_15, q_has_16_10, q_meth_16_9, q_mn_16_9, q_mk_16, q_makes_17, q_sub_17_11, q_sub_17_19, q_sub_17_13, q_sub_17_15, q_has_17_2, q_meth_17_9, q_mn_17_9, q_mk_17, q_makes_18, q_sub_18_11, q_sub_18_19, q_sub_18_13, q_sub_18_15, q_has_18_8, q_meth_18_9, q_mn_18_9, q_mk_18, q_asks_19, q_makes_19, q_sub_19_11, q_sub_19_19, q_sub_19_13, q_sub_19_15, q_meth_19_9, q_mn_19_9, q_mk_19, q_makes_20, q_sub_20_11, q_sub_20_19, q_sub_20_13, q_sub_20_15, q_has_20_5, q_meth_20_9, q_mn_20_9, q_mk_20, List.length_map, l1, l2]
  rw [go_mapA coD (fun _ => .bl true) rfl fun c hc => ⟨_, rfl, ?h⟩]
  case h =>
    rw [is_iff]
    have q := ho c hc
    simp only [g_augA, g_augS, gz_slcH, gz_slcL, gz_rev, gz_list, gz_cat, gz_walkS, gz_walkE, go_lm, go_meth, go_setFldN, putN, lookN, go_forn, go_forc, go_cons, go_nil, go_fin, go_finN, exS, ev_c, ev_g, ev_v, ev_op, ev_and, ev_or, ev_not, ev_ite, ev_ch, ev_comp, ev_call, evEs, evAnd, evOr, evSrc, evIfs, go_bnd, go_ret, go_some, go_tst, go_ite, go_noX, ex_bl, asB_bl, join_some, g_add, g_sub, g_mul, g_fdiv, g_mod, g_pow, g_shl, g_shr, g_band, g_neg, g_lt, g_le, g_gt, g_ge, g_max2, g_min2, g_mkT, g_mkL, g_newF, g_newC, g_idxT, g_idxF, g_isT_tup, g_isT_fz, g_isT_int, g_isT_str, g_isT_bl, g_len_tup, g_len_fz, g_eqI, g_neI, g_eqS, g_eqB, g_isB, g_isnotB, g_isin2, at0, at1, ex_some, List.getElem?_cons_zero, List.getElem?_cons_succ, List.set_cons_zero, List.set_cons_succ, startE, List.map_cons, List.map_nil, List.length_cons, List.length_nil, Nat.reduceAdd, Nat.reduceSub, List.replicate_succ, List.replicate_zero, List.cons_append, List.nil_append, bd_nm, bd_tp, bds_nil, bds_nm, bds_tp, Option.bind_some, setAll, wipeE, Bool.not_true, Bool.not_false, Bool.false_eq_true, if_true, if_false, true_and, and_true, decide_true, decide_false, fin_f, fin_bl0, fin_bl1, fin_bl2, fin_int0, fin_int1, fin_int2, fin_non0, fin_non1, fin_ints0, fin_ints1, fic_bl, fic_int, fic_non, fic_str, fic_ints, fiv_bl, fiv_int, fiv_non, ev_ch3, bd_tpL, ev_mxk, ev_callv, go_lq, q_raises_1, q_raises_2, q_raises_3, q_raises_4, q_raises_5, q_raises_6, q_raises_7, q_raises_8, q_raises_9, q_asks_11, q_makes_11, q_sub_11_11, q_sub_11_19, q_sub_11_13, q_sub_11_15, q_meth_11_9, q_mn_11_9, q_mk_11, q_makes_12, q_sub_12_11, q_sub_12_19, q_sub_12_13, q_sub_12_15, q_has_12_11, q_has_12_12, q_meth_12_9, q_mn_12_9, q_mk_12, q_asks_13, q_makes_13, q_sub_13_11, q_sub_13_19, q_sub_13_13, q_sub_13_15, q_has_13_1, q_meth_13_9, q_mn_13_9, q_mk_13, q_makes_14, q_sub_14_11, q_sub_14_19, q_sub_14_13, q_sub_14_15, q_has_14_0, q_has_14_3, q_has_14_4, q_has_14_6, q_has_14_7, q_meth_14_9, q_mn_14_9, q_mk_14, q_asks_15, q_makes_15, q_sub_15_11, q_sub_15_19, q_sub_15_13, q_sub_15_15, q_has_15_1, q_meth_15_9, q_mn_15_9, q_mk_15, q_makes_16, q_sub_16_11, q_sub_16_19, q_sub_16_13, q_sub_16_15, q_has_16_10, q_meth_16_9, q_mn_16_9, q_mk_16, q_makes_17, q_sub_17_11, q_sub_17_19, q_sub_17_13, q_sub_17_15, q_has_17_2, q_meth_17_9, q_mn_17_9, q_mk_17, q_makes_18, q_sub_18_11, q_sub_18_19, q_sub_18_13, q_sub_18_15, q_has_18_8, q_meth_18_9, q_mn_18_9, q_mk_18, q_asks_19, q_makes_19, q_sub_19_11, q_sub_19_19, q_sub_19_13, q_sub_19_15, q_meth_19_9, q_mn_19_9, q_mk_19, q_makes_20, q_sub_20_11, q_sub_20_19, q_sub_20_13, q_sub_20_15, q_has_20_5, q_meth_20_9, q_mn_20_9, q_mk_20, r_is_kind, decide_eq_true q.1, decide_eq_true q.2, Bool.and_self]
  rw [g_all (show asL _ (.fz _) = some _ from rfl) (bools_mapG (p := fun _ => true) ks), show ((ks.map fun _ => true).all id) = true from by simp [List.all_eq_true]]
  simp only [g_augA, g_augS, gz_slcH, gz_slcL, gz_rev, gz_list, gz_cat, gz_walkS, gz_walkE, go_lm, go_meth, go_setFldN, putN, lookN, go_forn, go_forc, go_cons, go_nil, go_fin, go_finN, exS, ev_c, ev_g, ev_v, ev_op, ev_and, ev_or, ev_not, ev_ite, ev_ch, ev_comp, ev_call, evEs, evAnd, evOr, evSrc, evIfs, go_bnd, go_ret, go_some, go_tst, go_ite, go_noX, ex_bl, asB_bl, join_some, g_add, g_sub, g_mul, g_fdiv, g_mod, g_pow, g_shl, g_shr, g_band, g_neg, g_lt, g_le, g_gt, g_ge, g_max2, g_min2, g_mkT, g_mkL, g_newF, g_newC, g_idxT, g_idxF, g_isT_tup, g_isT_fz, g_isT_int, g_isT_str, g_isT_bl, g_len_tup, g_len_fz, g_eqI, g_neI, g_eqS, g_eqB, g_isB, g_isnotB, g_isin2, at0, at1, ex_some, List.getElem?_cons_zero, List.getElem?_cons_succ, List.set_cons_zero, List.set_cons_succ, startE, List.map_cons, List.map_nil, List.length_cons, List.length_nil, Nat.reduceAdd, Nat.reduceSub, List.replicate_succ, List.replicate_zero, List.cons_append, List.nil_append, bd_nm, bd_tp, bds_nil, bds_nm, bds_tp, Option.bind_some, setAll, wipeE, Bool.not_true, Bool.not_false, Bool.false_eq_true, if_true, if_false, true_and, and_true, decide_true, decide_false, fin_f, fin_bl0, fin_bl1, fin_bl2, fin_int0, fin_int1, fin_int2, fin_non0, fin_non1, fin_ints0, fin_ints1, fic_bl, fic_int, fic_non, fic_str, fic_ints, fiv_bl, fiv_int, fiv_non, ev_ch3, bd_tpL, ev_mxk, ev_callv, go_lq, q_raises_1, q_raises_2, q_raises_3, q_raises_4, q_raises_5, q_raises_6, q_raises_7, q_raises_8, q_raises_9, q_asks_11, q_makes_11, q_sub_11_11, q_sub_11_19, q_sub_11_13, q_sub_11_15, q_meth_11_9, q_mn_11_9, q_mk_11, q_makes_12, q_sub_12_11, q_sub_12_19, q_sub_12_13, q_sub_12_15, q_has_12_11, q_has_12_12, q_meth_12_9, q_mn_12_9, q_mk_12, q_asks_13, q_makes_13, q_sub_13_11, q_sub_13_19, q_sub_13_13, q_sub_13_15, q_has_13_1, q_meth_13_9, q_mn_13_9, q_mk_13, q_makes_14, q_sub_14_11, q_sub_14_19, q_sub_14_13, q_sub_14_15, q_has_14_0, q_has_14_3, q_has_14_4, q_has_14_6, q_has_14_7, q_meth_14_9, q_mn_14_9, q_mk_14, q_asks_15, q_makes_15, q_sub_15_11, q_sub_15_19, q_sub_15_13, q_sub_15_15, q_has_15_1, q_meth_15_9, q_mn_15_9, q_mk_15, q_makes_16, q_sub_16_11, q_sub_16_19, q_sub_16_13, q_sub_16_15, q_has_16_10, q_meth_16_9, q_mn_16_9, q_mk_16, q_makes_17, q_sub_17_11, q_sub_17_19, q_sub_17_13, q_sub_17_15, q_has_17_2, q_meth_17_9, q_mn_17_9, q_mk_17, q_makes_18, q_sub_18_11, q_sub_18_19, q_sub_18_13, q_sub_18_15, q_has_18_8, q_meth_18_9, q_mn_18_9, q_mk_18, q_asks_19, q_makes_19, q_sub_19_11, q_sub_19_19, q_sub_19_13, q_sub_19_15, q_meth_19_9, q_mn_19_9, q_mk_19, q_makes_20, q_sub_20_11, q_sub_20_19, q_sub_20_13, q_sub_20_15, q_has_20_5, q_meth_20_9, q_mn_20_9, q_mk_20, g_lensetT (show asL _ (.fz (ks.map coD)) = some _ from rfl) i0 t0 (by simp; omega), nubT_ndG _ nd2, List.length_map, Int.lt_irrefl]

theorem r_are_numbers {l : List Int} {g : Int} {m : Nat} (hl : l.length = m) (h : ∀ i ∈ l, 0 ≤ i ∧ i ≤ g) : Go (run pr fu (n + 3) 7 [.fz (l.map .int), .int m, .int g]) S Q ↔ Q (.bl true) S := by
  rw [go_runV (d := d7) rfl rfl rfl (by simp only [fr_cons, fr_nil, fr_int, fr_bl, fr_str, fr_non, fr_ints, fr_co, fr_st, fr_cos, fr_sts, fr_nas, Option.bind_some, Option.map_some]; rfl)]
  simp only [d7, b7_0, g_augA, g_augS, gz_slcH, gz_slcL, gz_rev, gz_list, gz_cat, gz_walkS, gz_walkE, go_lm, go_meth, go_setFldN, putN, lookN, go_forn, go_forc, go_cons, go_nil, go_fin, go_finN, exS, ev_c, ev_g, ev_v, ev_op, ev_and, ev_or, ev_not, ev_ite, ev_ch, ev_comp, ev_call, evEs, evAnd, evOr, evSrc, evIfs, go_bnd, go_ret, go_some, go_tst, go_ite, go_noX, ex_bl, asB_bl, join_some, g_add, g_sub, g_mul, g_fdiv, g_mod, g_pow, g_shl, g_shr, g_band, g_neg, g_lt, g_le, g_gt, g_ge, g_max2, g_min2, g_mkT, g_mkL, g_newF, g_newC, g_idxT, g_idxF, g_isT_tup, g_isT_fz, g_isT_int, g_isT_str, g_isT_bl, g_len_tup, g_len_fz, g_eqI, g_neI, g_eqS, g_eqB, g_isB, g_isnotB, g_isin2, at0, at1, ex_some, List.getElem?_cons_zero, List.getElem?_cons_succ, List.set_cons_zero, List.set_cons_succ, startE, List.map_cons, List.map_nil, List.length_cons, List.length_nil, Nat.reduceAdd, Nat.reduceSub, List.replicate_succ, List.replicate_zero, List.cons_append, List.nil_append, bd_nm, bd_tp, bds_nil, bds_nm, bds_tp, Option.bind_some, setAll, wipeE, Bool.not_true, Bool.not_false, Bool.false_eq_true, if_true, if_false, true_and, and_true, decide_true, decide_false, fin_f, fin_bl0, fin_bl1, fin_bl2, fin_int0, fin_int1, fin_int2, fin_non0, fin_non1, fin_ints0, fin_ints1, fic_bl, fic_int, fic_non, fic_str, fic_ints, fiv_bl, fiv_int, fiv_non, ev_ch3, bd_tpL, ev_mxk, ev_callv, go_lq, q_raises_1, q_raises_2, q_raises_3, q_raises_4, q_raises_5, q_raises_6, q_raises_7, q_raises_8, q_raises_9, q_asks_11, q_makes_11, q_sub_11_11, q_sub_11_19, q_sub_11_13, q_sub_11_15, q_meth_11_9, q_mn_11_9, q_mk_11, q_makes_12, q_sub_12_11, q_sub_12_19, q_sub_12_13, q_sub_12_15, q_has_12_11, q_has_12_12, q_meth_12_9, q_mn_12_9, q_mk_12, q_asks_13, q_makes_13, q_sub_13_11, q_sub_13_19, q_sub_13_13, q_sub_13_15, q_has_13_1, q_meth_13_9, q_mn_13_9, q_mk_13, q_makes_14, q_sub_14_11, q_sub_14_19, q_sub_14_13, q_sub_14_15, q_has_14_0, q_has_14_3, q_has_14_4, q_has_14_6, q_has_14_7, q_meth_14_9, q_mn_14_9, q_mk_14, q_asks_15, q_makes_15, q_sub_15_11, q_sub_15_19, q_sub_15_13, q_sub_15_15, q_has_15_1, q_meth_15_9, q_mn_15_9, q_mk_15, q_makes_16, q_sub_16_11, q_sub_16_19, q_sub_16_13, q_sub_16_15, q_has_16_10, q_meth_16_9, q_mn_16_9, q_mk_16, q_makes_17, q_sub_17_11, q_sub_17_19, q_sub_17_13, q_sub_17_15, q_has_17_2, q_meth_17_9, q_mn_17_9, q_mk_17, q_makes_18, q_sub_18_11, q_sub_18_19, q_sub_18_13, q_sub_18_15, q_has_18_8, q_meth_18_9, q_mn_18_9, q_mk_18, q_asks_19, q_makes_19, q_sub_19_11, q_sub_19_19, q_sub_19_13, q_sub_19_15, q_meth_19_9, q_mn_19_9, q_mk_19, q_makes_20, q_sub_20_11, q_sub_20_19, q_sub_20_13, q_sub_20_15, q_has_20_5, q_meth_20_9, q_mn_20_9, q_mk_20, List.length_map, hl, beq_self_eq_true]
  rw [go_mapA D.int (fun _ => .bl true) rfl fun s hs => ⟨_, rfl, ?h⟩]
  case h =>
    rw [is_iff]
    simp only [g_augA, g_augS, gz_slcH, gz_slcL, gz_rev, gz_list, gz_cat, gz_walkS, gz_walkE, go_lm, go_meth, go_setFldN, putN, lookN, go_forn, go_forc, go_cons, go_nil, go_fin, go_finN, exS, ev_c, ev_g, ev_v, ev_op, ev_and, ev_or, ev_not, ev_ite, ev_ch, ev_comp, ev_call, evEs, evAnd, evOr, evSrc, evIfs, go_bnd, go_ret, go_some, go_tst, go_ite, go_noX, ex_bl, asB_bl, join_some, g_add, g_sub, g_mul, g_fdiv, g_mod, g_pow, g_shl, g_shr, g_band, g_neg, g_lt, g_le, g_gt, g_ge, g_max2, g_min2, g_mkT, g_mkL, g_newF, g_newC, g_idxT, g_idxF, g_isT_tup, g_isT_fz, g_isT_int, g_isT_str, g_isT_bl, g_len_tup, g_len_fz, g_eqI, g_neI, g_eqS, g_eqB, g_isB, g_isnotB, g_isin2, at0, at1, ex_some, List.getElem?_cons_zero, List.getElem?_cons_succ, List.set_cons_zero, List.set_cons_succ, startE, List.map_cons, List.map_nil, List.length_cons, List.length_nil, Nat.reduceAdd, Nat.reduceSub, List.replicate_succ, List.replicate_zero, List.cons_append, List.nil_append, bd_nm, bd_tp, bds_nil, bds_nm, bds_tp, Option.bind_some, setAll, wipeE, Bool.not_true, Bool.not_false, Bool.false_eq_true, if_true, if_false, true_and, and_true, decide_true, decide_false, fin_f, fin_bl0, fin_bl1, fin_bl2, fin_int0, fin_int1, fin_int2, fin_non0, fin_non1, fin_ints0, fin_ints1, fic_bl, fic_int, fic_non, fic_str, fic_ints, fiv_bl, fiv_int, fiv_non, ev_ch3, bd_tpL, ev_mxk, ev_callv, go_lq, q_raises_1, q_raises_2, q_raises_3, q_raises_4, q_raises_5, q_raises_6, q_raises_7, q_raises_8, q_raises_9, q_asks_11, q_makes_11, q_sub_11_11, q_sub_11_19, q_sub_11_13, q_sub_11_15, q_meth_11_9, q_mn_11_9, q_mk_11, q_makes_12, q_sub_12_11, q_sub_12_19, q_sub_12_13, q_sub_12_15, q_has_12_11, q_has_12_12, q_meth_12_9, q_mn_12_9, q_mk_12, q_asks_13, q_makes_13, q_sub_13_11, q_sub_13_19, q_sub_13_13, q_sub_13_15, q_has_13_1, q_meth_13_9, q_mn_13_9, q_mk_13, q_makes_14, q_sub_14_11, q_sub_14_19, q_sub_14_13, q_sub_14_15, q_has_14_0, q_has_14_3, q_has_14_4, q_has_14_6, q_has_14_7, q_meth_14_9, q_mn_14_9, q_mk_14, q_asks_15, q_makes_15, q_sub_15_11, q_sub_15_19, q_sub_15_13, q_sub_15_15, q_has_15_1, q_meth_15_9, q_mn_15_9, q_mk_15, q_makes_16, q_sub_16_11, q_sub_16_19, q_sub_16_13, q_sub_16_15, q_has_16_10, q_meth_16_9, q_mn_16_9, q_mk_16, q_makes_17, q_sub_17_11, q_sub_17_19, q_sub_17_13, q_sub_17_15, q_has_17_2, q_meth_17_9, q_mn_17_9, q_mk_17, q_makes_18, q_sub_18_11, q_sub_18_19, q_sub_18_13, q_sub_18_15, q_has_18_8, q_meth_18_9, q_mn_18_9, q_mk_18, q_asks_19, q_makes_19, q_sub_19_11, q_sub_19_19, q_sub_19_13, q_sub_19_15, q_meth_19_9, q_mn_19_9, q_mk_19, q_makes_20, q_sub_20_11, q_sub_20_19, q_sub_20_13, q_sub_20_15, q_has_20_5, q_meth_20_9, q_mn_20_9, q_mk_20, r_is_within, decide_eq_true (h s hs)]
  rw [g_all (show asL _ (.fz _) = some _ from rfl) (bools_mapG (p := fun _ => true) l), show ((l.map fun _ => true).all id) = true from by simp [List.all_eq_true]]
  simp only [g_augA, g_augS, gz_slcH, gz_slcL, gz_rev, gz_list, gz_cat, gz_walkS, gz_walkE, go_lm, go_meth, go_setFldN, putN, lookN, go_forn, go_forc, go_cons, go_nil, go_fin, go_finN, exS, ev_c, ev_g, ev_v, ev_op, ev_and, ev_or, ev_not, ev_ite, ev_ch, ev_comp, ev_call, evEs, evAnd, evOr, evSrc, evIfs, go_bnd, go_ret, go_some, go_tst, go_ite, go_noX, ex_bl, asB_bl, join_some, g_add, g_sub, g_mul, g_fdiv, g_mod, g_pow, g_shl, g_shr, g_band, g_neg, g_lt, g_le, g_gt, g_ge, g_max2, g_min2, g_mkT, g_mkL, g_newF, g_newC, g_idxT, g_idxF, g_isT_tup, g_isT_fz, g_isT_int, g_isT_str, g_isT_bl, g_len_tup, g_len_fz, g_eqI, g_neI, g_eqS, g_eqB, g_isB, g_isnotB, g_isin2, at0, at1, ex_some, List.getElem?_cons_zero, List.getElem?_cons_succ, List.set_cons_zero, List.set_cons_succ, startE, List.map_cons, List.map_nil, List.length_cons, List.length_nil, Nat.reduceAdd, Nat.reduceSub, List.replicate_succ, List.replicate_zero, List.cons_append, List.nil_append, bd_nm, bd_tp, bds_nil, bds_nm, bds_tp, Option.bind_some, setAll, wipeE, Bool.not_true, Bool.not_false, Bool.false_eq_true, if_true, if_false, true_and, and_true, decide_true, decide_false, fin_f, fin_bl0, fin_bl1, fin_bl2, fin_int0, fin_int1, fin_int2, fin_non0, fin_non1, fin_ints0, fin_ints1, fic_bl, fic_int, fic_non, fic_str, fic_ints, fiv_bl, fiv_int, fiv_non, ev_ch3, bd_tpL, ev_mxk, ev_callv, go_lq, q_raises_1, q_raises_2, q_raises_3, q_raises_4, q_raises_5, q_raises_6, q_raises_7, q_raises_8, q_raises_9, q_asks_11, q_makes_11, q_sub_11_11, q_sub_11_19, q_sub_11_13, q_sub_11_15, q_meth_11_9, q_mn_11_9, q_mk_11, q_makes_12, q_sub_12_11, q_sub_12_19, q_sub_12_13, q_sub_12_15, q_has_12_11, q_has_12_12, q_meth_12_9, q_mn_12_9, q_mk_12, q_asks_13, q_makes_13, q_sub_13_11, q_sub_13_19, q_sub_13_13, q_sub_13_15, q_has_13_1, q_meth_13_9, q_mn_13_9, q_mk_13, q_makes_14, q_sub_14_11, q_sub_14_19, q_sub_14_13, q_sub_14_15, q_has_14_0, q_has_14_3, q_has_14_4, q_has_14_6, q_has_14_7, q_meth_14_9, q_mn_14_9, q_mk_14, q_asks_15, q_makes_15, q_sub_15_11, q_sub_15_19, q_sub_15_13, q_sub_15_15, q_has_15_1, q_meth_15_9, q_mn_15_9, q_mk_15, q_makes_16, q_sub_16_11, q_sub_16_19, q_sub_16_13, q_sub_16_15, q_has_16_10, q_meth_16_9, q_mn_16_9, q_mk_16, q_makes_17, q_sub_17_11, q_sub_17_19, q_sub_17_13, q_sub_17_15, q_has_17_2, q_meth_17_9, q_mn_17_9, q_mk_17, q_makes_18, q_sub_18_11, q_sub_18_19, q_sub_18_13, q_sub_18_15, q_has_18_8, q_meth_18_9, q_mn_18_9, q_mk_18, q_asks_19, q_makes_19, q_sub_19_11, q_sub_19_19, q_sub_19_13, q_sub_19_15, q_meth_19_9, q_mn_19_9, q_mk_19, q_makes_20, q_sub_20_11, q_sub_20_19, q_sub_20_13, q_sub_20_15, q_has_20_5, q_meth_20_9, q_mn_20_9, q_mk_20]

theorem r_check_wish {ks : List (Int × Int)} {l : List Int} (hl : l.length = ks.length) (h : ∀ i ∈ l, 0 ≤ i ∧ i ≤ 24) : Go (run pr fu (n + 4) 8 [.fz (ks.map coD), .fz (l.map .int)]) S Q ↔ Q .non S := by
  rw [go_runV (d := d8) rfl rfl rfl (by simp only [fr_cons, fr_nil, fr_int, fr_bl, fr_str, fr_non, fr_ints, fr_co, fr_st, fr_cos, fr_sts, fr_nas, Option.bind_some, Option.map_some]; rfl)]
  simp only [d8, b8_0, g_augA, g_augS, gz_slcH, gz_slcL, gz_rev, gz_list, gz_cat, gz_walkS, gz_walkE, go_lm, go_meth, go_setFldN, putN, lookN, go_forn, go_forc, go_cons, go_nil, go_fin, go_finN, exS, ev_c, ev_g, ev_v, ev_op, ev_and, ev_or, ev_not, ev_ite, ev_ch, ev_comp, ev_call, evEs, evAnd, evOr, evSrc, evIfs, go_bnd, go_ret, go_some, go_tst, go_ite, go_noX, ex_bl, asB_bl, join_some, g_add, g_sub, g_mul, g_fdiv, g_mod, g_pow, g_shl, g_shr, g_band, g_neg, g_lt, g_le, g_gt, g_ge, g_max2, g_min2, g_mkT, g_mkL, g_newF, g_newC, g_idxT, g_idxF, g_isT_tup, g_isT_fz, g_isT_int, g_isT_str, g_isT_bl, g_len_tup, g_len_fz, g_eqI, g_neI, g_eqS, g_eqB, g_isB, g_isnotB, g_isin2, at0, at1, ex_some, List.getElem?_cons_zero, List.getElem?_cons_succ, List.set_cons_zero, List.set_cons_succ, startE, List.map_cons, List.map_nil, List.length_cons, List.length_nil, Nat.reduceAdd, Nat.reduceSub, List.replicate_succ, List.replicate_zero, List.cons_append, List.nil_append, bd_nm, bd_tp, bds_nil, bds_nm, bds_tp, Option.bind_some, setAll, wipeE, Bool.not_true, Bool.not_false, Bool.false_eq_true, if_true, if_false, true_and, and_true, decide_true, decide_false, fin_f, fin_bl0, fin_bl1, fin_bl2, fin_int0, fin_int1, fin_int2, fin_non0, fin_non1, fin_ints0, fin_ints1, fic_bl, fic_int, fic_non, fic_str, fic_ints, fiv_bl, fiv_int, fiv_non, ev_ch3, bd_tpL, ev_mxk, ev_callv, go_lq, q_raises_1, q_raises_2, q_raises_3, q_raises_4, q_raises_5, q_raises_6, q_raises_7, q_raises_8, q_raises_9, q_asks_11, q_makes_11, q_sub_11_11, q_sub_11_19, q_sub_11_13, q_sub_11_15, q_meth_11_9, q_mn_11_9, q_mk_11, q_makes_12, q_sub_12_11, q_sub_12_19, q_sub_12_13, q_sub_12_15, q_has_12_11, q_has_12_12, q_meth_12_9, q_mn_12_9, q_mk_12, q_asks_13, q_makes_13, q_sub_13_11, q_sub_13_19, q_sub_13_13, q_sub_13_15, q_has_13_1, q_meth_13_9, q_mn_13_9, q_mk_13, q_makes_14, q_sub_14_11, q_sub_14_19, q_sub_14_13, q_sub_14_15, q_has_14_0, q_has_14_3, q_has_14_4, q_has_14_6, q_has_14_7, q_meth_14_9, q_mn_14_9, q_mk_14, q_asks_15, q_makes_15, q_sub_15_11, q_sub_15_19, q_sub_15_13, q_sub_15_15, q_has_15_1, q_meth_15_9, q_mn_15_9, q_mk_15, q_makes_16, q_sub_16_11, q_sub_16_19, q_sub_16_13, q_sub_16_15, q_has_16_10, q_meth_16_9, q_mn_16_9, q_mk_16, q_makes_17, q_sub_17_11, q_sub_17_19, q_sub_17_13, q_sub_17_15, q_has_17_2, q_meth_17_9, q_mn_17_9, q_mk_17, q_makes_18, q_sub_18_11, q_sub_18_19, q_sub_18_13, q_sub_18_15, q_has_18_8, q_meth_18_9, q_mn_18_9, q_mk_18, q_asks_19, q_makes_19, q_sub_19_11, q_sub_19_19, q_sub_19_13, q_sub_19_15, q_meth_19_9, q_mn_19_9, q_mk_19, q_makes_20, q_sub_20_11, q_sub_20_19, q_sub_20_13, q_sub_20_15, q_has_20_5, q_meth_20_9, q_mn_20_9, q_mk_20, List.length_map, r_are_numbers (n := n) hl h]

theorem r_check_groups {ks : List (Int × Int)} {l : List Int} (hl : l.length = ks.length) (h : ∀ i ∈ l, 0 ≤ i ∧ i ≤ 19) : Go (run pr fu (n + 4) 9 [.fz (ks.map coD), .fz (l.map .int)]) S Q ↔ Q .non S := by
  rw [go_runV (d := d9) rfl rfl rfl (by simp only [fr_cons, fr_nil, fr_int, fr_bl, fr_str, fr_non, fr_ints, fr_co, fr_st, fr_cos, fr_sts, fr_nas, Option.bind_some, Option.map_some]; rfl)]
  simp only [d9, b9_0, g_augA, g_augS, gz_slcH, gz_slcL, gz_rev, gz_list, gz_cat, gz_walkS, gz_walkE, go_lm, go_meth, go_setFldN, putN, lookN, go_forn, go_forc, go_cons, go_nil, go_fin, go_finN, exS, ev_c, ev_g, ev_v, ev_op, ev_and, ev_or, ev_not, ev_ite, ev_ch, ev_comp, ev_call, evEs, evAnd, evOr, evSrc, evIfs, go_bnd, go_ret, go_some, go_tst, go_ite, go_noX, ex_bl, asB_bl, join_some, g_add, g_sub, g_mul, g_fdiv, g_mod, g_pow, g_shl, g_shr, g_band, g_neg, g_lt, g_le, g_gt, g_ge, g_max2, g_min2, g_mkT, g_mkL, g_newF, g_newC, g_idxT, g_idxF, g_isT_tup, g_isT_fz, g_isT_int, g_isT_str, g_isT_bl, g_len_tup, g_len_fz, g_eqI, g_neI, g_eqS, g_eqB, g_isB, g_isnotB, g_isin2, at0, at1, ex_some, List.getElem?_cons_zero, List.getElem?_cons_succ, List.set_cons_zero, List.set_cons_succ, startE, List.map_cons, List.map_nil, List.length_cons, List.length_nil, Nat.reduceAdd, Nat.reduceSub, List.replicate_succ, List.replicate_zero, List.cons_append, List.nil_append, bd_nm, bd_tp, bds_nil, bds_nm, bds_tp, Option.bind_some, setAll, wipeE, Bool.not_true, Bool.not_false, Bool.false_eq_true, if_true, if_false, true_and, and_true, decide_true, decide_false, fin_f, fin_bl0, fin_bl1, fin_bl2, fin_int0, fin_int1, fin_int2, fin_non0, fin_non1, fin_ints0, fin_ints1, fic_bl, fic_int, fic_non, fic_str, fic_ints, fiv_bl, fiv_int, fiv_non, ev_ch3, bd_tpL, ev_mxk, ev_callv, go_lq, q_raises_1, q_raises_2, q_raises_3, q_raises_4, q_raises_5, q_raises_6, q_raises_7, q_raises_8, q_raises_9, q_asks_11, q_makes_11, q_sub_11_11, q_sub_11_19, q_sub_11_13, q_sub_11_15, q_meth_11_9, q_mn_11_9, q_mk_11, q_makes_12, q_sub_12_11, q_sub_12_19, q_sub_12_13, q_sub_12_15, q_has_12_11, q_has_12_12, q_meth_12_9, q_mn_12_9, q_mk_12, q_asks_13, q_makes_13, q_sub_13_11, q_sub_13_19, q_sub_13_13, q_sub_13_15, q_has_13_1, q_meth_13_9, q_mn_13_9, q_mk_13, q_makes_14, q_sub_14_11, q_sub_14_19, q_sub_14_13, q_sub_14_15, q_has_14_0, q_has_14_3, q_has_14_4, q_has_14_6, q_has_14_7, q_meth_14_9, q_mn_14_9, q_mk_14, q_asks_15, q_makes_15, q_sub_15_11, q_sub_15_19, q_sub_15_13, q_sub_15_15, q_has_15_1, q_meth_15_9, q_mn_15_9, q_mk_15, q_makes_16, q_sub_16_11, q_sub_16_19, q_sub_16_13, q_sub_16_15, q_has_16_10, q_meth_16_9, q_mn_16_9, q_mk_16, q_makes_17, q_sub_17_11, q_sub_17_19, q_sub_17_13, q_sub_17_15, q_has_17_2, q_meth_17_9, q_mn_17_9, q_mk_17, q_makes_18, q_sub_18_11, q_sub_18_19, q_sub_18_13, q_sub_18_15, q_has_18_8, q_meth_18_9, q_mn_18_9, q_mk_18, q_asks_19, q_makes_19, q_sub_19_11, q_sub_19_19, q_sub_19_13, q_sub_19_15, q_meth_19_9, q_mn_19_9, q_mk_19, q_makes_20, q_sub_20_11, q_sub_20_19, q_sub_20_13, q_sub_20_15, q_has_20_5, q_meth_20_9, q_mn_20_9, q_mk_20, List.length_map, Int.reduceSub, r_are_numbers (n := n) hl h]

theorem r_check_rooms {rm : List Int} {ch : List (Bool × Int)} (hl : rm.length = ch.length + 1) (h : ∀ i ∈ rm, 0 ≤ i ∧ i ≤ 20) : Go (run pr fu (n + 4) 10 [.fz (ch.map stD), .fz (rm.map .int)]) S Q ↔ Q .non S := by
  rw [go_runV (d := d10) rfl rfl rfl (by simp only [fr_cons, fr_nil, fr_int, fr_bl, fr_str, fr_non, fr_ints, fr_co, fr_st, fr_cos, fr_sts, fr_nas, Option.bind_some, Option.map_some]; rfl)]
  have e : ((ch.length : Nat) : Int) + 1 = ((ch.length + 1 : Nat) : Int) := by omega
  simp only [d10, b10_0, g_augA, g_augS, gz_slcH, gz_slcL, gz_rev, gz_list, gz_cat, gz_walkS, gz_walkE, go_lm, go_meth, go_setFldN, putN, lookN, go_forn, go_forc, go_cons, go_nil, go_fin, go_finN, exS, ev_c, ev_g, ev_v, ev_op, ev_and, ev_or, ev_not, ev_ite, ev_ch, ev_comp, ev_call, evEs, evAnd, evOr, evSrc, evIfs, go_bnd, go_ret, go_some, go_tst, go_ite, go_noX, ex_bl, asB_bl, join_some, g_add, g_sub, g_mul, g_fdiv, g_mod, g_pow, g_shl, g_shr, g_band, g_neg, g_lt, g_le, g_gt, g_ge, g_max2, g_min2, g_mkT, g_mkL, g_newF, g_newC, g_idxT, g_idxF, g_isT_tup, g_isT_fz, g_isT_int, g_isT_str, g_isT_bl, g_len_tup, g_len_fz, g_eqI, g_neI, g_eqS, g_eqB, g_isB, g_isnotB, g_isin2, at0, at1, ex_some, List.getElem?_cons_zero, List.getElem?_cons_succ, List.set_cons_zero, List.set_cons_succ, startE, List.map_cons, List.map_nil, List.length_cons, List.length_nil, Nat.reduceAdd, Nat.reduceSub, List.replicate_succ, List.replicate_zero, List.cons_append, List.nil_append, bd_nm, bd_tp, bds_nil, bds_nm, bds_tp, Option.bind_some, setAll, wipeE, Bool.not_true, Bool.not_false, Bool.false_eq_true, if_true, if_false, true_and, and_true, decide_true, decide_false, fin_f, fin_bl0, fin_bl1, fin_bl2, fin_int0, fin_int1, fin_int2, fin_non0, fin_non1, fin_ints0, fin_ints1, fic_bl, fic_int, fic_non, fic_str, fic_ints, fiv_bl, fiv_int, fiv_non, ev_ch3, bd_tpL, ev_mxk, ev_callv, go_lq, q_raises_1, q_raises_2, q_raises_3, q_raises_4, q_raises_5, q_raises_6, q_raises_7, q_raises_8, q_raises_9, q_asks_11, q_makes_11, q_sub_11_11, q_sub_11_19, q_sub_11_13, q_sub_11_15, q_meth_11_9, q_mn_11_9, q_mk_11, q_makes_12, q_sub_12_11, q_sub_12_19, q_sub_12_13, q_sub_12_15, q_has_12_11, q_has_12_12, q_meth_12_9, q_mn_12_9, q_mk_12, q_asks_13, q_makes_13, q_sub_13_11, q_sub_13_19, q_sub_13_13, q_sub_13_15, q_has_13_1, q_meth_13_9, q_mn_13_9, q_mk_13, q_makes_14, q_sub_14_11, q_sub_14_19, q_sub_14_13, q_sub_14_15, q_has_14_0, q_has_14_3, q_has_14_4, q_has_14_6, q_has_14_7, q_meth_14_9, q_mn_14_9, q_mk_14, q_asks_15, q_makes_15, q_sub_15_11, q_sub_15_19, q_sub_15_13, q_sub_15_15, q_has_15_1, q_meth_15_9, q_mn_15_9, q_mk_15, q_makes_16, q_sub_16_11, q_sub_16_19, q_sub_16_13, q_sub_16_15, q_has_16_10, q_meth_16_9, q_mn_16_9, q_mk_16, q_makes_17, q_sub_17_11, q_sub_17_19, q_sub_17_13, q_sub_17_15, q_has_17_2, q_meth_17_9, q_mn_17_9, q_mk_17, q_makes_18, q_sub_18_11, q_sub_18_19, q_sub_18_13, q_sub_18_15, q_has_18_8, q_meth_18_9, q_mn_18_9, q_mk_18, q_asks_19, q_makes_19, q_sub_19_11, q_sub_19_19, q_sub_19_13, q_sub_19_15, q_meth_19_9, q_mn_19_9, q_mk_19, q_makes_20, q_sub_20_11, q_sub_20_19, q_sub_20_13, q_sub_20_15, q_has_20_5, q_meth_20_9, q_mn_20_9, q_mk_20, List.length_map, e, r_are_numbers (n := n) hl h]
end
end K15
namespace K15
open Mi
section
variable {fu n : Nat} {S : Store} {Q : D → Store → Prop}

def cellV (ns : List Int) (k : Int) : Int := if k < ns.length then (L2.atI ns k).getD 0 else 0
theorem atI_map {α β : Type} {f : α → β} {l : List α} {i : Int} : L2.atI (l.map f) i = (L2.atI l i).map f := by
  simp only [L2.atI, List.length_map]
  cases L2.ixN l.length i with
  | none => rfl
  | some j => simp
theorem atI_some {α : Type} {l : List α} {i : Int} (h0 : 0 ≤ i) (h1 : i < l.length) : ∃ a, L2.atI l i = some a ∧ a ∈ l := by
  rw [at_of h0 h1]
  have h2 : i.toNat < l.length := by omega
  exact ⟨l[i.toNat], List.getElem?_eq_getElem h2, List.getElem_mem h2⟩
theorem r_cell {ns : List Int} {k : Int} (hk : 0 ≤ k) : Go (run pr fu (n + 1) 55 [.fz (ns.map .int), .int k]) S Q ↔ Q (.int (cellV ns k)) S := by
  rw [go_runC (d := d55) rfl rfl rfl (by simp only [pls_cons, pls_nil, pl_ints, pl_int, pl_bl, pl_str, pl_non, pl_co, pl_st, pl_cos, pl_sts, pl_nas, Bool.and_self, Bool.true_and])]
  simp only [d55, b55_0, b55_1, g_augA, g_augS, gz_slcH, gz_slcL, gz_rev, gz_list, gz_cat, gz_walkS, gz_walkE, go_lm, go_meth, go_setFldN, putN, lookN, go_forn, go_forc, go_cons, go_nil, go_fin, go_finN, exS, ev_c, ev_g, ev_v, ev_op, ev_and, ev_or, ev_not, ev_ite, ev_ch, ev_comp, ev_call, evEs, evAnd, evOr, evSrc, evIfs, go_bnd, go_ret, go_some, go_tst, go_ite, go_noX, ex_bl, asB_bl, join_some, g_add, g_sub, g_mul, g_fdiv, g_mod, g_pow, g_shl, g_shr, g_band, g_neg, g_lt, g_le, g_gt, g_ge, g_max2, g_min2, g_mkT, g_mkL, g_newF, g_newC, g_idxT, g_idxF, g_isT_tup, g_isT_fz, g_isT_int, g_isT_str, g_isT_bl, g_len_tup, g_len_fz, g_eqI, g_neI, g_eqS, g_eqB, g_isB, g_isnotB, g_isin2, at0, at1, ex_some, List.getElem?_cons_zero, List.getElem?_cons_succ, List.set_cons_zero, List.set_cons_succ, startE, List.map_cons, List.map_nil, List.length_cons, List.length_nil, Nat.reduceAdd, Nat.reduceSub, List.replicate_succ, List.replicate_zero, List.cons_append, List.nil_append, bd_nm, bd_tp, bds_nil, bds_nm, bds_tp, Option.bind_some, setAll, wipeE, Bool.not_true, Bool.not_false, Bool.false_eq_true, if_true, if_false, true_and, and_true, decide_true, decide_false, fin_f, fin_bl0, fin_bl1, fin_bl2, fin_int0, fin_int1, fin_int2, fin_non0, fin_non1, fin_ints0, fin_ints1, fic_bl, fic_int, fic_non, fic_str, fic_ints, fiv_bl, fiv_int, fiv_non, ev_ch3, bd_tpL, ev_mxk, ev_callv, go_lq, q_raises_1, q_raises_2, q_raises_3, q_raises_4, q_raises_5, q_raises_6, q_raises_7, q_raises_8, q_raises_9, q_asks_11, q_makes_11, q_sub_11_11, q_sub_11_19, q_sub_11_13, q_sub_11_15, q_meth_11_9, q_mn_11_9, q_mk_11, q_makes_12, q_sub_12_11, q_sub_12_19, q_sub_12_13, q_sub_12_15, q_has_12_11, q_has_12_12, q_meth_12_9, q_mn_12_9, q_mk_12, q_asks_13, q_makes_13, q_sub_13_11, q_sub_13_19, q_sub_13_13, q_sub_13_15, q_has_13_1, q_meth_13_9, q_mn_13_9, q_mk_13, q_makes_14, q_sub_14_11, q_sub_14_19, q_sub_14_13, q_sub_14_15, q_has_14_0, q_has_14_3, q_has_14_4, q_has_14_6, q_has_14_7, q_meth_14_9, q_mn_14_9, q_mk_14, q_asks_15, q_makes_15, q_sub_15_11, q_sub_15_19, q_sub_15_13, q_sub_15_15, q_has_15_1, q_meth_15_9, q_mn_15_9, q_mk_15, q_makes_16, q_sub_16_11, q_sub_16_19, q_sub_16_13, q_sub_16_15, q_has_16_10, q_meth_16_9, q_mn_16_9, q_mk_16, q_makes_17, q_sub_17_11, q_sub_17_19, q_sub_17_13, q_sub_17_15, q_has_17_2, q_meth_17_9, q_mn_17_9, q_mk_17, q_makes_18, q_sub_18_11, q_sub_18_19, q_sub_18_13, q_sub_18_15, q_has_18_8, q_meth_18_9, q_mn_18_9, q_mk_18, q_asks_19, q_makes_19, q_sub_19_11, q_sub_19_19, q_sub_19_13, q_sub_19_15, q_meth_19_9, q_mn_19_9, q_mk_19, q_makes_20, q_sub_20_11, q_sub_20_19, q_sub_20_13, q_sub_20_15, q_has_20_5, q_meth_20_9, q_mn_20_9, q_mk_20, List.length_map, decide_eq_true_eq]
  by_cases h : k < ns.length
  · obtain ⟨a, ha, _⟩ := atI_some hk h
    simp only [if_pos h, g_augA, g_augS, gz_slcH, gz_slcL, gz_rev, gz_list, gz_cat, gz_walkS, gz_walkE, go_lm, go_meth, go_setFldN, putN, lookN, go_forn, go_forc, go_cons, go_nil, go_fin, go_finN, exS, ev_c, ev_g, ev_v, ev_op, ev_and, ev_or, ev_not, ev_ite, ev_ch, ev_comp, ev_call, evEs, evAnd, evOr, evSrc, evIfs, go_bnd, go_ret, go_some, go_tst, go_ite, go_noX, ex_bl, asB_bl, join_some, g_add, g_sub, g_mul, g_fdiv, g_mod, g_pow, g_shl, g_shr, g_band, g_neg, g_lt, g_le, g_gt, g_ge, g_max2, g_min2, g_mkT, g_mkL, g_newF, g_newC, g_idxT, g_idxF, g_isT_tup, g_isT_fz, g_isT_int, g_isT_str, g_isT_bl, g_len_tup, g_len_fz, g_eqI, g_neI, g_eqS, g_eqB, g_isB, g_isnotB, g_isin2, at0, at1, ex_some, List.getElem?_cons_zero, List.getElem?_cons_succ, List.set_cons_zero, List.set_cons_succ, startE, List.map_cons, List.map_nil, List.length_cons, List.length_nil, Nat.reduceAdd, Nat.reduceSub, List.replicate_succ, List.replicate_zero, List.cons_append, List.nil_append, bd_nm, bd_tp, bds_nil, bds_nm, bds_tp, Option.bind_some, setAll, wipeE, Bool.not_true, Bool.not_false, Bool.false_eq_true, if_true, if_false, true_and, and_true, decide_true, decide_false, fin_f, fin_bl0, fin_bl1, fin_bl2, fin_int0, fin_int1, fin_int2, fin_non0, fin_non1, fin_ints0, fin_ints1, fic_bl, fic_int, fic_non, fic_str, fic_ints, fiv_bl, fiv_int, fiv_non, ev_ch3, bd_tpL, ev_mxk, ev_callv, go_lq, q_raises_1, q_raises_2, q_raises_3, q_raises_4, q_raises_5, q_raises_6, q_raises_7, q_raises_8, q_raises_9, q_asks_11, q_makes_11, q_sub_11_11, q_sub_11_19, q_sub_11_13, q_sub_11_15, q_meth_11_9, q_mn_11_9, q_mk_11, q_makes_12, q_sub_12_11, q_sub_12_19, q_sub_12_13, q_sub_12_15, q_has_12_11, q_has_12_12, q_meth_12_9, q_mn_12_9, q_mk_12, q_asks_13, q_makes_13, q_sub_13_11, q_sub_13_19, q_sub_13_13, q_sub_13_15, q_has_13_1, q_meth_13_9, q_mn_13_9, q_mk_13, q_makes_14, q_sub_14_11, q_sub_14_19, q_sub_14_13, q_sub_14_15, q_has_14_0, q_has_14_3, q_has_14_4, q_has_14_6, q_has_14_7, q_meth_14_9, q_mn_14_9, q_mk_14, q_asks_15, q_makes_15, q_sub_15_11, q_sub_15_19, q_sub_15_13, q_sub_15_15, q_has_15_1, q_meth_15_9, q_mn_15_9, q_mk_15, q_makes_16, q_sub_16_11, q_sub_16_19, q_sub_16_13, q_sub_16_15, q_has_16_10, q_meth_16_9, q_mn_16_9, q_mk_16, q_makes_17, q_sub_17_11, q_sub_17_19, q_sub_17_13, q_sub_17_15, q_has_17_2, q_meth_17_9, q_mn_17_9, q_mk_17, q_makes_18, q_sub_18_11, q_sub_18_19, q_sub_18_13, q_sub_18_15, q_has_18_8, q_meth_18_9, q_mn_18_9, q_mk_18, q_asks_19, q_makes_19, q_sub_19_11, q_sub_19_19, q_sub_19_13, q_sub_19_15, q_meth_19_9, q_mn_19_9, q_mk_19, q_makes_20, q_sub_20_11, q_sub_20_19, q_sub_20_13, q_sub_20_15, q_has_20_5, q_meth_20_9, q_mn_20_9, q_mk_20, atI_map, ha, Option.map_some, cellV, Option.getD_some]
  · simp only [if_neg h, g_augA, g_augS, gz_slcH, gz_slcL, gz_rev, gz_list, gz_cat, gz_walkS, gz_walkE, go_lm, go_meth, go_setFldN, putN, lookN, go_forn, go_forc, go_cons, go_nil, go_fin, go_finN, exS, ev_c, ev_g, ev_v, ev_op, ev_and, ev_or, ev_not, ev_ite, ev_ch, ev_comp, ev_call, evEs, evAnd, evOr, evSrc, evIfs, go_bnd, go_ret, go_some, go_tst, go_ite, go_noX, ex_bl, asB_bl, join_some, g_add, g_sub, g_mul, g_fdiv, g_mod, g_pow, g_shl, g_shr, g_band, g_neg, g_lt, g_le, g_gt, g_ge, g_max2, g_min2, g_mkT, g_mkL, g_newF, g_newC, g_idxT, g_idxF, g_isT_tup, g_isT_fz, g_isT_int, g_isT_str, g_isT_bl, g_len_tup, g_len_fz, g_eqI, g_neI, g_eqS, g_eqB, g_isB, g_isnotB, g_isin2, at0, at1, ex_some, List.getElem?_cons_zero, List.getElem?_cons_succ, List.set_cons_zero, List.set_cons_succ, startE, List.map_cons, List.map_nil, List.length_cons, List.length_nil, Nat.reduceAdd, Nat.reduceSub, List.replicate_succ, List.replicate_zero, List.cons_append, List.nil_append, bd_nm, bd_tp, bds_nil, bds_nm, bds_tp, Option.bind_some, setAll, wipeE, Bool.not_true, Bool.not_false, Bool.false_eq_true, if_true, if_false, true_and, and_true, decide_true, decide_false, fin_f, fin_bl0, fin_bl1, fin_bl2, fin_int0, fin_int1, fin_int2, fin_non0, fin_non1, fin_ints0, fin_ints1, fic_bl, fic_int, fic_non, fic_str, fic_ints, fiv_bl, fiv_int, fiv_non, ev_ch3, bd_tpL, ev_mxk, ev_callv, go_lq, q_raises_1, q_raises_2, q_raises_3, q_raises_4, q_raises_5, q_raises_6, q_raises_7, q_raises_8, q_raises_9, q_asks_11, q_makes_11, q_sub_11_11, q_sub_11_19, q_sub_11_13, q_sub_11_15, q_meth_11_9, q_mn_11_9, q_mk_11, q_makes_12, q_sub_12_11, q_sub_12_19, q_sub_12_13, q_sub_12_15, q_has_12_11, q_has_12_12, q_meth_12_9, q_mn_12_9, q_mk_12, q_asks_13, q_makes_13, q_sub_13_11, q_sub_13_19, q_sub_13_13, q_sub_13_15, q_has_13_1, q_meth_13_9, q_mn_13_9, q_mk_13, q_makes_14, q_sub_14_11, q_sub_14_19, q_sub_14_13, q_sub_14_15, q_has_14_0, q_has_14_3, q_has_14_4, q_has_14_6, q_has_14_7, q_meth_14_9, q_mn_14_9, q_mk_14, q_asks_15, q_makes_15, q_sub_15_11, q_sub_15_19, q_sub_15_13, q_sub_15_15, q_has_15_1, q_meth_15_9, q_mn_15_9, q_mk_15, q_makes_16, q_sub_16_11, q_sub_16_19, q_sub_16_13, q_sub_16_15, q_has_16_10, q_meth_16_9, q_mn_16_9, q_mk_16, q_makes_17, q_sub_17_11, q_sub_17_19, q_sub_17_13, q_sub_17_15, q_has_17_2, q_meth_17_9, q_mn_17_9, q_mk_17, q_makes_18, q_sub_18_11, q_sub_18_19, q_sub_18_13, q_sub_18_15, q_has_18_8, q_meth_18_9, q_mn_18_9, q_mk_18, q_asks_19, q_makes_19, q_sub_19_11, q_sub_19_19, q_sub_19_13, q_sub_19_15, q_meth_19_9, q_mn_19_9, q_mk_19, q_makes_20, q_sub_20_11, q_sub_20_19, q_sub_20_13, q_sub_20_15, q_has_20_5, q_meth_20_9, q_mn_20_9, q_mk_20, cellV]

def lstR (r : R D) : List D := match r with
  | .ok (.fz ds) _ => ds
  | _ => []
def okF (r : R D) : Bool := match r with
  | .ok (.fz _) [] => true
  | _ => false
theorem okF_eq {r : R D} (h : okF r = true) : r = .ok (.fz (lstR r)) [] := by
  unfold okF at h
  split at h
  · rfl
  · cases h
def rowsV (f : Nat) : List D := lstR (run pr 300 11 f [] [])
def doorB (d : D) : Bool := match d with
  | .tup [a, b, c] => okB (run pr 300 11 59 [a, b, c] []) && (mapO (frz [] 0 deep) [a, b, c]).isSome && D.plains [a, b, c]
  | _ => false
theorem rows_1 : okF (run pr 300 11 61 [] []) = true := by decide +kernel
theorem rows_2 : okF (run pr 300 11 62 [] []) = true := by decide +kernel
theorem rows_3 : okF (run pr 300 11 63 [] []) = true := by decide +kernel
theorem door_1 : (rowsV 61).all doorB = true := by decide +kernel
theorem door_2 : (rowsV 62).all doorB = true := by decide +kernel
theorem door_3 : (rowsV 63).all doorB = true := by decide +kernel
theorem len_1 : (rowsV 61).length = 12 := by decide +kernel
theorem len_2 : (rowsV 62).length = 10 := by decide +kernel
theorem len_3 : (rowsV 63).length = 5 := by decide +kernel
end
section
variable {S : Store} {Q : D → Store → Prop}
theorem is_anyK {f m : Nat} {ds : List D} {d : FDef} {e : D} (h : pr.fns[f]? = some d) (hl : ds.length = d.np) (hp : d.pure = 1) (hc : D.plains ds = true) {S S2 : Store} (g : Is (run pr 300 (m + 1) f ds) S e) : Is (run pr 300 (m + 1) f ds) S2 e := by
  rw [is_iff, go_runC h hl hp hc] at g
  rw [is_iff, go_runC h hl hp hc]
  refine g.mono fun o S' q => q.mono fun a S3 q => ?_
  obtain ⟨e2, h2, rfl, _⟩ := q
  exact ⟨e2, h2, rfl, rfl⟩
theorem go_rows {f : Nat} {d : FDef} (hd : pr.fns[f]? = some d) (hl : ([] : List D).length = d.np) (hp : d.pure = 1) (h : okF (run pr 300 11 f [] []) = true) : Go (run pr 300 11 f []) S Q ↔ Q (.fz (rowsV f)) S := by
  have e : Is (run pr 300 11 f []) [] (.fz (rowsV f)) := okF_eq h
  have e2 : Is (run pr 300 11 f []) S (.fz (rowsV f)) := is_anyK hd hl hp rfl e
  exact e2.go
theorem frz_plain {S : Store} : ∀ (n : Nat) (d : D), D.plain d = true → frz S 0 n d = frz [] 0 n d := by
  intro n
  induction n with
  | zero => intro d _; rfl
  | succ n ih =>
    intro d hd
    have key : ∀ ds : List D, D.plains ds = true → mapO (frz S 0 n) ds = mapO (frz [] 0 n) ds := by
      intro ds
      induction ds with
      | nil => intro _; rfl
      | cons a l ih2 =>
        intro h
        simp only [D.plains, Bool.and_eq_true] at h
        simp only [mapO, ih a h.1, ih2 h.2]
    cases d with
    | tup ds => simp only [D.plain] at hd; simp only [frz, key ds hd]
    | fz ds => simp only [D.plain] at hd; simp only [frz, key ds hd]
    | ref a => simp [D.plain] at hd
    | _ => rfl
theorem frzs_plain {S : Store} (n : Nat) : ∀ ds : List D, D.plains ds = true → mapO (frz S 0 n) ds = mapO (frz [] 0 n) ds
  | [], _ => rfl
  | a :: l, h => by
    simp only [D.plains, Bool.and_eq_true] at h
    simp only [mapO, frz_plain n a h.1, frzs_plain n l h.2]
theorem go_door {a b c : D} (h : doorB (.tup [a, b, c]) = true) : Go (run pr 300 11 59 [a, b, c]) S Q ↔ Q (.bl true) S := by
  simp only [doorB, Bool.and_eq_true] at h
  obtain ⟨⟨h1, h2⟩, h3⟩ := h
  obtain ⟨es, he⟩ := Option.isSome_iff_exists.mp h2
  have e : Is (run pr 300 11 59 [a, b, c]) S (.bl true) := is_anyV (d := d59) rfl rfl rfl he ((frzs_plain deep _ h3).trans he) (okB_eq h1)
  exact e.go
def fuel : Nat := 300
def dep : Nat := 11
theorem all_door {rs : List D} : ∀ {l : List D}, rs.all doorB = true → (∀ d ∈ l, d ∈ rs) → ∀ d ∈ l, ∃ a b c, d = .tup [a, b, c] ∧ doorB (.tup [a, b, c]) = true := by
  intro l h sub d hd
  have z := List.all_eq_true.mp h d (sub d hd)
  have z2 := z
  unfold doorB at z2
  split at z2
  · rename_i a b c
    exact ⟨a, b, c, rfl, z⟩
  · cases z2
theorem main (ns : List Int) (hn : ns.length ≤ 63) : ∃ S', run pr fuel (dep + 1) 64 [.scr (ns.map .int)] [] = .ok (.bl true) S' := by
  suffices z : Go (run pr 300 12 64 [.scr (ns.map .int)]) [] fun d _ => d = .bl true by
    obtain ⟨d, S', e, rfl⟩ := z
    exact ⟨S', e⟩
  obtain ⟨rs, hrs⟩ : ∃ rs : List D, rs = rowsV 61 ++ rowsV 62 ++ rowsV 63 := ⟨_, rfl⟩
  have hall : rs.all doorB = true := by
    rw [hrs, List.all_append, List.all_append, door_1, door_2, door_3]
    rfl
  have hlen : rs.length = 27 := by
    rw [hrs, List.length_append, List.length_append, len_1, len_2, len_3]
  have l1 : (rowsV 61).length + (rowsV 62).length ≤ line := by rw [len_1, len_2]; decide
  have l2 : (rowsV 61 ++ rowsV 62).length + (rowsV 63).length ≤ line := by rw [List.length_append, len_1, len_2, len_3]; decide
  have cl : ∀ (S : Store) (Q : D → Store → Prop), Go (run pr 300 11 55 [.fz (ns.map .int), .int 0]) S Q ↔ Q (.int (cellV ns 0)) S := fun S Q => r_cell (fu := 300) (n := 10) (by decide)
  have r1 : ∀ (S : Store) (Q : D → Store → Prop), Go (run pr 300 11 61 []) S Q ↔ Q (.fz (rowsV 61)) S := fun S Q => go_rows (d := d61) rfl rfl rfl rows_1
  have r2 : ∀ (S : Store) (Q : D → Store → Prop), Go (run pr 300 11 62 []) S Q ↔ Q (.fz (rowsV 62)) S := fun S Q => go_rows (d := d62) rfl rfl rfl rows_2
  have r3 : ∀ (S : Store) (Q : D → Store → Prop), Go (run pr 300 11 63 []) S Q ↔ Q (.fz (rowsV 63)) S := fun S Q => go_rows (d := d63) rfl rfl rfl rows_3
  rw [go_run (d := d64) rfl rfl (by rfl)]
  have sc : ∀ (S : Store) (Q : D → Store → Prop), Go (opD pr (.slc false false true) [.scr (ns.map .int), .int 63]) S Q ↔ Q (.fz (ns.map .int)) S := fun S Q => by
    rw [g_slcH (show asR S (.scr (ns.map .int)) = some _ from rfl)]
    rw [show cut (ns.map D.int) none (some 63) = ns.map D.int from by rw [show (63 : Int) = ((63 : Nat) : Int) from rfl, cut_to, List.take_of_length_le (by simpa using hn)], g_newF]
  have ab : ∀ (S : Store) (Q : D → Store → Prop) (i : Int), Go (opD pr .abs [.int i]) S Q ↔ Q (.int (if i < 0 then -i else i)) S := fun S Q i => go_eq rfl
  simp only [d64, b64_0, b64_1, b64_2, b64_3, b64_4, g_augA, g_augS, gz_slcH, gz_slcL, gz_rev, gz_list, gz_cat, gz_walkS, gz_walkE, go_lm, go_meth, go_setFldN, putN, lookN, go_cons, go_nil, go_fin, go_finN, exS, ev_c, ev_g, ev_v, ev_op, ev_and, ev_or, ev_not, ev_ite, ev_ch, ev_comp, ev_call, evEs, evAnd, evOr, evSrc, evIfs, go_bnd, go_ret, go_some, go_tst, go_ite, go_noX, ex_bl, asB_bl, join_some, g_add, g_sub, g_mul, g_fdiv, g_mod, g_pow, g_shl, g_shr, g_band, g_neg, g_lt, g_le, g_gt, g_ge, g_max2, g_min2, g_mkT, g_mkL, g_newF, g_newC, g_idxT, g_idxF, g_isT_tup, g_isT_fz, g_isT_int, g_isT_str, g_isT_bl, g_len_tup, g_len_fz, g_eqI, g_neI, g_eqS, g_eqB, g_isB, g_isnotB, g_isin2, at0, at1, ex_some, List.getElem?_cons_zero, List.getElem?_cons_succ, List.set_cons_zero, List.set_cons_succ, startE, List.map_cons, List.map_nil, List.length_cons, List.length_nil, Nat.reduceAdd, Nat.reduceSub, List.replicate_succ, List.replicate_zero, List.cons_append, List.nil_append, bd_nm, bd_tp, bds_nil, bds_nm, bds_tp, Option.bind_some, setAll, wipeE, Bool.not_true, Bool.not_false, Bool.false_eq_true, if_true, if_false, true_and, and_true, decide_true, decide_false, fin_f, fin_bl0, fin_bl1, fin_bl2, fin_int0, fin_int1, fin_int2, fin_non0, fin_non1, fin_ints0, fin_ints1, fic_bl, fic_int, fic_non, fic_str, fic_ints, fiv_bl, fiv_int, fiv_non, ev_ch3, bd_tpL, ev_mxk, ev_callv, go_lq, q_raises_1, q_raises_2, q_raises_3, q_raises_4, q_raises_5, q_raises_6, q_raises_7, q_raises_8, q_raises_9, q_asks_11, q_makes_11, q_sub_11_11, q_sub_11_19, q_sub_11_13, q_sub_11_15, q_meth_11_9, q_mn_11_9, q_mk_11, q_makes_12, q_sub_12_11, q_sub_12_19, q_sub_12_13, q_sub_12_15, q_has_12_11, q_has_12_12, q_meth_12_9, q_mn_12_9, q_mk_12, q_asks_13, q_makes_13, q_sub_13_11, q_sub_13_19, q_sub_13_13, q_sub_13_15, q_has_13_1, q_meth_13_9, q_mn_13_9, q_mk_13, q_makes_14, q_sub_14_11, q_sub_14_19, q_sub_14_13, q_sub_14_15, q_has_14_0, q_has_14_3, q_has_14_4, q_has_14_6, q_has_14_7, q_meth_14_9, q_mn_14_9, q_mk_14, q_asks_15, q_makes_15, q_sub_15_11, q_sub_15_19, q_sub_15_13, q_sub_15_15, q_has_15_1, q_meth_15_9, q_mn_15_9, q_mk_15, q_makes_16, q_sub_16_11, q_sub_16_19, q_sub_16_13, q_sub_16_15, q_has_16_10, q_meth_16_9, q_mn_16_9, q_mk_16, q_makes_17, q_sub_17_11, q_sub_17_19, q_sub_17_13, q_sub_17_15, q_has_17_2, q_meth_17_9, q_mn_17_9, q_mk_17, q_makes_18, q_sub_18_11, q_sub_18_19, q_sub_18_13, q_sub_18_15, q_has_18_8, q_meth_18_9, q_mn_18_9, q_mk_18, q_asks_19, q_makes_19, q_sub_19_11, q_sub_19_19, q_sub_19_13, q_sub_19_15, q_meth_19_9, q_mn_19_9, q_mk_19, q_makes_20, q_sub_20_11, q_sub_20_19, q_sub_20_13, q_sub_20_15, q_has_20_5, q_meth_20_9, q_mn_20_9, q_mk_20, sc, r1, r2, r3, l1, l2, cl, ab, ← hrs, hlen, show (0 : Int) < ((27 : Nat) : Int) from by decide]
  generalize hb : (if cellV ns 0 < 0 then -cellV ns 0 else cellV ns 0) % ((27 : Nat) : Int) = b
  have b0 : 0 ≤ b := by rw [← hb]; exact Int.emod_nonneg _ (by decide)
  have b1 : b < 27 := by rw [← hb]; exact Int.emod_lt_of_pos _ (by decide)
  obtain ⟨j, rfl⟩ : ∃ j : Nat, b = j := ⟨b.toNat, by omega⟩
  rw [cut_to, cut_from]
  simp only [g_augA, g_augS, gz_slcH, gz_slcL, gz_rev, gz_list, gz_cat, gz_walkS, gz_walkE, go_lm, go_meth, go_setFldN, putN, lookN, go_cons, go_nil, go_fin, go_finN, exS, ev_c, ev_g, ev_v, ev_op, ev_and, ev_or, ev_not, ev_ite, ev_ch, ev_comp, ev_call, evEs, evAnd, evOr, evSrc, evIfs, go_bnd, go_ret, go_some, go_tst, go_ite, go_noX, ex_bl, asB_bl, join_some, g_add, g_sub, g_mul, g_fdiv, g_mod, g_pow, g_shl, g_shr, g_band, g_neg, g_lt, g_le, g_gt, g_ge, g_max2, g_min2, g_mkT, g_mkL, g_newF, g_newC, g_idxT, g_idxF, g_isT_tup, g_isT_fz, g_isT_int, g_isT_str, g_isT_bl, g_len_tup, g_len_fz, g_eqI, g_neI, g_eqS, g_eqB, g_isB, g_isnotB, g_isin2, at0, at1, ex_some, List.getElem?_cons_zero, List.getElem?_cons_succ, List.set_cons_zero, List.set_cons_succ, startE, List.map_cons, List.map_nil, List.length_cons, List.length_nil, Nat.reduceAdd, Nat.reduceSub, List.replicate_succ, List.replicate_zero, List.cons_append, List.nil_append, bd_nm, bd_tp, bds_nil, bds_nm, bds_tp, Option.bind_some, setAll, wipeE, Bool.not_true, Bool.not_false, Bool.false_eq_true, if_true, if_false, true_and, and_true, decide_true, decide_false, fin_f, fin_bl0, fin_bl1, fin_bl2, fin_int0, fin_int1, fin_int2, fin_non0, fin_non1, fin_ints0, fin_ints1, fic_bl, fic_int, fic_non, fic_str, fic_ints, fiv_bl, fiv_int, fiv_non, ev_ch3, bd_tpL, ev_mxk, ev_callv, go_lq, q_raises_1, q_raises_2, q_raises_3, q_raises_4, q_raises_5, q_raises_6, q_raises_7, q_raises_8, q_raises_9, q_asks_11, q_makes_11, q_sub_11_11, q_sub_11_19, q_sub_11_13, q_sub_11_15, q_meth_11_9, q_mn_11_9, q_mk_11, q_makes_12, q_sub_12_11, q_sub_12_19, q_sub_12_13, q_sub_12_15, q_has_12_11, q_has_12_12, q_meth_12_9, q_mn_12_9, q_mk_12, q_asks_13, q_makes_13, q_sub_13_11, q_sub_13_19, q_sub_13_13, q_sub_13_15, q_has_13_1, q_meth_13_9, q_mn_13_9, q_mk_13, q_makes_14, q_sub_14_11, q_sub_14_19, q_sub_14_13, q_sub_14_15, q_has_14_0, q_has_14_3, q_has_14_4, q_has_14_6, q_has_14_7, q_meth_14_9, q_mn_14_9, q_mk_14, q_asks_15, q_makes_15, q_sub_15_11, q_sub_15_19, q_sub_15_13, q_sub_15_15, q_has_15_1, q_meth_15_9, q_mn_15_9, q_mk_15, q_makes_16, q_sub_16_11, q_sub_16_19, q_sub_16_13, q_sub_16_15, q_has_16_10, q_meth_16_9, q_mn_16_9, q_mk_16, q_makes_17, q_sub_17_11, q_sub_17_19, q_sub_17_13, q_sub_17_15, q_has_17_2, q_meth_17_9, q_mn_17_9, q_mk_17, q_makes_18, q_sub_18_11, q_sub_18_19, q_sub_18_13, q_sub_18_15, q_has_18_8, q_meth_18_9, q_mn_18_9, q_mk_18, q_asks_19, q_makes_19, q_sub_19_11, q_sub_19_19, q_sub_19_13, q_sub_19_15, q_meth_19_9, q_mn_19_9, q_mk_19, q_makes_20, q_sub_20_11, q_sub_20_19, q_sub_20_13, q_sub_20_15, q_has_20_5, q_meth_20_9, q_mn_20_9, q_mk_20, show (rs.drop j).length + (rs.take j).length ≤ line from by simp [hlen]; unfold line; omega]
  have sub : ∀ d ∈ rs.drop j ++ rs.take j, d ∈ rs := fun d hd => by
    rcases List.mem_append.mp hd with q | q
    · exact List.mem_of_mem_drop q
    · exact List.mem_of_mem_take q
  have al := all_door hall sub
  generalize rs.drop j ++ rs.take j = l at al
  refine go_for (fun ds ρ S' => (∀ d ∈ ds, ∃ a b c, d = .tup [a, b, c] ∧ doorB (.tup [a, b, c]) = true) ∧ ∃ u0 u1 u2 u3 u4 u5, ρ = [u0, u1, u2, u3, u4, u5]) ?_ ?_ _ _ _ ⟨al, _, _, _, _, _, _, rfl⟩
  · rintro d ds ρ S' ⟨hd, u0, u1, u2, u3, u4, u5, rfl⟩
    obtain ⟨a, b, c, rfl, hdo⟩ := hd d (.head _)
    refine ⟨_, rfl, ?_⟩
    simp only [g_augA, g_augS, gz_slcH, gz_slcL, gz_rev, gz_list, gz_cat, gz_walkS, gz_walkE, go_lm, go_meth, go_setFldN, putN, lookN, go_cons, go_nil, go_fin, go_finN, exS, ev_c, ev_g, ev_v, ev_op, ev_and, ev_or, ev_not, ev_ite, ev_ch, ev_comp, ev_call, evEs, evAnd, evOr, evSrc, evIfs, go_bnd, go_ret, go_some, go_tst, go_ite, go_noX, ex_bl, asB_bl, join_some, g_add, g_sub, g_mul, g_fdiv, g_mod, g_pow, g_shl, g_shr, g_band, g_neg, g_lt, g_le, g_gt, g_ge, g_max2, g_min2, g_mkT, g_mkL, g_newF, g_newC, g_idxT, g_idxF, g_isT_tup, g_isT_fz, g_isT_int, g_isT_str, g_isT_bl, g_len_tup, g_len_fz, g_eqI, g_neI, g_eqS, g_eqB, g_isB, g_isnotB, g_isin2, at0, at1, ex_some, List.getElem?_cons_zero, List.getElem?_cons_succ, List.set_cons_zero, List.set_cons_succ, startE, List.map_cons, List.map_nil, List.length_cons, List.length_nil, Nat.reduceAdd, Nat.reduceSub, List.replicate_succ, List.replicate_zero, List.cons_append, List.nil_append, bd_nm, bd_tp, bds_nil, bds_nm, bds_tp, Option.bind_some, setAll, wipeE, Bool.not_true, Bool.not_false, Bool.false_eq_true, if_true, if_false, true_and, and_true, decide_true, decide_false, fin_f, fin_bl0, fin_bl1, fin_bl2, fin_int0, fin_int1, fin_int2, fin_non0, fin_non1, fin_ints0, fin_ints1, fic_bl, fic_int, fic_non, fic_str, fic_ints, fiv_bl, fiv_int, fiv_non, ev_ch3, bd_tpL, ev_mxk, ev_callv, go_lq, q_raises_1, q_raises_2, q_raises_3, q_raises_4, q_raises_5, q_raises_6, q_raises_7, q_raises_8, q_raises_9, q_asks_11, q_makes_11, q_sub_11_11, q_sub_11_19, q_sub_11_13, q_sub_11_15, q_meth_11_9, q_mn_11_9, q_mk_11, q_makes_12, q_sub_12_11, q_sub_12_19, q_sub_12_13, q_sub_12_15, q_has_12_11, q_has_12_12, q_meth_12_9, q_mn_12_9, q_mk_12, q_asks_13, q_makes_13, q_sub_13_11, q_sub_13_19, q_sub_13_13, q_sub_13_15, q_has_13_1, q_meth_13_9, q_mn_13_9, q_mk_13, q_makes_14, q_sub_14_11, q_sub_14_19, q_sub_14_13, q_sub_14_15, q_has_14_0, q_has_14_3, q_has_14_4, q_has_14_6, q_has_14_7, q_meth_14_9, q_mn_14_9, q_mk_14, q_asks_15, q_makes_15, q_sub_15_11, q_sub_15_19, q_sub_15_13, q_sub_15_15, q_has_15_1, q_meth_15_9, q_mn_15_9, q_mk_15, q_makes_16, q_sub_16_11, q_sub_16_19, q_sub_16_13, q_sub_16_15, q_has_16_10, q_meth_16_9, q_mn_16_9, q_mk_16, q_makes_17, q_sub_17_11, q_sub_17_19, q_sub_17_13, q_sub_17_15, q_has_17_2, q_meth_17_9, q_mn_17_9, q_mk_17, q_makes_18, q_sub_18_11, q_sub_18_19, q_sub_18_13, q_sub_18_15, q_has_18_8, q_meth_18_9, q_mn_18_9, q_mk_18, q_asks_19, q_makes_19, q_sub_19_11, q_sub_19_19, q_sub_19_13, q_sub_19_15, q_meth_19_9, q_mn_19_9, q_mk_19, q_makes_20, q_sub_20_11, q_sub_20_19, q_sub_20_13, q_sub_20_15, q_has_20_5, q_meth_20_9, q_mn_20_9, q_mk_20, go_door hdo]
    exact ⟨rfl, fun d hd2 => hd d (.tail _ hd2), _, _, _, _, _, _, rfl⟩
  · rintro ρ S' ⟨_, u0, u1, u2, u3, u4, u5, rfl⟩
    simp only [g_augA, g_augS, gz_slcH, gz_slcL, gz_rev, gz_list, gz_cat, gz_walkS, gz_walkE, go_lm, go_meth, go_setFldN, putN, lookN, go_cons, go_nil, go_fin, go_finN, exS, ev_c, ev_g, ev_v, ev_op, ev_and, ev_or, ev_not, ev_ite, ev_ch, ev_comp, ev_call, evEs, evAnd, evOr, evSrc, evIfs, go_bnd, go_ret, go_some, go_tst, go_ite, go_noX, ex_bl, asB_bl, join_some, g_add, g_sub, g_mul, g_fdiv, g_mod, g_pow, g_shl, g_shr, g_band, g_neg, g_lt, g_le, g_gt, g_ge, g_max2, g_min2, g_mkT, g_mkL, g_newF, g_newC, g_idxT, g_idxF, g_isT_tup, g_isT_fz, g_isT_int, g_isT_str, g_isT_bl, g_len_tup, g_len_fz, g_eqI, g_neI, g_eqS, g_eqB, g_isB, g_isnotB, g_isin2, at0, at1, ex_some, List.getElem?_cons_zero, List.getElem?_cons_succ, List.set_cons_zero, List.set_cons_succ, startE, List.map_cons, List.map_nil, List.length_cons, List.length_nil, Nat.reduceAdd, Nat.reduceSub, List.replicate_succ, List.replicate_zero, List.cons_append, List.nil_append, bd_nm, bd_tp, bds_nil, bds_nm, bds_tp, Option.bind_some, setAll, wipeE, Bool.not_true, Bool.not_false, Bool.false_eq_true, if_true, if_false, true_and, and_true, decide_true, decide_false, fin_f, fin_bl0, fin_bl1, fin_bl2, fin_int0, fin_int1, fin_int2, fin_non0, fin_non1, fin_ints0, fin_ints1, fic_bl, fic_int, fic_non, fic_str, fic_ints, fiv_bl, fiv_int, fiv_non, ev_ch3, bd_tpL, ev_mxk, ev_callv, go_lq, q_raises_1, q_raises_2, q_raises_3, q_raises_4, q_raises_5, q_raises_6, q_raises_7, q_raises_8, q_raises_9, q_asks_11, q_makes_11, q_sub_11_11, q_sub_11_19, q_sub_11_13, q_sub_11_15, q_meth_11_9, q_mn_11_9, q_mk_11, q_makes_12, q_sub_12_11, q_sub_12_19, q_sub_12_13, q_sub_12_15, q_has_12_11, q_has_12_12, q_meth_12_9, q_mn_12_9, q_mk_12, q_asks_13, q_makes_13, q_sub_13_11, q_sub_13_19, q_sub_13_13, q_sub_13_15, q_has_13_1, q_meth_13_9, q_mn_13_9, q_mk_13, q_makes_14, q_sub_14_11, q_sub_14_19, q_sub_14_13, q_sub_14_15, q_has_14_0, q_has_14_3, q_has_14_4, q_has_14_6, q_has_14_7, q_meth_14_9, q_mn_14_9, q_mk_14, q_asks_15, q_makes_15, q_sub_15_11, q_sub_15_19, q_sub_15_13, q_sub_15_15, q_has_15_1, q_meth_15_9, q_mn_15_9, q_mk_15, q_makes_16, q_sub_16_11, q_sub_16_19, q_sub_16_13, q_sub_16_15, q_has_16_10, q_meth_16_9, q_mn_16_9, q_mk_16, q_makes_17, q_sub_17_11, q_sub_17_19, q_sub_17_13, q_sub_17_15, q_has_17_2, q_meth_17_9, q_mn_17_9, q_mk_17, q_makes_18, q_sub_18_11, q_sub_18_19, q_sub_18_13, q_sub_18_15, q_has_18_8, q_meth_18_9, q_mn_18_9, q_mk_18, q_asks_19, q_makes_19, q_sub_19_11, q_sub_19_19, q_sub_19_13, q_sub_19_15, q_meth_19_9, q_mn_19_9, q_mk_19, q_makes_20, q_sub_20_11, q_sub_20_19, q_sub_20_13, q_sub_20_15, q_has_20_5, q_meth_20_9, q_mn_20_9, q_mk_20]
end
end K15
open PySem PySem.W PySem.Calls PyProof.Rows in
set_option maxRecDepth 100000 in
set_option maxHeartbeats 0 in
theorem PySem.Challenge.cw_coinchute_k15_whole_handed_holds : PySem.Challenge.rw_coinchute_k15_whole_handed.Holds := by
  w_on; o_law
  refine HandSHeadRun.head_any (r := K15.Rw) (q := K15.qv) (H := Mi.hookM 4 K15.tx K15.pr K15.fs) (ob := Mi.obM 4 K15.tx K15.pr K15.fs) (M := 8000) (loose := K15.loose) (d := HandSHeadRun.topDef K15.Rw.prog 81) (kwd := []) Mi.obM_eq
    (by kernel_rfl) (fun s => by kernel_rfl) K15.top_run (by kernel_rfl) (by kernel_rfl) (by kernel_rfl) (by rfl) (by first | assumption | decide +kernel) (by decide +kernel) ⟨rfl, rfl, rfl, rfl, rfl, by decide +kernel⟩ ?hw ?hc
  case hw => w_witness2
  case hc =>
    exact Mi.walkM (l := PySem.Challenge.rw_coinchute_k15_whole_handed) (n0 := 4) (n := K15.dep) (fu := K15.fuel) (fL := 64) (F := K15.f64) (x := "_law_script") rfl (by kernel_rfl) ⟨rfl, by decide, by decide⟩ K15.tab_ok K15.b_ok K15.ch_ok K15.as_ok K15.lm_ok rfl rfl (by kernel_rfl) K15.main
