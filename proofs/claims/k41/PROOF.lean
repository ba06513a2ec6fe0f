import PyProof.Rows.All
import Wide.All
import OpenK.AllK
import Wide.FinOn
import KE.SortData
import HandS.Comp
import HandS.Style
import HandS.TupAny
import HandS.ForMost
import HandS.Zip
import HandS.Wide
import HandS.Flow
import HandS.CallLocal
import HandS.SortInts
import KE.KDictKeyed
import HandS.TupLen
import KE.KEqDict
import KE.KDictPairs
import HandS.IsInst
import HandS.More
import KE.KDictSum
import KE.KDictCopyH
import KE.KDictDisplayH
import HandS.Star
import KE.GoesEnum
import PySem.Challenge.RW_shopwhole_k41_lots
/-! EvCore: a small language's trees, pure data, its evaluator. Own work. -/
set_option linter.all false
set_option Elab.async false
namespace Lil

/-- the line of sizes (2 ^ 24) -/
def LN : Nat := 16777216

inductive DV where
  | non | bl (b : Bool) | int (i : Int) | str (s : List Nat) | tup (ds : List DV) | ref (n : Nat) | fn (i : Nat)
  deriving Inhabited

/-- dct: keys ints and texts; dtt: keys tuples; lkk, lkt: the same while they are walked -/
inductive DO where
  | lst (ds : List DV) | fro (ds : List DV) | dct (ps : List (DV × DV)) | dtt (ps : List (DV × DV)) | lkk (ps : List (DV × DV)) | lkt (ps : List (DV × DV)) | ins (c : Nat) (fs : List (Nat × DV))
  deriving Inhabited

mutual
def DV.beq : DV → DV → Bool
  | .non, .non => true
  | .bl a, .bl b => a == b
  | .int a, .int b => a == b
  | .str a, .str b => a == b
  | .tup a, .tup b => DV.beqs a b
  | .ref a, .ref b => a == b
  | .fn a, .fn b => a == b
  | _, _ => false
def DV.beqs : List DV → List DV → Bool
  | [], [] => true
  | a :: as, b :: bs => DV.beq a b && DV.beqs as bs
  | _, _ => false
end
mutual
theorem DV.beq_self : ∀ a : DV, DV.beq a a = true
  | .non => rfl
  | .bl a => by simp [DV.beq]
  | .int a => by simp [DV.beq]
  | .str a => by simp [DV.beq]
  | .tup a => by rw [DV.beq]; exact DV.beqs_self a
  | .ref a => by simp [DV.beq]
  | .fn a => by simp [DV.beq]
theorem DV.beqs_self : ∀ a : List DV, DV.beqs a a = true
  | [] => rfl
  | a :: as => by rw [DV.beqs, DV.beq_self a, DV.beqs_self as]; rfl
end
mutual
theorem DV.eq_of : ∀ a b : DV, DV.beq a b = true → a = b
  | .non, b, h => by cases b <;> first | rfl | (simp [DV.beq] at h; done)
  | .bl a, b, h => by cases b <;> first | (simp [DV.beq] at h; done) | (simp [DV.beq] at h; rw [h])
  | .int a, b, h => by cases b <;> first | (simp [DV.beq] at h; done) | (simp [DV.beq] at h; rw [h])
  | .str a, b, h => by cases b <;> first | (simp [DV.beq] at h; done) | (simp [DV.beq] at h; rw [h])
  | .tup a, b, h => by
    cases b with
    | tup c => rw [DV.beq] at h; rw [DV.eqs_of a c h]
    | _ => simp [DV.beq] at h
  | .ref a, b, h => by cases b <;> first | (simp [DV.beq] at h; done) | (simp [DV.beq] at h; rw [h])
  | .fn a, b, h => by cases b <;> first | (simp [DV.beq] at h; done) | (simp [DV.beq] at h; rw [h])
theorem DV.eqs_of : ∀ a b : List DV, DV.beqs a b = true → a = b
  | [], [], _ => rfl
  | [], _ :: _, h => by simp [DV.beqs] at h
  | _ :: _, [], h => by simp [DV.beqs] at h
  | a :: as, b :: bs, h => by
    rw [DV.beqs, Bool.and_eq_true] at h
    rw [DV.eq_of a b h.1, DV.eqs_of as bs h.2]
end
theorem DV.beq_iff {a b : DV} : DV.beq a b = true ↔ a = b := ⟨DV.eq_of a b, fun e => by rw [e]; exact DV.beq_self b⟩
instance : DecidableEq DV := fun a b => if h : DV.beq a b = true then .isTrue (DV.eq_of a b h) else .isFalse fun e => h (e ▸ DV.beq_self a)

abbrev Hd := List DO
abbrev Sl := List (Option DV)

inductive Res (α : Type) where
  | ok (a : α) (h : Hd)
  | exc (c : Nat) (fs : List (Nat × DV)) (h : Hd)
  | bad

def Res.bind {α β : Type} (r : Res α) (f : α → Hd → Res β) : Res β :=
  match r with
  | .ok a h => f a h
  | .exc c fs h => .exc c fs h
  | .bad => .bad

/-! ### trees -/
inductive Bop where | add | sub | mul | fdiv | mod | pow
  deriving DecidableEq
inductive Cop where | eq | ne | lt | le | gt | ge | inn | nin
  deriving DecidableEq
inductive Blt where
  | len | list | tuple | sorted | sset | any | all | min | max | sum | abs | int | str | dict | dictt | min2 | max2 | lenset
  deriving DecidableEq
inductive Mth where
  | append | extend | pop | index | get | update | join | split | find | replace
  deriving DecidableEq
/-- the methods of dicts -/
def Mth.isD : Mth → Bool
  | .update => true
  | .get => true
  | _ => false
inductive Tyn where | int | bool | str | tuple
  deriving DecidableEq

mutual
inductive Pt where
  | nm (i : Nat)
  | tp (ps : Pts)
inductive Pts where
  | nil
  | cons (p : Pt) (ps : Pts)
end

mutual
inductive E where
  | lit (d : DV)
  | var (i : Nat)
  | bin (o : Bop) (a b : E)
  | neg (a : E)
  | nt (a : E)
  | cmp (o : Cop) (a b : E)
  | chn (o o' : Cop) (a b c : E)
  | isn (a : E)
  | nsn (a : E)
  | and (a b : E)
  | or (a b : E)
  | ife (c a b : E)
  | tup (es : Es)
  | lst (es : Es)
  | dnw
  | dnt
  | ds1 (t : Bool) (k v : E)
  | idx (a b : E)
  | slc (a : E) (lo hi : Oe)
  | stp (a : E) (k : Nat)
  | rev (a : E)
  | cal (i : Nat) (es : Es)
  | cav (i : Nat) (es : Es)
  | blt (b : Blt) (es : Es)
  | isi (a : E) (t : Tyn)
  | mth (m : Mth) (a : E) (es : Es)
  | lc (elt : E) (p : Pt) (it : Ie) (cond : Oe) (own : List Nat)
inductive Es where
  | nil
  | cons (e : E) (es : Es)
  | str (e : E) (es : Es)
inductive Oe where
  | no
  | so (e : E)
inductive Ie where
  | sq (e : E)
  | r1 (e : E)
  | r2 (a b : E)
  | zp (a b : E)
  | en (e : E)
end

mutual
inductive Tg where
  | pt (p : Pt)
  | sub (o i : E)
  | tp (ts : Tgs)
inductive Tgs where
  | nil
  | cons (t : Tg) (ts : Tgs)
end

mutual
inductive S where
  | asg (t : Tg) (e : E)
  | par (is : List Nat) (es : Es)
  | aug (i : Nat) (o : Bop) (e : E)
  | exp (e : E)
  | ret (e : E)
  | ift (c : E) (a b : Ss)
  | fo (p : Pt) (it : Ie) (b : Ss)
  | wh (c : E) (b : Ss)
  | brk
  | cnt
  | pas
inductive Ss where
  | nil
  | cons (s : S) (ss : Ss)
end

/-! ### data -/
def allEq (f : DV → DV → Bool) : List DV → List DV → Bool
  | [], [] => true
  | x :: xs, y :: ys => f x y && allEq f xs ys
  | _, _ => false

/-- is it data, to a depth -/
def isDat (h : Hd) : Nat → DV → Bool
  | 0, _ => false
  | n + 1, x => match x with
    | .non => true
    | .bl _ => true
    | .int _ => true
    | .str s => s.all fun c => decide (c < 1114112)
    | .tup ds => ds.all (isDat h n)
    | .ref k => match h[k]? with
      | some (.lst ds) => ds.all (isDat h n)
      | _ => false
    | .fn _ => false
/-- ==, to a depth -/
def deq (h : Hd) : Nat → DV → DV → Bool
  | 0, _, _ => false
  | n + 1, x, y =>
    match x, y with
    | .non, .non => true
    | .bl a, .bl b => a == b
    | .bl a, .int j => (if a then 1 else 0) == j
    | .int i, .bl b => i == (if b then 1 else 0)
    | .int a, .int b => a == b
    | .str a, .str b => a == b
    | .tup a, .tup b => allEq (deq h n) a b
    | .ref a, .ref b => match h[a]?, h[b]? with
      | some (.lst xs), some (.lst ys) => allEq (deq h n) xs ys
      | _, _ => false
    | _, _ => false
def eqO (h : Hd) (n : Nat) (x y : DV) : Option Bool := if isDat h n x && isDat h n y then some (deq h n x y) else none
def DEEP : Nat := 40

def tru (h : Hd) : DV → Option Bool
  | .non => some false
  | .bl b => some b
  | .int i => some (decide (i ≠ 0))
  | .str s => if s.length ≤ LN then some (!s.isEmpty) else none
  | .tup ds => some (!ds.isEmpty)
  | .ref n => match h[n]? with
    | some (.lst ds) => some (!ds.isEmpty)
    | some (.fro ds) => some (!ds.isEmpty)
    | _ => none
  | .fn _ => none

/-- the place of an index -/
def ixn (n : Nat) (i : Int) : Option Nat := if 0 ≤ i then (if i < n then some i.toNat else none) else if -(n : Int) ≤ i then some (i + n).toNat else none
def six (n d : Nat) : Option Int → Nat
  | none => d
  | some k => if k < 0 then (k + n).toNat else min k.toNat n
def cut {α : Type} (xs : List α) (lo hi : Option Int) : List α := (xs.drop (six xs.length 0 lo)).take (six xs.length xs.length hi - six xs.length 0 lo)
/-- xs[::2] -/
def evens {α : Type} : List α → List α
  | [] => []
  | [x] => [x]
  | x :: _ :: r => x :: evens r

def okMul (i j : Int) : Bool := decide ((-(2 ^ 64) < i ∧ i < 2 ^ 64) ∨ (-(2 ^ 64) < j ∧ j < 2 ^ 64))

def alloc (o : DO) (h : Hd) : Res DV := .ok (.ref h.length) (h ++ [o])
/-- a tuple, a list of some length -/
def mkTup (ds : List DV) (h : Hd) : Res DV := if ds.length ≤ LN then .ok (.tup ds) h else .bad
def mkLst (ds : List DV) (h : Hd) : Res DV := if ds.length ≤ LN then alloc (.lst ds) h else .bad

def bop (o : Bop) (x y : DV) (h : Hd) : Res DV :=
  match o, x, y with
  | .add, .int i, .int j => .ok (.int (i + j)) h
  | .add, .str a, .str b => if a.length + b.length ≤ LN then .ok (.str (a ++ b)) h else .bad
  | .add, .tup xs, .tup ys => mkTup (xs ++ ys) h
  | .add, .ref a, .ref b => match h[a]?, h[b]? with
    | some (.lst xs), some (.lst ys) => mkLst (xs ++ ys) h
    | _, _ => .bad
  | .sub, .int i, .int j => .ok (.int (i - j)) h
  | .mul, .int i, .int j => if okMul i j then .ok (.int (i * j)) h else .bad
  | .fdiv, .int i, .int j => if 0 < j ∧ j.natAbs.log2 < 9000 then .ok (.int (i / j)) h else .bad
  | .mod, .int i, .int j => if 0 < j then .ok (.int (i % j)) h else .bad
  | .pow, .int i, .int j => if 0 ≤ j ∧ j ≤ 1000000 ∧ i.natAbs < 2 ^ 64 then .ok (.int (i ^ j.toNat)) h else .bad
  | _, _, _ => .bad

/-- keys that are ints or texts -/
def keyEq : DV → DV → Bool
  | .int a, .int b => a == b
  | .str a, .str b => a == b
  | _, _ => false
def getD (ps : List (DV × DV)) (k : DV) : Option DV :=
  match ps with
  | [] => none
  | (y, v) :: r => if keyEq y k then some v else getD r k
def putD (ps : List (DV × DV)) (k v : DV) : List (DV × DV) :=
  if (getD ps k).isSome then ps.map (fun kv => if keyEq kv.1 k then (kv.1, v) else kv) else ps ++ [(k, v)]

def isFlat : DV → Bool
  | .non => true | .bl _ => true | .int _ => true | .str _ => true | _ => false
/-- x op= y of what doesn't change in place -/
def iop (o : Bop) (x y : DV) (h : Hd) : Res DV :=
  match x with
  | .ref _ => .bad
  | .tup _ => .bad
  | _ => bop o x y h
/-- a key of a dict -/
def isKey1 : DV → Bool
  | .int _ => true | .str _ => true | _ => false

/-- keys that are tuples, nested -/
def isK : Nat → DV → Bool
  | _, .non => true
  | _, .int _ => true
  | _, .str _ => true
  | n + 1, .tup ds => ds.all (isK n)
  | _, _ => false
def isKey2 : DV → Bool
  | .tup ds => isK 8 (.tup ds)
  | _ => false
def getT (ps : List (DV × DV)) (k : DV) : Option DV :=
  match ps with
  | [] => none
  | (y, v) :: r => if y = k then some v else getT r k
def putT (ps : List (DV × DV)) (k v : DV) : List (DV × DV) :=
  if (getT ps k).isSome then ps.map (fun kv => if kv.1 = k then (kv.1, v) else kv) else ps ++ [(k, v)]
def mergeT (ps qs : List (DV × DV)) : List (DV × DV) := qs.foldl (fun acc kv => putT acc kv.1 kv.2) ps
def isBl : DV → Bool
  | .bl _ => true
  | _ => false
/-- the keys are points with small coordinates: their hashes lie apart -/
def isPt : DV → Bool
  | .tup [.int x, .int y, .int z] => decide (-1 ≤ x ∧ x ≤ 6) && decide (-1 ≤ y ∧ y ≤ 6) && decide (-1 ≤ z ∧ z ≤ 6)
  | _ => false
def apart (ps : List (DV × DV)) : Bool := ps.all fun kv => isPt kv.1
/-- a list of pairs -/
def pairsT : List DV → Option (List (DV × DV))
  | [] => some []
  | .tup [k, v] :: r => if isKey2 k then (pairsT r).map ((k, v) :: ·) else none
  | _ => none
/-- == of dicts with tuples as keys whose values are truths -/
def eqT (ps qs : List (DV × DV)) : Option Bool :=
  if (ps.all fun kv => isBl kv.2) && (qs.all fun kv => isBl kv.2) then some (ps.length == qs.length && ps.all fun kv => decide (getT qs kv.1 = some kv.2)) else none
/-- the pairs of a dict of tuples -/
def dctT (x : DV) (h : Hd) : Option (List (DV × DV)) :=
  match x with
  | .ref n => match h[n]? with
    | some (.dtt ps) => some ps
    | some (.lkt ps) => some ps
    | _ => none
  | _ => none

def seqOf (h : Hd) : DV → Option (List DV)
  | .tup ds => some ds
  | .ref n => match h[n]? with
    | some (.lst ds) => some ds
    | some (.fro ds) => some ds
    | _ => none
  | _ => none

/-- in, of dicts -/
def isIn (x y : DV) (h : Hd) : Option Bool :=
  match y with
  | .ref n => match h[n]? with
    | some (.dct ps) => if isKey1 x then some (getD ps x).isSome else none
    | some (.dtt ps) => if isKey2 x then some (getT ps x).isSome else none
    | some (.lkt ps) => if isKey2 x then some (getT ps x).isSome else none
    | _ => none
  | _ => none
/-- == -/
def eqq (x y : DV) (h : Hd) : Option Bool :=
  match dctT x h, dctT y h with
  | some ps, some qs => eqT ps qs
  | _, _ => eqO h DEEP x y
def cop (o : Cop) (x y : DV) (h : Hd) : Option Bool :=
  match o with
  | .eq => eqq x y h
  | .ne => (eqq x y h).map (!·)
  | .lt => match x, y with
    | .int i, .int j => some (decide (i < j))
    | _, _ => none
  | .le => match x, y with
    | .int i, .int j => some (decide (i ≤ j))
    | _, _ => none
  | .gt => match x, y with
    | .int i, .int j => some (decide (j < i))
    | _, _ => none
  | .ge => match x, y with
    | .int i, .int j => some (decide (j ≤ i))
    | _, _ => none
  | .inn => isIn x y h
  | .nin => (isIn x y h).map (!·)

def keyOf (x y : DV) (h : Hd) : Option DV :=
  match x with
  | .ref n => match h[n]? with
    | some (.dct ps) => if isKey1 y then getD ps y else none
    | some (.dtt ps) => if isKey2 y then getT ps y else none
    | some (.lkt ps) => if isKey2 y then getT ps y else none
    | _ => none
  | _ => none
def isDct (x : DV) (h : Hd) : Bool :=
  match x with
  | .ref n => match h[n]? with
    | some (.dct _) => true
    | some (.dtt _) => true
    | some (.lkt _) => true
    | _ => false
  | _ => false
def index (x y : DV) (h : Hd) : Option DV :=
  if isDct x h then keyOf x y h else
  match y with
  | .int i => match x with
    | .tup ds => (ixn ds.length i).bind fun j => ds[j]?
    | .str s => if s.length ≤ LN then ((ixn s.length i).bind fun j => s[j]?).map fun c => .str [c] else none
    | .ref n => match h[n]? with
      | some (.lst ds) => (ixn ds.length i).bind fun j => ds[j]?
      | some (.fro ds) => (ixn ds.length i).bind fun j => ds[j]?
      | _ => none
    | _ => none
  | _ => none

def slice (x : DV) (lo hi : Option Int) (h : Hd) : Res DV :=
  match x with
  | .tup ds => .ok (.tup (cut ds lo hi)) h
  | .str s => if s.length ≤ LN then .ok (.str (cut s lo hi)) h else .bad
  | .ref n => match h[n]? with
    | some (.lst ds) => alloc (.lst (cut ds lo hi)) h
    | some (.fro ds) => alloc (.lst (cut ds lo hi)) h
    | _ => .bad
  | _ => .bad

def store (x y v : DV) (h : Hd) : Option Hd :=
  match x with
  | .ref n => match h[n]? with
    | some (.lst ds) => match y with
      | .int i => (ixn ds.length i).map fun j => h.set n (.lst (ds.set j v))
      | _ => none
    | some (.dct ps) => if isKey1 y ∧ ps.length < LN then some (h.set n (.dct (putD ps y v))) else none
    | some (.dtt ps) => if isKey2 y ∧ ps.length < LN then some (h.set n (.dtt (putT ps y v))) else none
    | _ => none
  | _ => none

/-! ### walking -/
inductive Nx where | stop | bad | item (d : DV)
inductive It where
  | tup (ds : List DV) | lst (n : Nat) | rng (lo : Int) (n : Nat) | zp (a b : It) | en (a : It) | str (s : List Nat) | dk (n : Nat) | dkk (n : Nat)

def itemAt (h : Hd) : It → Nat → Nx
  | .tup ds, i => match ds[i]? with
    | some d => .item d
    | none => .stop
  | .lst n, i => match h[n]? with
    | some (.lst ds) => (match ds[i]? with | some d => .item d | none => .stop)
    | some (.fro ds) => (match ds[i]? with | some d => .item d | none => .stop)
    | _ => .bad
  | .rng lo n, i => if i < n then .item (.int (lo + i)) else .stop
  | .zp a b, i => match itemAt h a i with
    | .item x => (match itemAt h b i with
      | .item y => .item (.tup [x, y])
      | r => r)
    | .stop => (match itemAt h b i with
      | .bad => .bad
      | _ => .stop)
    | .bad => .bad
  | .en a, i => match itemAt h a i with
    | .item x => .item (.tup [.int i, x])
    | r => r
  | .str s, i => match s[i]? with
    | some c => .item (.str [c])
    | none => .stop
  | .dk n, i => match h[n]? with
    | some (.lkt ps) => (match ps[i]? with | some kv => .item kv.1 | none => .stop)
    | some (.lkk ps) => (match ps[i]? with | some kv => .item kv.1 | none => .stop)
    | _ => .bad
  | .dkk n, i => match h[n]? with
    | some (.lkt ps) => (match ps[i]? with | some kv => .item kv.1 | none => .stop)
    | some (.lkk ps) => (match ps[i]? with | some kv => .item kv.1 | none => .stop)
    | _ => .bad
/-- the dict that was walked is unlocked -/
def unlk (J : It) (h : Hd) : Hd :=
  match J with
  | .dk n => match h[n]? with
    | some (.lkt ps) => h.set n (.dtt ps)
    | some (.lkk ps) => h.set n (.dct ps)
    | _ => h
  | _ => h

mutual
def bind1 : Pt → DV → Sl → Option Sl
  | .nm i, d, σ => some (σ.set i (some d))
  | .tp ps, d, σ => match d with
    | .tup ds => bindAll ps ds σ
    | _ => none
def bindAll : Pts → List DV → Sl → Option Sl
  | .nil, [], σ => some σ
  | .cons p ps, d :: ds, σ => match bind1 p d σ with
    | some σ' => bindAll ps ds σ'
    | none => none
  | _, _, _ => none
end

/-- what a statement comes to -/
inductive Fl where
  | nx (σ : Sl) (h : Hd) | rt (v : DV) (h : Hd) | bk (σ : Sl) (h : Hd) | ct (σ : Sl) (h : Hd)
  | exc (c : Nat) (fs : List (Nat × DV)) (h : Hd) | bad

def Res.fl {α : Type} (r : Res α) (f : α → Hd → Fl) : Fl :=
  match r with
  | .ok a h => f a h
  | .exc c fs h => .exc c fs h
  | .bad => .bad

def Fl.aft (f : Hd → Hd) : Fl → Fl
  | .nx σ h => .nx σ (f h)
  | .rt v h => .rt v (f h)
  | .bk σ h => .bk σ (f h)
  | .ct σ h => .ct σ (f h)
  | .exc c fs h => .exc c fs (f h)
  | .bad => .bad
def Res.aft {α : Type} (f : Hd → Hd) : Res α → Res α
  | .ok a h => .ok a (f h)
  | .exc c fs h => .exc c fs (f h)
  | .bad => .bad

def loopF (it : It) (body : DV → Sl → Hd → Fl) : Nat → Nat → Sl → Hd → Fl
  | 0, _, _, _ => .bad
  | k + 1, i, σ, h => match itemAt h it i with
    | .stop => .nx σ h
    | .bad => .bad
    | .item d => match body d σ h with
      | .nx σ' h' => loopF it body k (i + 1) σ' h'
      | .ct σ' h' => loopF it body k (i + 1) σ' h'
      | .bk σ' h' => .nx σ' h'
      | r => r

def loopW (test : Sl → Hd → Res Bool) (body : Sl → Hd → Fl) : Nat → Sl → Hd → Fl
  | 0, _, _ => .bad
  | k + 1, σ, h => match test σ h with
    | .ok true h1 => (match body σ h1 with
      | .nx σ' h' => loopW test body k σ' h'
      | .ct σ' h' => loopW test body k σ' h'
      | .bk σ' h' => .nx σ' h'
      | r => r)
    | .ok false h1 => .nx σ h1
    | .exc c fs h1 => .exc c fs h1
    | .bad => .bad

/-- a comprehension's turns; turn: none where the test fails -/
def loopC (it : It) (turn : DV → Hd → Res (Option DV)) (n : Nat) : Nat → Nat → Hd → Res DV
  | 0, _, _ => .bad
  | k + 1, i, h => match itemAt h it i with
    | .stop => .ok (.ref n) h
    | .bad => .bad
    | .item d => match turn d h with
      | .ok none h' => loopC it turn n k (i + 1) h'
      | .ok (some v) h' => (match h'[n]? with
        | some (.lst ds) => if ds.length < LN then loopC it turn n k (i + 1) (h'.set n (.lst (ds ++ [v]))) else .bad
        | _ => .bad)
      | _ => .bad

def FUEL : Nat := 16777300

def wip (σ : Sl) : List Nat → Sl
  | [] => σ
  | v :: vs => (wip σ vs).set v none

/-! ### data, and sorting them -/
mutual
def toD (h : Hd) : Nat → DV → PySem.PyData
  | 0, _ => .none
  | n + 1, x => match x with
    | .non => .none
    | .bl b => .bool b
    | .int i => .int i
    | .str s => .str ⟨s.toArray⟩
    | .tup ds => .tuple (ds.map (toD h n))
    | .ref k => match h[k]? with
      | some (.lst ds) => .list (ds.map (toD h n))
      | _ => .none
    | .fn _ => .none
end
/-- three ints -/
def isP3 : DV → Bool
  | .tup [.int _, .int _, .int _] => true
  | _ => false
/-- a tuple with something in it -/
def tupNE : DV → Bool
  | .tup (_ :: _) => true
  | _ => false
def srtable (h : Hd) (ds : List DV) : Bool := ds.all (fun d => tupNE d && isDat h 39 d) && ds.all fun x => ds.all fun y => PySem.W.alike (toD h 39 x) (toD h 39 y)
def srtD (h : Hd) (ds : List DV) : List DV := ds.mergeSort fun x y => PySem.W.dataLe false (toD h 39) x y
/-! ### built-ins -/
def insD (lt : DV → DV → Bool) (x : DV) : List DV → List DV
  | [] => [x]
  | y :: r => if lt y x then y :: insD lt x r else x :: y :: r
def allInts : List DV → Option (List Int)
  | [] => some []
  | .int i :: r => (allInts r).map (i :: ·)
  | _ => none
def allBls : List DV → Option (List Bool)
  | [] => some []
  | .bl b :: r => (allBls r).map (b :: ·)
  | _ => none
def insI (x : Int) : List Int → List Int
  | [] => [x]
  | y :: r => if y < x then y :: insI x r else x :: y :: r
def sortI : List Int → List Int
  | [] => []
  | x :: r => insI x (sortI r)
def minI : List Int → Option Int
  | [] => none
  | x :: r => match minI r with
    | none => some x
    | some y => some (if x ≤ y then x else y)
def maxI : List Int → Option Int
  | [] => none
  | x :: r => match maxI r with
    | none => some x
    | some y => some (if y ≤ x then x else y)

def blt (b : Blt) (vs : List DV) (h : Hd) : Res DV :=
  match b, vs with
  | .len, [.str s] => if s.length ≤ LN then .ok (.int s.length) h else .bad
  | .len, [x] => match seqOf h x with
    | some ds => .ok (.int ds.length) h
    | none => match dctT x h with
      | some ps => .ok (.int ps.length) h
      | none => .bad
  | .dictt, [.ref n] => match h[n]? with
    | some (.lst ds) => (match pairsT ds with | some ps => alloc (.dtt (mergeT [] ps)) h | none => .bad)
    | some (.dtt ps) => if apart ps then alloc (.dtt ps) h else .bad
    | some (.lkt ps) => if apart ps then alloc (.dtt ps) h else .bad
    | _ => .bad
  | .list, [x] => match seqOf h x with
    | some ds => alloc (.lst ds) h
    | none => .bad
  | .tuple, [x] => match seqOf h x with
    | some ds => .ok (.tup ds) h
    | none => .bad
  | .any, [.ref n] => match h[n]? with
    | some (.lst ds) => (match allBls ds with | some bs => .ok (.bl (bs.any id)) h | none => .bad)
    | _ => .bad
  | .all, [.ref n] => match h[n]? with
    | some (.lst ds) => (match allBls ds with | some bs => .ok (.bl (bs.all id)) h | none => .bad)
    | _ => .bad
  | .min, [.ref n] => match h[n]? with
    | some (.lst ds) => (match (allInts ds).bind minI with | some m => .ok (.int m) h | none => .bad)
    | _ => .bad
  | .max, [.ref n] => match h[n]? with
    | some (.lst ds) => (match (allInts ds).bind maxI with | some m => .ok (.int m) h | none => .bad)
    | _ => .bad
  | .sum, [.ref n] => match h[n]? with
    | some (.lst ds) => (match allInts ds with | some ns => .ok (.int ns.sum) h | none => .bad)
    | _ => .bad
  | .sorted, [.ref n] => match h[n]? with
    | some (.lst ds) => (match allInts ds with | some ns => alloc (.lst ((sortI ns).map .int)) h | none => if srtable h ds then alloc (.lst (srtD h ds)) h else .bad)
    | some (.dtt ps) => if ps.all (fun kv => isP3 kv.1) then alloc (.lst (srtD h (ps.map (·.1)))) h else .bad
    | some (.dct ps) => (match allInts (ps.map (·.1)) with | some ns => if ns.length < 64 then alloc (.lst ((sortI ns).map .int)) h else .bad | none => .bad)
    | _ => .bad
  | .abs, [.int i] => .ok (.int (if i < 0 then -i else i)) h
  | .int, [.int i] => .ok (.int i) h
  | _, _ => .bad

def mth (m : Mth) (x : DV) (vs : List DV) (h : Hd) : Res DV :=
  match m, x, vs with
  | .append, .ref n, [v] => match h[n]? with
    | some (.lst ds) => if ds.length < LN then .ok .non (h.set n (.lst (ds ++ [v]))) else .bad
    | _ => .bad
  | .extend, .ref n, [.ref m] => match h[n]?, h[m]? with
    | some (.lst ds), some (.lst es) => if ds.length + es.length ≤ LN then .ok .non (h.set n (.lst (ds ++ es))) else .bad
    | _, _ => .bad
  | .update, .ref n, [.ref m] => match h[n]?, h[m]? with
    | some (.dtt ps), some (.dtt qs) => if n ≠ m ∧ (ps ≠ [] ∨ apart qs = true) ∧ ps.length + qs.length ≤ LN then .ok .non (h.set n (.dtt (mergeT ps qs))) else .bad
    | some (.dtt ps), some (.lkt qs) => if n ≠ m ∧ (ps ≠ [] ∨ apart qs = true) ∧ ps.length + qs.length ≤ LN then .ok .non (h.set n (.dtt (mergeT ps qs))) else .bad
    | _, _ => .bad
  | .pop, .ref n, [] => match h[n]? with
    | some (.lst ds) => (match ds.getLast? with | some v => .ok v (h.set n (.lst ds.dropLast)) | none => .bad)
    | _ => .bad
  | _, _, _ => .bad

/-- may the method be called on it -/
def recv (m : Mth) (x : DV) (h : Hd) : Bool :=
  match x with
  | .ref n => match h[n]? with
    | some (.lst _) => !m.isD
    | some (.dtt _) => m.isD
    | some (.lkt _) => m.isD
    | _ => false
  | _ => false

def isTy : Tyn → DV → Option Bool
  | .int, .int _ => some true | .int, .bl _ => some true | .int, .str _ => some false | .int, .non => some false | .int, .tup _ => some false
  | .bool, .bl _ => some true | .bool, .int _ => some false | .bool, .str _ => some false | .bool, .non => some false | .bool, .tup _ => some false
  | .str, .str _ => some true | .str, .int _ => some false | .str, .bl _ => some false | .str, .non => some false | .str, .tup _ => some false
  | .tuple, .tup _ => some true | .tuple, .int _ => some false | .tuple, .bl _ => some false | .tuple, .str _ => some false | .tuple, .non => some false
  | _, _ => none

/-- isinstance, of objects too -/
def isTyH (h : Hd) (t : Tyn) (x : DV) : Option Bool :=
  match x with
  | .ref n => match h[n]? with
    | some (.lst _) => some false
    | some (.dct _) => some false
    | _ => none
  | _ => isTy t x

def isNon : DV → Bool
  | .non => true
  | _ => false
def litB (o : Option Bool) (h : Hd) : Res DV :=
  match o with
  | some b => .ok (.bl b) h
  | none => .bad
def truR (x : DV) (h : Hd) : Res Bool :=
  match tru h x with
  | some b => .ok b h
  | none => .bad
def ofO (o : Option DV) (h : Hd) : Res DV :=
  match o with
  | some d => .ok d h
  | none => .bad
def ixO : DV → Option (Option Int)
  | .int i => some (some i)
  | _ => none

/-! ### the evaluator -/
section
variable (F : Nat → List DV → Hd → Res DV)
mutual
def ev : E → Sl → Hd → Res DV
  | .lit d, _, h => .ok d h
  | .var i, σ, h => match σ[i]? with
    | some (some d) => .ok d h
    | _ => .bad
  | .bin o a b, σ, h => (ev a σ h).bind fun x h1 => (ev b σ h1).bind fun y h2 => bop o x y h2
  | .neg a, σ, h => (ev a σ h).bind fun x h1 => match x with
    | .int i => .ok (.int (-i)) h1
    | _ => .bad
  | .nt a, σ, h => (ev a σ h).bind fun x h1 => (truR x h1).bind fun b h2 => .ok (.bl (!b)) h2
  | .cmp o a b, σ, h => (ev a σ h).bind fun x h1 => (ev b σ h1).bind fun y h2 => litB (cop o x y h2) h2
  | .chn o o' a b c, σ, h => (ev a σ h).bind fun x h1 => (ev b σ h1).bind fun y h2 => match cop o x y h2 with
    | some true => (ev c σ h2).bind fun z h3 => litB (cop o' y z h3) h3
    | some false => .ok (.bl false) h2
    | none => .bad
  | .isn a, σ, h => (ev a σ h).bind fun x h1 => .ok (.bl (isNon x)) h1
  | .nsn a, σ, h => (ev a σ h).bind fun x h1 => .ok (.bl (!isNon x)) h1
  | .and a b, σ, h => (ev a σ h).bind fun x h1 => (truR x h1).bind fun t h2 => if t then ev b σ h2 else .ok x h2
  | .or a b, σ, h => (ev a σ h).bind fun x h1 => (truR x h1).bind fun t h2 => if t then .ok x h2 else ev b σ h2
  | .ife c a b, σ, h => (ev c σ h).bind fun x h1 => (truR x h1).bind fun t h2 => if t then ev a σ h2 else ev b σ h2
  | .tup es, σ, h => (evs es σ h).bind mkTup
  | .lst es, σ, h => (evs es σ h).bind mkLst
  | .dnw, _, h => alloc (.dct []) h
  | .dnt, _, h => alloc (.dtt []) h
  | .ds1 t k v, σ, h => (ev k σ (h ++ [if t then .dtt [] else .dct []])).bind fun x h1 => (ev v σ h1).bind fun y h2 => match h2[h.length]? with
    | some (.dtt []) => if t && isKey2 x then .ok (.ref h.length) (h2.set h.length (.dtt [(x, y)])) else .bad
    | _ => .bad
  | .idx a b, σ, h => (ev a σ h).bind fun x h1 => (ev b σ h1).bind fun y h2 => ofO (index x y h2) h2
  | .slc a lo hi, σ, h => (ev a σ h).bind fun x h1 => (evo lo σ h1).bind fun l h2 => (evo hi σ h2).bind fun u h3 => slice x l u h3
  | .stp a k, σ, h => (ev a σ h).bind fun x h1 => match x with
    | .ref n => (match h1[n]? with
      | some (.lst ds) => alloc (.lst (evens (ds.drop k))) h1
      | _ => .bad)
    | _ => .bad
  | .rev a, σ, h => (ev a σ h).bind fun x h1 => match x with
    | .tup ds => .ok (.tup ds.reverse) h1
    | .ref n => (match h1[n]? with
      | some (.lst ds) => alloc (.lst ds.reverse) h1
      | _ => .bad)
    | _ => .bad
  | .cal i es, σ, h => (evs es σ h).bind fun ds h1 => F i ds h1
  | .cav i es, σ, h => match σ[i]? with
    | some (some (.fn j)) => (evs es σ h).bind fun ds h1 => F j ds h1
    | _ => .bad
  | .blt b es, σ, h => (evs es σ h).bind fun ds h1 => blt b ds h1
  | .isi a t, σ, h => (ev a σ h).bind fun x h1 => litB (isTyH h1 t x) h1
  | .mth m a es, σ, h => (ev a σ h).bind fun x h1 => if recv m x h1 then (evs es σ h1).bind fun ds h2 => mth m x ds h2 else .bad
  | .lc elt p it cond own, σ, h => (evi it σ h).bind fun J h1 =>
      (loopC J (fun d h2 => match bind1 p d (wip σ own) with
        | some σ2 => (evc cond σ2 h2).bind fun t h3 => if t then (ev elt σ2 h3).bind fun v h4 => .ok (some v) h4 else .ok none h3
        | none => .bad) h1.length FUEL 0 (h1 ++ [.lst []])).aft (unlk J)
def evs : Es → Sl → Hd → Res (List DV)
  | .nil, _, h => .ok [] h
  | .cons e es, σ, h => (ev e σ h).bind fun x h1 => (evs es σ h1).bind fun xs h2 => .ok (x :: xs) h2
  | .str e es, σ, h => (ev e σ h).bind fun x h1 => match seqOf h1 x with
    | some xs => (evs es σ h1).bind fun ys h2 => .ok (xs ++ ys) h2
    | none => .bad
def evo : Oe → Sl → Hd → Res (Option Int)
  | .no, _, h => .ok none h
  | .so e, σ, h => (ev e σ h).bind fun x h1 => match x with
    | .int i => .ok (some i) h1
    | _ => .bad
def evc : Oe → Sl → Hd → Res Bool
  | .no, _, h => .ok true h
  | .so e, σ, h => (ev e σ h).bind truR
def evi : Ie → Sl → Hd → Res It
  | .sq e, σ, h => (ev e σ h).bind fun x h1 => match x with
    | .tup ds => .ok (.tup ds) h1
    | .str s => .ok (.str s) h1
    | .ref n => (match h1[n]? with
      | some (.lst _) => .ok (.lst n) h1
      | some (.fro _) => .ok (.lst n) h1
      | some (.dtt ps) => .ok (.dk n) (h1.set n (.lkt ps))
      | some (.lkt _) => .ok (.dkk n) h1
      | _ => .bad)
    | _ => .bad
  | .r1 e, σ, h => (ev e σ h).bind fun x h1 => match x with
    | .int j => if -(2 ^ 62) ≤ j ∧ j < 2 ^ 62 then .ok (.rng 0 j.toNat) h1 else .bad
    | _ => .bad
  | .r2 a b, σ, h => (ev a σ h).bind fun x h1 => (ev b σ h1).bind fun y h2 => match x, y with
    | .int i, .int j => if (-(2 ^ 62) ≤ i ∧ i < 2 ^ 62) ∧ -(2 ^ 62) ≤ j ∧ j < 2 ^ 62 then .ok (.rng i (j - i).toNat) h2 else .bad
    | _, _ => .bad
  | .zp a b, σ, h => (ev a σ h).bind fun x h1 => (ev b σ h1).bind fun y h2 => match x, y with
    | .tup xs, .tup ys => .ok (.zp (.tup xs) (.tup ys)) h2
    | .ref n, .ref m => (match h2[n]?, h2[m]? with
      | some (.lst _), some (.lst _) => .ok (.zp (.lst n) (.lst m)) h2
      | _, _ => .bad)
    | _, _ => .bad
  | .en e, σ, h => (ev e σ h).bind fun x h1 => match x with
    | .tup xs => .ok (.en (.tup xs)) h1
    | .ref n => (match h1[n]? with
      | some (.lst _) => .ok (.en (.lst n)) h1
      | _ => .bad)
    | _ => .bad
end

mutual
def asg : Tg → DV → Sl → Hd → Res Sl
  | .pt p, d, σ, h => match bind1 p d σ with
    | some σ' => .ok σ' h
    | none => .bad
  | .sub o i, d, σ, h => (ev F o σ h).bind fun x h1 => (ev F i σ h1).bind fun y h2 => match store x y d h2 with
    | some h3 => .ok σ h3
    | none => .bad
  | .tp ts, d, σ, h => match d with
    | .tup ds => asgs ts ds σ h
    | _ => .bad
def asgs : Tgs → List DV → Sl → Hd → Res Sl
  | .nil, [], σ, h => .ok σ h
  | .cons t ts, d :: ds, σ, h => (asg t d σ h).bind fun σ' h' => asgs ts ds σ' h'
  | _, _, _, _ => .bad
end

def setAll : List Nat → List DV → Sl → Option Sl
  | [], [], σ => some σ
  | i :: is, d :: ds, σ => setAll is ds (σ.set i (some d))
  | _, _, _ => none

mutual
def evS : S → Sl → Hd → Fl
  | .asg t e, σ, h => (ev F e σ h).fl fun x h1 => (asg F t x σ h1).fl fun σ' h2 => .nx σ' h2
  | .par is es, σ, h => (evs F es σ h).fl fun ds h1 => match setAll is ds σ with
    | some σ' => .nx σ' h1
    | none => .bad
  | .aug i o e, σ, h => match σ[i]? with
    | some (some x) => (ev F e σ h).fl fun y h1 => (iop o x y h1).fl fun z h2 => .nx (σ.set i (some z)) h2
    | _ => .bad
  | .exp e, σ, h => (ev F e σ h).fl fun _ h1 => .nx σ h1
  | .ret e, σ, h => (ev F e σ h).fl fun v h1 => .rt v h1
  | .ift c a b, σ, h => ((ev F c σ h).bind truR).fl fun t h1 => if t then evB a σ h1 else evB b σ h1
  | .fo p it b, σ, h => (evi F it σ h).fl fun J h1 => (loopF J (fun d σ2 h2 => match bind1 p d σ2 with
      | some σ3 => evB b σ3 h2
      | none => .bad) FUEL 0 σ h1).aft (unlk J)
  | .wh c b, σ, h => loopW (fun σ1 h1 => (ev F c σ1 h1).bind truR) (fun σ1 h1 => evB b σ1 h1) FUEL σ h
  | .brk, σ, h => .bk σ h
  | .cnt, σ, h => .ct σ h
  | .pas, σ, h => .nx σ h
def evB : Ss → Sl → Hd → Fl
  | .nil, σ, h => .nx σ h
  | .cons s ss, σ, h => match evS s σ h with
    | .nx σ' h' => evB ss σ' h'
    | r => r
end
end

structure FD where
  np : Nat
  ns : Nat
  body : Ss

def runF (F : Nat → List DV → Hd → Res DV) (fd : FD) (ds : List DV) (h : Hd) : Res DV :=
  if ds.length = fd.np then
    match evB F fd.body (ds.map some ++ List.replicate (fd.ns - fd.np) none) h with
    | .nx _ h' => .ok .non h'
    | .rt v h' => .ok v h'
    | .exc c fs h' => .exc c fs h'
    | _ => .bad
  else .bad

def tab (P : List FD) : Nat → Nat → List DV → Hd → Res DV
  | 0, _, _, _ => .bad
  | d + 1, i, ds, h => match P[i]? with
    | some fd => runF (tab P d) fd ds h
    | none => .bad

section
variable (F : Nat → List DV → Hd → Res DV) (s : Sl) (h : Hd)
@[simp] theorem ev_lit (d : DV) : ev F (.lit d) s h = .ok d h := (rfl)
@[simp] theorem ev_var (i : Nat) : ev F (.var i) s h = (match s[i]? with | some (some d) => .ok d h | _ => .bad) := (rfl)
@[simp] theorem ev_bin (o : Bop) (a b : E) : ev F (.bin o a b) s h = (ev F a s h).bind fun x h1 => (ev F b s h1).bind fun y h2 => bop o x y h2 := (rfl)
@[simp] theorem ev_neg (a : E) : ev F (.neg a) s h = (ev F a s h).bind fun x h1 => match x with | .int i => .ok (.int (-i)) h1 | _ => .bad := (rfl)
@[simp] theorem ev_nt (a : E) : ev F (.nt a) s h = (ev F a s h).bind fun x h1 => (truR x h1).bind fun b h2 => .ok (.bl (!b)) h2 := (rfl)
@[simp] theorem ev_cmp (o : Cop) (a b : E) : ev F (.cmp o a b) s h = (ev F a s h).bind fun x h1 => (ev F b s h1).bind fun y h2 => litB (cop o x y h2) h2 := (rfl)
@[simp] theorem ev_chn (o o' : Cop) (a b c : E) : ev F (.chn o o' a b c) s h = (ev F a s h).bind fun x h1 => (ev F b s h1).bind fun y h2 => match cop o x y h2 with
    | some true => (ev F c s h2).bind fun z h3 => litB (cop o' y z h3) h3
    | some false => .ok (.bl false) h2
    | none => .bad := (rfl)
@[simp] theorem ev_isn (a : E) : ev F (.isn a) s h = (ev F a s h).bind fun x h1 => .ok (.bl (isNon x)) h1 := (rfl)
@[simp] theorem ev_nsn (a : E) : ev F (.nsn a) s h = (ev F a s h).bind fun x h1 => .ok (.bl (!isNon x)) h1 := (rfl)
@[simp] theorem ev_and (a b : E) : ev F (.and a b) s h = (ev F a s h).bind fun x h1 => (truR x h1).bind fun t h2 => if t then ev F b s h2 else .ok x h2 := (rfl)
@[simp] theorem ev_or (a b : E) : ev F (.or a b) s h = (ev F a s h).bind fun x h1 => (truR x h1).bind fun t h2 => if t then .ok x h2 else ev F b s h2 := (rfl)
@[simp] theorem ev_ife (c a b : E) : ev F (.ife c a b) s h = (ev F c s h).bind fun x h1 => (truR x h1).bind fun t h2 => if t then ev F a s h2 else ev F b s h2 := (rfl)
@[simp] theorem ev_tup (es : Es) : ev F (.tup es) s h = (evs F es s h).bind mkTup := (rfl)
@[simp] theorem ev_lst (es : Es) : ev F (.lst es) s h = (evs F es s h).bind mkLst := (rfl)
@[simp] theorem ev_dnw : ev F .dnw s h = alloc (.dct []) h := (rfl)
@[simp] theorem ev_dnt : ev F .dnt s h = alloc (.dtt []) h := (rfl)
@[simp] theorem ev_ds1 (t : Bool) (k v : E) : ev F (.ds1 t k v) s h = (ev F k s (h ++ [if t then .dtt [] else .dct []])).bind fun x h1 => (ev F v s h1).bind fun y h2 => match h2[h.length]? with
    | some (.dtt []) => if t && isKey2 x then .ok (.ref h.length) (h2.set h.length (.dtt [(x, y)])) else .bad
    | _ => .bad := (rfl)
@[simp] theorem ev_idx (a b : E) : ev F (.idx a b) s h = (ev F a s h).bind fun x h1 => (ev F b s h1).bind fun y h2 => ofO (index x y h2) h2 := (rfl)
@[simp] theorem ev_slc (a : E) (lo hi : Oe) : ev F (.slc a lo hi) s h = (ev F a s h).bind fun x h1 => (evo F lo s h1).bind fun l h2 => (evo F hi s h2).bind fun u h3 => slice x l u h3 := (rfl)
@[simp] theorem ev_stp (a : E) (k : Nat) : ev F (.stp a k) s h = (ev F a s h).bind fun x h1 => match x with
    | .ref n => (match h1[n]? with
      | some (.lst ds) => alloc (.lst (evens (ds.drop k))) h1
      | _ => .bad)
    | _ => .bad := (rfl)
@[simp] theorem ev_rev (a : E) : ev F (.rev a) s h = (ev F a s h).bind fun x h1 => match x with
    | .tup ds => .ok (.tup ds.reverse) h1
    | .ref n => (match h1[n]? with
      | some (.lst ds) => alloc (.lst ds.reverse) h1
      | _ => .bad)
    | _ => .bad := (rfl)
@[simp] theorem ev_cal (i : Nat) (es : Es) : ev F (.cal i es) s h = (evs F es s h).bind fun ds h1 => F i ds h1 := (rfl)
@[simp] theorem ev_cav (i : Nat) (es : Es) : ev F (.cav i es) s h = (match s[i]? with
    | some (some (.fn j)) => (evs F es s h).bind fun ds h1 => F j ds h1
    | _ => .bad) := (rfl)
@[simp] theorem ev_blt (b : Blt) (es : Es) : ev F (.blt b es) s h = (evs F es s h).bind fun ds h1 => blt b ds h1 := (rfl)
@[simp] theorem ev_isi (a : E) (t : Tyn) : ev F (.isi a t) s h = (ev F a s h).bind fun x h1 => litB (isTyH h1 t x) h1 := (rfl)
@[simp] theorem ev_mth (m : Mth) (a : E) (es : Es) : ev F (.mth m a es) s h = (ev F a s h).bind fun x h1 => if recv m x h1 then (evs F es s h1).bind fun ds h2 => mth m x ds h2 else .bad := (rfl)
@[simp] theorem ev_lc (elt : E) (p : Pt) (it : Ie) (cond : Oe) (own : List Nat) : ev F (.lc elt p it cond own) s h = (evi F it s h).bind fun J h1 =>
      (loopC J (fun d h2 => match bind1 p d (wip s own) with
        | some s2 => (evc F cond s2 h2).bind fun t h3 => if t then (ev F elt s2 h3).bind fun v h4 => .ok (some v) h4 else .ok none h3
        | none => .bad) h1.length FUEL 0 (h1 ++ [.lst []])).aft (unlk J) := (rfl)
@[simp] theorem evs_nil : evs F .nil s h = .ok [] h := (rfl)
@[simp] theorem evs_cons (e : E) (es : Es) : evs F (.cons e es) s h = (ev F e s h).bind fun x h1 => (evs F es s h1).bind fun xs h2 => .ok (x :: xs) h2 := (rfl)
@[simp] theorem evs_str (e : E) (es : Es) : evs F (.str e es) s h = (ev F e s h).bind fun x h1 => match seqOf h1 x with
    | some xs => (evs F es s h1).bind fun ys h2 => .ok (xs ++ ys) h2
    | none => .bad := (rfl)
@[simp] theorem evo_no : evo F .no s h = .ok none h := (rfl)
@[simp] theorem evo_so (e : E) : evo F (.so e) s h = (ev F e s h).bind fun x h1 => match x with | .int i => .ok (some i) h1 | _ => .bad := (rfl)
@[simp] theorem evc_no : evc F .no s h = .ok true h := (rfl)
@[simp] theorem evc_so (e : E) : evc F (.so e) s h = (ev F e s h).bind truR := (rfl)
@[simp] theorem evi_sq (e : E) : evi F (.sq e) s h = (ev F e s h).bind fun x h1 => match x with
    | .tup ds => .ok (.tup ds) h1
    | .str t => .ok (.str t) h1
    | .ref n => (match h1[n]? with
      | some (.lst _) => .ok (.lst n) h1
      | some (.fro _) => .ok (.lst n) h1
      | some (.dtt ps) => .ok (.dk n) (h1.set n (.lkt ps))
      | some (.lkt _) => .ok (.dkk n) h1
      | _ => .bad)
    | _ => .bad := (rfl)
@[simp] theorem evi_r1 (e : E) : evi F (.r1 e) s h = (ev F e s h).bind fun x h1 => match x with
    | .int j => if -(2 ^ 62) ≤ j ∧ j < 2 ^ 62 then .ok (.rng 0 j.toNat) h1 else .bad
    | _ => .bad := (rfl)
@[simp] theorem evi_r2 (a b : E) : evi F (.r2 a b) s h = (ev F a s h).bind fun x h1 => (ev F b s h1).bind fun y h2 => match x, y with
    | .int i, .int j => if (-(2 ^ 62) ≤ i ∧ i < 2 ^ 62) ∧ -(2 ^ 62) ≤ j ∧ j < 2 ^ 62 then .ok (.rng i (j - i).toNat) h2 else .bad
    | _, _ => .bad := (rfl)
@[simp] theorem evi_zp (a b : E) : evi F (.zp a b) s h = (ev F a s h).bind fun x h1 => (ev F b s h1).bind fun y h2 => match x, y with
    | .tup xs, .tup ys => .ok (.zp (.tup xs) (.tup ys)) h2
    | .ref n, .ref m => (match h2[n]?, h2[m]? with
      | some (.lst _), some (.lst _) => .ok (.zp (.lst n) (.lst m)) h2
      | _, _ => .bad)
    | _, _ => .bad := (rfl)
@[simp] theorem evi_en (e : E) : evi F (.en e) s h = (ev F e s h).bind fun x h1 => match x with
    | .tup xs => .ok (.en (.tup xs)) h1
    | .ref n => (match h1[n]? with
      | some (.lst _) => .ok (.en (.lst n)) h1
      | _ => .bad)
    | _ => .bad := (rfl)
@[simp] theorem evS_asg (t : Tg) (e : E) : evS F (.asg t e) s h = (ev F e s h).fl fun x h1 => (asg F t x s h1).fl fun s' h2 => .nx s' h2 := (rfl)
@[simp] theorem evS_par (is : List Nat) (es : Es) : evS F (.par is es) s h = (evs F es s h).fl fun ds h1 => match setAll is ds s with
    | some s' => .nx s' h1
    | none => .bad := (rfl)
@[simp] theorem evS_aug (i : Nat) (o : Bop) (e : E) : evS F (.aug i o e) s h = (match s[i]? with
    | some (some x) => (ev F e s h).fl fun y h1 => (iop o x y h1).fl fun z h2 => .nx (s.set i (some z)) h2
    | _ => .bad) := (rfl)
@[simp] theorem evS_exp (e : E) : evS F (.exp e) s h = (ev F e s h).fl fun _ h1 => .nx s h1 := (rfl)
@[simp] theorem evS_ret (e : E) : evS F (.ret e) s h = (ev F e s h).fl fun v h1 => .rt v h1 := (rfl)
@[simp] theorem evS_ift (c : E) (a b : Ss) : evS F (.ift c a b) s h = ((ev F c s h).bind truR).fl fun t h1 => if t then evB F a s h1 else evB F b s h1 := (rfl)
@[simp] theorem evS_fo (p : Pt) (it : Ie) (b : Ss) : evS F (.fo p it b) s h = (evi F it s h).fl fun J h1 => (loopF J (fun d s2 h2 => match bind1 p d s2 with
      | some s3 => evB F b s3 h2
      | none => .bad) FUEL 0 s h1).aft (unlk J) := (rfl)
theorem evS_wh (c : E) (b : Ss) : evS F (.wh c b) s h = loopW (fun s1 h1 => (ev F c s1 h1).bind truR) (fun s1 h1 => evB F b s1 h1) FUEL s h := (rfl)
theorem evB_nil : evB F .nil s h = .nx s h := (rfl)
theorem evB_cons (a : S) (r : Ss) : evB F (.cons a r) s h = (match evS F a s h with | .nx s' h' => evB F r s' h' | r => r) := (rfl)
end
theorem truR_ok {x : DV} {h h' : Hd} {b : Bool} (e : truR x h = .ok b h') : h' = h ∧ tru h x = some b := by
  unfold truR at e
  split at e
  · rename_i q; cases e; exact ⟨rfl, q⟩
  · cases e
end Lil
/-! Tr: a def's body, out of the row's own tree, as one of Lil's. Own work. -/
set_option linter.all false
set_option Elab.async false
namespace Lil
open PySem (Expr Stmt Str Scope NameKind)

structure Tp where
  fns : List Str
  cons : List (Str × DV)
  /-- the lines where new dicts have tuples as keys -/
  dtl : List Nat := []
structure Cc where
  N : List Str
  sc : Scope
  tp : Tp
  st : Option (List Str) := none

def noDbg (x : Str) : Bool := !(x == ("__debug__" : Str)) && !(x == ("__classdict__" : Str))
def Cc.slot (c : Cc) (x : Str) : Option Nat :=
  match c.sc.names.lookup x with
  | some .local => if c.N[c.N.idxOf x]? = some x ∧ noDbg x = true then some (c.N.idxOf x) else none
  | some .cell => if c.N[c.N.idxOf x]? = some x ∧ noDbg x = true then some (c.N.idxOf x) else none
  | some .free => if c.N[c.N.idxOf x]? = some x ∧ noDbg x = true then some (c.N.idxOf x) else none
  | _ => none
/-- a slot that may be stored to -/
def Cc.may (c : Cc) (x : Str) : Bool :=
  match c.st with
  | none => true
  | some l => l.contains x
def Cc.put (c : Cc) (x : Str) : Option Nat :=
  match c.sc.names.lookup x with
  | some .local => if c.N[c.N.idxOf x]? = some x ∧ c.may x = true then some (c.N.idxOf x) else none
  | some .cell => if c.N[c.N.idxOf x]? = some x ∧ c.may x = true then some (c.N.idxOf x) else none
  | _ => none
def Cc.glob (c : Cc) (x : Str) : Bool := (c.sc.names.lookup x == some .globalImplicit) && noDbg x
def Cc.fn (c : Cc) (x : Str) : Option Nat := if c.tp.fns[c.tp.fns.idxOf x]? = some x then some (c.tp.fns.idxOf x) else none
/-- a built-in's name -/
def Cc.blt (c : Cc) (x : Str) (b : String) : Bool := (x == Str.ofString b) && c.glob x

def isStar : Expr → Bool
  | .Starred .. => true
  | _ => false
def isSet : Expr → Bool
  | .Set .. => true
  | _ => false
def isSlice : Expr → Bool
  | .Slice .. => true
  | _ => false
def isComp : Expr → Bool
  | .ListComp .. => true | .SetComp .. => true | .DictComp .. => true
  | _ => false
def isIfE : Expr → Bool
  | .IfExp .. => true
  | _ => false
def isTup : Expr → Bool
  | .Tuple .. => true
  | _ => false

/-- no call of super() -/
def baseOk : Expr → Bool
  | .Call _ _ _ _ => false
  | _ => true
def purOf {α : Type} : PySem.Sem α → Option α
  | .pure a => some a
  | _ => none
def envP (sc : Scope) : PySem.Env := { scope := sc, locals := 0, globals := 0, cells := [] }

def bopOf : PySem.Operator → Option Bop
  | .Add => some .add | .Sub => some .sub | .Mult => some .mul | .FloorDiv => some .fdiv | .Mod => some .mod | .Pow => some .pow
  | _ => none
def copOf : PySem.CmpOp → Option Cop
  | .Eq => some .eq | .NotEq => some .ne | .Lt => some .lt | .LtE => some .le | .Gt => some .gt | .GtE => some .ge | .In => some .inn | .NotIn => some .nin
  | _ => none

def sameN (names : List (Str × NameKind)) : Bool := names.all fun y => decide (names.lookup y.1 = some y.2)
def ownOf (N : List Str) (scope : Scope) : List (Str × Nat) :=
  scope.names.filterMap fun y => if (y.2 == .local || y.2 == .cell) && decide (N[N.idxOf y.1]? = some y.1) then some (y.1, N.idxOf y.1) else none
/-- the block's names are well -/
def blkB (N : List Str) (sc scope : Scope) : Bool :=
  decide (scope.kind = .function) && sameN scope.names &&
  scope.names.all fun y => if y.2 = .free then decide (sc.names.lookup y.1 = some .cell ∨ sc.names.lookup y.1 = some .free) else true

mutual
def trP : Nat → Cc → Expr → Option Pt
  | 0, _, _ => none
  | n + 1, c, .Name x _ => (c.put x).map .nm
  | n + 1, c, .Tuple es _ _ => (trPs n c es).map .tp
  | _, _, _ => none
def trPs : Nat → Cc → List Expr → Option Pts
  | 0, _, _ => none
  | n + 1, _, [] => some .nil
  | n + 1, c, e :: es => match trP n c e, trPs n c es with
    | some p, some ps => if isStar e then none else some (.cons p ps)
    | _, _ => none
end
mutual
/-- the slots that a pattern stores to -/
def Pt.sl : Pt → List Nat
  | .nm i => [i]
  | .tp ps => ps.sl
def Pts.sl : Pts → List Nat
  | .nil => []
  | .cons p ps => p.sl ++ ps.sl
end

def tynOf (c : Cc) (x : Str) : Option Tyn :=
  if c.blt x "int" then some .int else if c.blt x "bool" then some .bool else if c.blt x "str" then some .str else if c.blt x "tuple" then some .tuple else none
def blt1a (c : Cc) (x : Str) : Option Blt :=
  if c.blt x "len" then some .len else if c.blt x "list" then some .list else if c.blt x "tuple" then some .tuple else if c.blt x "any" then some .any
  else if c.blt x "all" then some .all else if c.blt x "min" then some .min else if c.blt x "max" then some .max else if c.blt x "sum" then some .sum
  else if c.blt x "abs" then some .abs else if c.blt x "int" then some .int else if c.blt x "sorted" then some .sorted else none
def blt1b (c : Cc) (x : Str) (l : Nat) : Option Blt :=
  if c.blt x "dict" then (if c.tp.dtl.contains l then some .dictt else none) else none
def blt1 (c : Cc) (x : Str) (l : Nat) : Option Blt :=
  match blt1a c x with
  | some b => some b
  | none => blt1b c x l
def mthOf (m : Str) : Option Mth :=
  if m = ("append" : Str) then some .append else if m = ("extend" : Str) then some .extend else if m = ("pop" : Str) then some .pop else if m = ("update" : Str) then some .update else none

mutual
def trE : Nat → Cc → Expr → Option E
  | 0, _, _ => none
  | n + 1, c, e => match e with
    | .Constant k _ _ => match k with
      | .none => some (.lit .non)
      | .bool b => some (.lit (.bl b))
      | .int i => some (.lit (.int i))
      | .str s => some (.lit (.str s.cps.toList))
      | _ => none
    | .Name x _ => match c.slot x with
      | some i => some (.var i)
      | none => if c.glob x then (match c.tp.cons.lookup x with
        | some d => some (.lit d)
        | none => (c.fn x).map fun i => .lit (.fn i)) else none
    | .BinOp a o b _ => match bopOf o, trE n c a, trE n c b with
      | some o', some a', some b' => some (.bin o' a' b')
      | _, _, _ => none
    | .UnaryOp o a _ => match o with
      | .USub => (trE n c a).map .neg
      | .Not => (trE n c a).map .nt
      | _ => none
    | .BoolOp o vs _ => match o with
      | .And => trA n c vs
      | .Or => trO n c vs
    | .IfExp t a b _ => match trT n c t, trE n c a, trE n c b with
      | some t', some a', some b' => some (.ife t' a' b')
      | _, _, _ => none
    | .Compare a ops bs _ => match ops, bs with
      | [.Is], [.Constant .none _ _] => (trE n c a).map .isn
      | [.IsNot], [.Constant .none _ _] => (trE n c a).map .nsn
      | [o], [b] => match copOf o, trE n c a, trE n c b with
        | some o', some a', some b' => if PySem.behindInMarks o b then none else some (.cmp o' a' b')
        | _, _, _ => none
      | [o, o2], [b, d] => match copOf o, copOf o2, trE n c a, trE n c b, trE n c d with
        | some o', some o2', some a', some b', some d' => if PySem.lastMarks [o, o2] [b, d] then none else some (.chn o' o2' a' b' d')
        | _, _, _, _, _ => none
      | _, _ => none
    | .Tuple es _ _ => (trEs n c es).map .tup
    | .List es _ => (trEs n c es).map .lst
    | .Dict ks vs pos => match ks, vs with
      | [], [] => if c.tp.dtl.contains pos.line then some .dnt else some .dnw
      | [some k], [v] => match trE n c k, trE n c v with
        | some k', some v' => if c.tp.dtl.contains pos.line then some (.ds1 true k' v') else none
        | _, _ => none
      | _, _ => none
    | .Subscript a i _ => match i with
      | .Slice lo hi none _ => match trE n c a, trOe n c lo, trOe n c hi with
        | some a', some lo', some hi' => some (.slc a' lo' hi')
        | _, _, _ => none
      | .Slice none none (some (.UnaryOp .USub (.Constant (.int 1) _ _) _)) _ => (trE n c a).map .rev
      | .Slice none none (some (.Constant (.int 2) _ _)) _ => (trE n c a).map fun a' => .stp a' 0
      | .Slice (some (.Constant (.int 1) _ _)) none (some (.Constant (.int 2) _ _)) _ => (trE n c a).map fun a' => .stp a' 1
      | i => if isSlice i then none else match trE n c a, trE n c i with
        | some a', some i' => some (.idx a' i')
        | _, _ => none
    | .Call f args kws cpos => match kws with
      | [] => if args.any isStar then none else match f with
        | .Name x _ => match c.slot x with
          | some i => match args with
            | [] => none
            | _ => (trEs n c args).map fun es => .cav i es
          | none => if c.glob x then (match c.fn x with
            | some i => (trEs n c args).map fun es => .cal i es
            | none => match args with
              | [a] => (match blt1 c x cpos.line, trE n c a with
                | some b, some a' => some (.blt b (.cons a' .nil))
                | _, _ => none)
              | [a, .Name t _] => if c.blt x "isinstance" then (match trE n c a, tynOf c t with
                | some a', some t' => some (.isi a' t')
                | _, _ => none) else none
              | _ => none) else none
        | .Attribute o m apos => match mthOf m, trE n c o with
          | some m', some o' => if baseOk o && apos.endLine == cpos.line then (match args with
            | [] => some (.mth m' o' .nil)
            | [a] => (trE n c a).map fun a' => .mth m' o' (.cons a' .nil)
            | _ => none) else none
          | _, _ => none
        | _ => none
      | _ => none
    | .ListComp elt gs scope _ => match gs with
      | [⟨tg, iter, ifs, 0⟩] =>
        let c' : Cc := { c with sc := L2.relS scope c.sc, st := some ((ownOf c.N scope).map (·.1)) }
        if blkB c.N c.sc scope then
          match trI n c tg iter, trP n c' tg, trE n c' elt, trIf n c' ifs with
          | some it, some p, some e', some cond => if p.sl.all (fun i => (ownOf c.N scope).any fun q => q.2 == i) then some (.lc e' p it cond ((ownOf c.N scope).map (·.2))) else none
          | _, _, _, _ => none
        else none
      | _ => none
    | _ => none
/-- as a test -/
def trT : Nat → Cc → Expr → Option E
  | 0, _, _ => none
  | n + 1, c, e => match e with
    | .UnaryOp .Not a _ => (trT n c a).map .nt
    | .BoolOp o vs _ => match o with
      | .And => trTA n c vs
      | .Or => trTO n c vs
    | .IfExp .. => none
    | e => trE n c e
def trEs : Nat → Cc → List Expr → Option Es
  | 0, _, _ => none
  | n + 1, _, [] => some .nil
  | n + 1, c, e :: es => match e with
    | .Starred e _ => match trE n c e, trEs n c es with
      | some a, some as => some (.str a as)
      | _, _ => none
    | e => match trE n c e, trEs n c es with
      | some a, some as => if isStar e then none else some (.cons a as)
      | _, _ => none
def trA : Nat → Cc → List Expr → Option E
  | 0, _, _ => none
  | n + 1, _, [] => none
  | n + 1, c, [e] => trE n c e
  | n + 1, c, e :: es => match trE n c e, trA n c es with
    | some a, some b => some (.and a b)
    | _, _ => none
def trO : Nat → Cc → List Expr → Option E
  | 0, _, _ => none
  | n + 1, _, [] => none
  | n + 1, c, [e] => trE n c e
  | n + 1, c, e :: es => match trE n c e, trO n c es with
    | some a, some b => some (.or a b)
    | _, _ => none
def trTA : Nat → Cc → List Expr → Option E
  | 0, _, _ => none
  | n + 1, _, [] => none
  | n + 1, c, [e] => trT n c e
  | n + 1, c, e :: es => match trT n c e, trTA n c es with
    | some a, some b => some (.and a b)
    | _, _ => none
def trTO : Nat → Cc → List Expr → Option E
  | 0, _, _ => none
  | n + 1, _, [] => none
  | n + 1, c, [e] => trT n c e
  | n + 1, c, e :: es => match trT n c e, trTO n c es with
    | some a, some b => some (.or a b)
    | _, _ => none
def trOe : Nat → Cc → Option Expr → Option Oe
  | 0, _, _ => none
  | n + 1, _, none => some .no
  | n + 1, c, some e => (trE n c e).map .so
def trIf : Nat → Cc → List Expr → Option Oe
  | 0, _, _ => none
  | n + 1, _, [] => some .no
  | n + 1, c, [e] => (trT n c e).map .so
  | _, _, _ => none
def trI : Nat → Cc → Expr → Expr → Option Ie
  | 0, _, _, _ => none
  | n + 1, c, tg, e => match e with
    | .Call f args kws _ => match f, kws with
      | .Name x _, [] =>
        if args.any isStar then none else if c.blt x "range" then (match args with
          | [a] => (trE n c a).map .r1
          | [a, b] => match trE n c a, trE n c b with
            | some a', some b' => some (.r2 a' b')
            | _, _ => none
          | _ => none)
        else if c.blt x "zip" then (match args with
          | [a, b] => match trE n c a, trE n c b with
            | some a', some b' => if !isTup tg then none else some (.zp a' b')
            | _, _ => none
          | _ => none)
        else if c.blt x "enumerate" then (match args with
          | [a] => if !isTup tg then none else (trE n c a).map .en
          | _ => none)
        else (trE n c e).map .sq
      | _, _ => (trE n c e).map .sq
    | e => if isSet e then none else (trE n c e).map .sq
end

mutual
def trTg : Nat → Cc → Expr → Option Tg
  | 0, _, _ => none
  | n + 1, c, e => match e with
    | .Name x _ => (c.put x).map fun i => .pt (.nm i)
    | .Tuple es _ _ => (trTgs n c es).map .tp
    | .Subscript o i _ => if isSlice i then none else match trE n c o, trE n c i with
      | some o', some i' => some (.sub o' i')
      | _, _ => none
    | _ => none
def trTgs : Nat → Cc → List Expr → Option Tgs
  | 0, _, _ => none
  | n + 1, _, [] => some .nil
  | n + 1, c, e :: es => match trTg n c e, trTgs n c es with
    | some t, some ts => if isStar e then none else some (.cons t ts)
    | _, _ => none
end

/-- the slots of names that are local -/
def locs (c : Cc) : List Expr → Option (List Nat)
  | [] => some []
  | .Name x _ :: es => if c.sc.names.lookup x = some .local then (match c.put x, locs c es with
    | some i, some is => some (i :: is)
    | _, _ => none) else none
  | _ => none
def names : List Expr → List Str
  | .Name x _ :: es => x :: names es
  | _ => []
def nodupN : List Nat → Bool
  | [] => true
  | i :: is => !is.contains i && nodupN is

mutual
def trS : Nat → Cc → Stmt → Option S
  | 0, _, _ => none
  | n + 1, c, s => match s with
    | .Assign tgs e pos => match tgs with
      | [tg] => match purOf (PySem.swappedStores [tg] e (envP c.sc)) with
        | some none => match purOf (PySem.swapsWith e (some tg) pos.line (envP c.sc)), trTg n c tg, trE n c e with
          | some b, some t, some e' => some (.asg t e')
          | _, _, _ => none
        | some (some xs) => match tg, e with
          | .Tuple ts _ _, .Tuple vs _ _ => match locs c ts, trEs n c vs with
            | some is, some es => if xs = names ts ∧ nodupN is = true ∧ ts.length = vs.length ∧ (is.length = 2 ∨ is.length = 3) then some (.par is es) else none
            | _, _ => none
          | _, _ => none
        | none => none
      | _ => none
    | .AugAssign tg o e _ => match tg with
      | .Name x _ => match c.put x, bopOf o, trE n c e with
        | some i, some o', some e' => if o' = .pow ∨ o' = .fdiv then none else some (.aug i o' e')
        | _, _, _ => none
      | _ => none
    | .Expr e _ => if isComp e then none else (trE n c e).map .exp
    | .Return v _ => match v with
      | some e => (trE n c e).map .ret
      | none => some (.ret (.lit .non))
    | .If t a b _ => match trT n c t, trB n c a, trB n c b with
      | some t', some a', some b' => some (.ift t' a' b')
      | _, _, _ => none
    | .For tg iter body els _ => match els with
      | [] => match trP n c tg, trI n c tg iter, trB n c body with
        | some p, some it, some b => some (.fo p it b)
        | _, _, _ => none
      | _ => none
    | .While t body els _ => match els with
      | [] => match trT n c t, trB n c body with
        | some t', some b => some (.wh t' b)
        | _, _ => none
      | _ => none
    | .Break _ => some .brk
    | .Continue _ => some .cnt
    | .Pass _ => some .pas
    | _ => none
def trB : Nat → Cc → List Stmt → Option Ss
  | 0, _, _ => none
  | n + 1, _, [] => some .nil
  | n + 1, c, s :: ss => match trS n c s, trB n c ss with
    | some a, some b => some (.cons a b)
    | _, _ => none
end
end Lil
/-! RevT: t[::-1] of a tuple. Own work. -/
set_option linter.all false
set_option Elab.async false
set_option maxRecDepth 100000
set_option maxHeartbeats 4000000
namespace Lil
open PySem PySem.Spec PyProof.Rows L2 HT
section
variable {prog : Program} {w : World} {A : Around} {E : Value → Shared → Prop} {s : Shared}
theorem adjust_rev (n : Nat) : Builtin.Slice.sliceAdjust none none (-1) (n : Int) = ((n : Int) - 1, -1) := by
  unfold Builtin.Slice.sliceAdjust
  rfl
theorem places_rev (n : Nat) : Builtin.Slice.slicePlaces ((n : Int) - 1) (-1) (-1) = n := by
  unfold Builtin.Slice.slicePlaces
  have h1 : ¬ ((-1 : Int) > 0) := by omega
  have e : ((n : Int) - 1 - -1 - 1) / (- -1) = (n : Int) - 1 := by
    rw [show (- -1 : Int) = 1 by decide, Int.ediv_one]
    omega
  simp only [h1, if_false, e]
  split <;> omega
theorem fm_congr {α β : Type} {f g : α → Option β} : ∀ {l : List α}, (∀ a ∈ l, f a = g a) → l.filterMap f = l.filterMap g
  | [], _ => rfl
  | a :: l, h => by
    rw [List.filterMap_cons, List.filterMap_cons, h a (.head _), fm_congr fun b hb => h b (.tail _ hb)]
theorem pick_rev (xs : Array Value) : ((List.range xs.size).filterMap fun (m : Nat) => xs[((xs.size : Int) - 1 + (m : Int) * -1).toNat]?).toArray = xs.toList.reverse.toArray := by
  congr 1
  rw [← PySem.W.krv_all xs, ← List.filterMap_reverse, ← PySem.W.krv_range, List.filterMap_map]
  refine fm_congr fun m hm => ?_
  have := List.mem_range.mp hm
  show _ = xs[xs.size - 1 - m]?
  rw [show ((xs.size : Int) - 1 + (m : Int) * -1).toNat = xs.size - 1 - m by omega]
theorem sliceApplied_rev {sl : Addr} {v : Value} {n : Nat} {Q : Int × Int × Nat → Shared → Prop} (hs : s.heap.IsSliceOf sl .none .none v) (pv : IsPart v (some (-1)))
    (h : Q ((n : Int) - 1, -1, n) s) : wpAny (model prog w) A (Builtin.Slice.sliceApplied (.ref sl) (pure (n : Int))) Q E s := by
  obtain ⟨os, hos, hcs, hds⟩ := id hs
  unfold Builtin.Slice.sliceApplied Builtin.Slice.sliceFields
  refine wpAny_bind (wpAny_bind (wpAny_field hos hds (x := .none) rfl (wpAny_bind (wpAny_field hos hds (x := .none) rfl (wpAny_bind (wpAny_field hos hds (x := v) rfl (wpAny_pure ?_)))))))
  refine wpAny_bind (slicePart_ pv ?_)
  show wpAny _ _ (if ((-1 : Int) == 0) = true then _ else _) _ _ s
  rw [if_neg (by decide)]
  refine wpAny_bind (slicePart_ .none (wpAny_bind (slicePart_ .none (wpAny_bind (wpAny_pure ?_)))))
  show wpAny _ _ (match Builtin.Slice.sliceAdjust none none (-1) (n : Int) with | (lo, hi) => pure (lo, (-1 : Int), Builtin.Slice.slicePlaces lo hi (-1))) _ _ s
  rw [adjust_rev n]
  show wpAny _ _ (pure ((n : Int) - 1, (-1 : Int), Builtin.Slice.slicePlaces ((n : Int) - 1) (-1) (-1))) _ _ s
  rw [places_rev]
  exact wpAny_pure h
theorem getItem_tuple_rev {t sl : Addr} {items : Array Value} {v : Value} {Q : Value → Shared → Prop} (ht : IsTup s.heap t items) (hs : s.heap.IsSliceOf sl .none .none v) (pv : IsPart v (some (-1)))
    (h : Q (.ref s.heap.objs.size) { s with heap := s.heap.push { cls := .type "tuple", data := .seq items.toList.reverse.toArray } })
    (hsz : items.size ≤ sizeLine) : wpAny (model prog w) A (getItem (.ref t) (.ref sl)) Q E s := by
  have htake : sizeOk (.seq items.toList.reverse.toArray) := by
    show items.toList.reverse.toArray.size ≤ sizeLine
    simpa using hsz
  obtain ⟨os, hos, hcs, hds⟩ := id hs
  have hTs : s.TypeIs (.ref sl) "slice" := ⟨os, hos, hcs⟩
  unfold getItem
  try with_reducible refine wpAny_holding ?_
  first | refine wpAny_bind (wpAny_pure ?_) | skip
  refine wpAny_bind (wpAny_sequenceKey ht.typeIs (by decide) ?_)
  refine wpAny_bind (wpAny_callSpecial?_slot (name := Str.ofString "__getitem__") ht.typeIs PyProof.Rows.slot_tuple_getitem
    (wpAny_call_entry PyProof.Rows.slot_tuple_getitem ht.typeIs entry_tuple_getitem ?_ (args_tuple_getitem _ _)))
  show wpAny _ _ (Builtin.Tuple.tupleItemsOf (.ref t) >>= _) _ _ s
  refine wpAny_bind (tupleItemsOf_ ht ?_)
  refine wpAny_bind (wpAny_typeOf hTs ?_)
  rw [if_pos (by decide)]
  refine wpAny_bind (sliceApplied_rev hs pv ?_)
  have hno : ¬ ((((items.size : Int) - 1) == 0 && (-1 : Int) == 1 && items.size == items.size) = true) := by
    intro q
    rw [Bool.and_eq_true, Bool.and_eq_true] at q
    exact absurd q.1.2 (by decide)
  show wpAny _ _ (if (((items.size : Int) - 1) == 0 && (-1 : Int) == 1 && items.size == items.size) = true then _ else _) _ _ s
  rw [if_neg hno, pick_rev]
  first
    | exact wpAny_bind (m := Builtin.Tuple.tupleExact _) (wpAny_newObj_type (wpAny_pure ⟨_, rfl, wpAny_pure h⟩) htake)
    | exact wpAny_bind (m := Builtin.Tuple.tupleExact _) (wpAny_newObj_type (wpAny_bind (wpAny_pure (wpAny_pure ⟨_, rfl, wpAny_pure h⟩))) htake)
    | exact wpAny_bind (wpAny_bind (m := Builtin.Tuple.tupleExact _) (wpAny_newObj_type (wpAny_pure (wpAny_pure ⟨_, rfl, wpAny_pure h⟩)) htake))
    | exact wpAny_bind (wpAny_bind (m := Builtin.Tuple.tupleExact _) (wpAny_newObj_type (wpAny_pure ⟨_, rfl, wpAny_pure h⟩) htake))
end
section
variable {X : Cx}
def tRevA (K : PySem.W.Frag) (te : TE) : TE := fun σ H Q => te σ H fun x H1 => (∃ a xs, x = .ref a ∧ SqL K H1 a xs ∧ ∀ p, H1 p = none → Q (.ref p) (upd H1 p (.lst xs.reverse))) ∨
  (∃ a xs, x = .ref a ∧ SqT K H1 a xs ∧ ∀ p, H1 p = none → Q (.ref p) (upd H1 p (.tup xs.reverse)))
theorem pe_revA {e : Expr} {te : TE} {k : Nat} {p1 p2 p3 pos : Pos} (he : PE X e te) : PE X (.Subscript e (.Slice none none (some (.UnaryOp .USub (.Constant (.int 1) k p1) p2)) p3) pos) (tRevA X.K te) := by
  refine ⟨fun pins s σ H Q I h => ?_⟩
  refine Subscript_ (thn (he.run pins s σ H _ I h) fun v s1 ⟨x, H1, I1, r1, q1⟩ => ?_)
  have hst : PO X (some (.UnaryOp .USub (.Constant (.int 1) k p1) p2)) (tPart (tUn (rU fun i => .int (-i)) (tC (.int 1)))) := po_some (pe_un un_neg pe_int)
  refine wpAny_Slice (thn (po_none.run pins s1 σ H1 (fun o H2 => o = none ∧ H2 = H1) I1 ⟨rfl, rfl⟩) fun vl s2 ⟨l, H2, I2, pl, el, e2⟩ => ?_)
  subst el e2
  refine thn (po_none.run pins s2 σ H2 (fun o H3 => o = none ∧ H3 = H2) I2 ⟨rfl, rfl⟩) fun vu s3 ⟨u, H3, I3, pu, eu, e3⟩ => ?_
  subst eu e3
  refine thn (hst.run pins s3 σ H3 (fun o H4 => o = some (-1) ∧ H4 = H3) I3 ⟨1, rfl, -1, rfl, rfl, rfl⟩) fun vs s4 ⟨o, H4, I4, ps, eo, e4⟩ => ?_
  subst eo e4
  have I5 : Inv X pins σ H4 { s4 with heap := s4.heap.push { cls := .type "slice", data := .fields #[vl, vu, vs] } } := I4.kept (t' := s4.toks) fun b ob q => Heap.get?_push_of_some _ q
  rcases q1 with ⟨a, xs, ex, hx, q⟩ | ⟨a, xs, ex, hx, q⟩
  · subst ex
    cases r1
    obtain ⟨its, r, ht, hz⟩ := I5.list hx
    have hlen := r.length
    show wpAny (model X.prog X.w) X.A (subscriptTail e (.Slice none none (some (.UnaryOp .USub (.Constant (.int 1) k p1) p2)) p3) (.ref a) (.ref s4.heap.objs.size)) (EP X pins σ Q) X.xe { s4 with heap := s4.heap.push { cls := .type "slice", data := .fields #[vl, vu, vs] } }
    refine tail_any (ops := [.ref a, .ref s4.heap.objs.size]) ht.isList.typeIs (PySem.slot_list_getitem.lookup) ?_ (by with_unfolding_all rfl)
    refine wpAny_getItem_list_slice ht.isList (Heap.IsSliceOf.new _ vl vu vs) pl pu ps (by decide) ?_ (by rw [List.size_toArray]; omega)
    rw [PySem.W.krv_pick]
    refine ⟨.ref _, _, I5.laid (t' := s4.toks) (o := .lst xs.reverse) (fun b ob q => Heap.get?_push_of_some _ q) (Nat.le_refl _) ?_, rfl, q _ (I5.hok.fresh (Nat.le_refl _))⟩
    exact ⟨by rw [List.length_reverse]; exact hz, _, 0, r.reverse, Heap.get?_push_size _ rfl⟩
  · subst ex
    cases r1
    obtain ⟨its, r, ht, hz⟩ := I5.tuple hx
    have hlen := r.length
    cases pl
    cases pu
    show wpAny (model X.prog X.w) X.A (subscriptTail e (.Slice none none (some (.UnaryOp .USub (.Constant (.int 1) k p1) p2)) p3) (.ref a) (.ref s4.heap.objs.size)) (EP X pins σ Q) X.xe { s4 with heap := s4.heap.push { cls := .type "slice", data := .fields #[.none, .none, vs] } }
    refine tail_any (ops := [.ref a, .ref s4.heap.objs.size]) ht.typeIs (PyProof.Rows.slot_tuple_getitem.lookup) ?_ (by with_unfolding_all rfl)
    refine getItem_tuple_rev ht (Heap.IsSliceOf.new _ .none .none vs) ps ?_ (by rw [List.size_toArray]; omega)
    refine ⟨.ref _, _, I5.laid (t' := s4.toks) (o := .tup xs.reverse) (fun b ob q => Heap.get?_push_of_some _ q) (Nat.le_refl _) ?_, rfl, q _ (I5.hok.fresh (Nat.le_refl _))⟩
    exact ⟨by rw [List.length_reverse]; exact hz, _, r.reverse, IsTup.new _ _⟩
end
end Lil
/-! Adq1: how Lil's data stand in the hand layer's heap. Own work. -/
set_option linter.all false
set_option Elab.async false
set_option maxRecDepth 100000
namespace Lil
open PySem PySem.Spec PyProof.Rows L2

/-- where the defs stand; the world -/
structure Fa where
  at_ : Nat → Addr
  w : World
instance : CoeFun Fa fun _ => Nat → Addr := ⟨Fa.at_⟩

mutual
inductive Rp (K : PySem.W.Frag) (fa : Fa) (m : Nat → Addr) (n : Nat) (H : Hp) : DV → V → Prop where
  | non : Rp K fa m n H .non .non
  | bl (b : Bool) : Rp K fa m n H (.bl b) (.bl b)
  | int (i : Int) : Rp K fa m n H (.int i) (.int i)
  | str (s : List Nat) : Rp K fa m n H (.str s) (.str ⟨s.toArray⟩)
  | tup {ds : List DV} {a : Addr} {vs : List V} : SqT K H a vs → Rps K fa m n H ds vs → Rp K fa m n H (.tup ds) (.ref a)
  | ref {k : Nat} : k < n → Rp K fa m n H (.ref k) (.ref (m k))
  | fn (i : Nat) : Rp K fa m n H (.fn i) (.ref (fa i))
inductive Rps (K : PySem.W.Frag) (fa : Fa) (m : Nat → Addr) (n : Nat) (H : Hp) : List DV → List V → Prop where
  | nil : Rps K fa m n H [] []
  | cons {d : DV} {v : V} {ds : List DV} {vs : List V} : Rp K fa m n H d v → Rps K fa m n H ds vs → Rps K fa m n H (d :: ds) (v :: vs)
end

def seqHO : HO → Bool
  | .lst _ => true
  | .tup _ => true
  | _ => false
/-- a later state, or one where a lock is gone -/
structure Xw (m : Nat → Addr) (n : Nat) (H : Hp) (m' : Nat → Addr) (n' : Nat) (H' : Hp) : Prop where
  le : n ≤ n'
  eq : ∀ k, k < n → m' k = m k
  tup : ∀ a xs, H a = some (.tup xs) → H' a = some (.tup xs)
  frz : ∀ a o u, seqHO u = true → H a = some (.frz o u) → H' a = some (.frz o u)
/-- a later state -/
structure Xt (m : Nat → Addr) (n : Nat) (H : Hp) (m' : Nat → Addr) (n' : Nat) (H' : Hp) : Prop where
  w : Xw m n H m' n' H'
  all : ∀ a o u, H a = some (.frz o u) → H' a = some (.frz o u)
section
variable {m m' : Nat → Addr} {n n' : Nat} {H H' : Hp}
theorem Xt.le (x : Xt m n H m' n' H') : n ≤ n' := x.w.le
theorem Xt.eq (x : Xt m n H m' n' H') : ∀ k, k < n → m' k = m k := x.w.eq
theorem Xt.tup (x : Xt m n H m' n' H') : ∀ a xs, H a = some (.tup xs) → H' a = some (.tup xs) := x.w.tup
theorem Xt.mk' (h1 : n ≤ n') (h2 : ∀ k, k < n → m' k = m k) (h3 : ∀ a xs, H a = some (.tup xs) → H' a = some (.tup xs)) (h4 : ∀ a o u, H a = some (.frz o u) → H' a = some (.frz o u)) : Xt m n H m' n' H' := ⟨⟨h1, h2, h3, fun a o u _ => h4 a o u⟩, h4⟩
end
theorem Xt.refl (m : Nat → Addr) (n : Nat) (H : Hp) : Xt m n H m n H := Xt.mk' (Nat.le_refl _) (fun _ _ => rfl) (fun _ _ h => h) fun _ _ _ h => h
theorem Xt.trans {m m1 m2 : Nat → Addr} {n n1 n2 : Nat} {H H1 H2 : Hp} (a : Xt m n H m1 n1 H1) (b : Xt m1 n1 H1 m2 n2 H2) : Xt m n H m2 n2 H2 :=
  Xt.mk' (Nat.le_trans a.le b.le) (fun k h => (b.eq k (Nat.lt_of_lt_of_le h a.le)).trans (a.eq k h)) (fun x xs h => b.tup x xs (a.tup x xs h)) fun x o u h => b.all x o u (a.all x o u h)
theorem Xw.sqt {m m' : Nat → Addr} {n n' : Nat} {H H' : Hp} {K : PySem.W.Frag} {a : Addr} {xs : List V} (x : Xw m n H m' n' H') (h : SqT K H a xs) : SqT K H' a xs := by
  rcases h with (h | ⟨o, h⟩) | h
  · exact .inl (.inl (x.tup _ _ h))
  · exact .inl (.inr ⟨o, x.frz _ _ _ rfl h⟩)
  · exact .inr h
theorem Xt.sqt {m m' : Nat → Addr} {n n' : Nat} {H H' : Hp} {K : PySem.W.Frag} {a : Addr} {xs : List V} (x : Xt m n H m' n' H') (h : SqT K H a xs) : SqT K H' a xs := x.w.sqt h

section
variable {K : PySem.W.Frag} {fa : Fa} {m m' : Nat → Addr} {n n' : Nat} {H H' : Hp}
mutual
theorem Rp.monoW (x : Xw m n H m' n' H') : ∀ {d : DV} {v : V}, Rp K fa m n H d v → Rp K fa m' n' H' d v
  | _, _, .non => .non
  | _, _, .bl b => .bl b
  | _, _, .int i => .int i
  | _, _, .str s => .str s
  | _, _, .tup h r => .tup (x.sqt h) (Rps.monoW x r)
  | _, _, .ref (k := k) h => by
    rw [← x.eq k h]
    exact .ref (Nat.lt_of_lt_of_le h x.le)
  | _, _, .fn i => .fn i
theorem Rps.monoW (x : Xw m n H m' n' H') : ∀ {ds : List DV} {vs : List V}, Rps K fa m n H ds vs → Rps K fa m' n' H' ds vs
  | _, _, .nil => .nil
  | _, _, .cons a b => .cons (Rp.monoW x a) (Rps.monoW x b)
end
theorem Rp.mono (x : Xt m n H m' n' H') {d : DV} {v : V} (r : Rp K fa m n H d v) : Rp K fa m' n' H' d v := r.monoW x.w
theorem Rps.mono (x : Xt m n H m' n' H') {d : List DV} {v : List V} (r : Rps K fa m n H d v) : Rps K fa m' n' H' d v := r.monoW x.w
theorem Rps.length : ∀ {ds : List DV} {vs : List V}, Rps K fa m n H ds vs → ds.length = vs.length
  | _, _, .nil => rfl
  | _, _, .cons _ b => congrArg Nat.succ (Rps.length b)
theorem Rps.get : ∀ {ds : List DV} {vs : List V} {i : Nat} {d : DV}, Rps K fa m n H ds vs → ds[i]? = some d → ∃ v, vs[i]? = some v ∧ Rp K fa m n H d v
  | _, _, _, _, .nil, e => by simp at e
  | _, _, 0, _, .cons a _, e => by simp at e; subst e; exact ⟨_, rfl, a⟩
  | _, _, i + 1, _, .cons _ b, e => by simpa using Rps.get (i := i) b (by simpa using e)
theorem Rps.append : ∀ {ds es : List DV} {vs ws : List V}, Rps K fa m n H ds vs → Rps K fa m n H es ws → Rps K fa m n H (ds ++ es) (vs ++ ws)
  | _, _, _, _, .nil, s => s
  | _, _, _, _, .cons a b, s => .cons a (Rps.append b s)
theorem Rps.snoc {ds : List DV} {vs : List V} {d : DV} {v : V} (r : Rps K fa m n H ds vs) (q : Rp K fa m n H d v) : Rps K fa m n H (ds ++ [d]) (vs ++ [v]) := r.append (.cons q .nil)
theorem Rps.take : ∀ {ds : List DV} {vs : List V} (k : Nat), Rps K fa m n H ds vs → Rps K fa m n H (ds.take k) (vs.take k)
  | _, _, 0, _ => by simp; exact .nil
  | _, _, _ + 1, .nil => by simp; exact .nil
  | _, _, k + 1, .cons a b => .cons a (Rps.take k b)
theorem Rps.drop : ∀ {ds : List DV} {vs : List V} (k : Nat), Rps K fa m n H ds vs → Rps K fa m n H (ds.drop k) (vs.drop k)
  | _, _, 0, r => r
  | _, _, _ + 1, .nil => by simp; exact .nil
  | _, _, k + 1, .cons _ b => Rps.drop k b
theorem Rps.set : ∀ {ds : List DV} {vs : List V} (k : Nat) {d : DV} {v : V}, Rps K fa m n H ds vs → Rp K fa m n H d v → Rps K fa m n H (ds.set k d) (vs.set k v)
  | _, _, _, _, _, .nil, _ => .nil
  | _, _, 0, _, _, .cons _ b, q => .cons q b
  | _, _, k + 1, _, _, .cons a b, q => .cons a (Rps.set k b q)
theorem Rps.reverse : ∀ {ds : List DV} {vs : List V}, Rps K fa m n H ds vs → Rps K fa m n H ds.reverse vs.reverse
  | _, _, .nil => .nil
  | _, _, .cons a b => by
    rw [List.reverse_cons, List.reverse_cons]
    exact (Rps.reverse b).snoc a
theorem Rps.dropLast {ds : List DV} {vs : List V} (r : Rps K fa m n H ds vs) : Rps K fa m n H ds.dropLast vs.dropLast := by
  rw [List.dropLast_eq_take, List.dropLast_eq_take, r.length]
  exact r.take _
theorem Rps.evens : ∀ {ds : List DV} {vs : List V}, Rps K fa m n H ds vs → Rps K fa m n H (evens ds) (evens vs)
  | _, _, .nil => .nil
  | _, _, .cons a .nil => .cons a .nil
  | _, _, .cons a (.cons _ b) => .cons a (Rps.evens b)
theorem Rps.cut {ds : List DV} {vs : List V} (lo hi : Option Int) (r : Rps K fa m n H ds vs) : Rps K fa m n H (cut ds lo hi) (cut vs lo hi) := by
  unfold Lil.cut
  rw [r.length]
  exact (r.drop _).take _
end

/-! ### objects -/
/-- a thing that is only read: the script -/
def FroL (K : PySem.W.Frag) (H : Hp) (a : Addr) (xs : List V) : Prop :=
  (∃ o, H a = some (.frz o (.lst xs))) ∨
    ∃ (o : Obj) (its : Array Value) (n : Nat), K.lookup a = some o ∧ o.cls = .type "list" ∧ o.dict = none ∧ o.data = .seq its n ∧ its.size ≤ sizeLine ∧ Vals xs its.toList
theorem FroL.sq {K : PySem.W.Frag} {H : Hp} {a : Addr} {xs : List V} (h : FroL K H a xs) : SqL K H a xs := by
  rcases h with ⟨o, h⟩ | h
  · exact .inl (.inr ⟨o, h⟩)
  · exact .inr h
/-- keys -/
inductive Kr : DV → Key → Prop where
  | int (i : Int) : Kr (.int i) (.inl i)
  | str (s : List Nat) : Kr (.str s) (.inr ⟨s.toArray⟩)
inductive Kvs (K : PySem.W.Frag) (fa : Fa) (m : Nat → Addr) (n : Nat) (H : Hp) : List (DV × DV) → List (Key × V) → Prop where
  | nil : Kvs K fa m n H [] []
  | cons {k : DV} {y : Key} {d : DV} {v : V} {ps : List (DV × DV)} {kvs : List (Key × V)} : Kr k y → Rp K fa m n H d v → Kvs K fa m n H ps kvs → Kvs K fa m n H ((k, d) :: ps) ((y, v) :: kvs)

mutual
/-- a key of a dict of tuples -/
def nkOf : DV → NestedKey
  | .int i => .num i
  | .str s => .text ⟨s.toArray⟩
  | .tup ds => .tup (nkOfs ds)
  | _ => .none
def nkOfs : List DV → List NestedKey
  | [] => []
  | d :: ds => nkOf d :: nkOfs ds
end
def DtL : List (NestedKey × Addr × V) → List (NestedKey × Addr × Value) → Prop := Paired fun p q => p.1 = q.1 ∧ p.2.1 = q.2.1 ∧ RelV p.2.2 q.2.2
/-- a dict whose keys are tuples, with its entries -/
def DtP (w : World) (a : Addr) (L : List (NestedKey × Addr × V)) (h : Heap) : Prop := (a == sysModules) = false ∧ L.length ≤ sizeLine ∧ ∃ (xs : List (NestedKey × Addr × Value)) (o : Obj) (es : Array DictEntry) (ep : Nat),
  DtL L xs ∧ h.get? a = some o ∧ o.ExactDict ∧ o.data = .dict es ep ∧ es.toList = xs.map (fun x => (⟨x.1.hash w, .ref x.2.1, x.2.2⟩ : DictEntry)) ∧ (xs.map (·.1)).Nodup
def DtO (w : World) (a : Addr) (L : List (NestedKey × Addr × V)) : HO := .ext (DtP w a L)
inductive Ents (K : PySem.W.Frag) (fa : Fa) (m : Nat → Addr) (n : Nat) (H : Hp) : List (DV × DV) → List (NestedKey × Addr × V) → Prop where
  | nil : Ents K fa m n H [] []
  | cons {k : DV} {q : Addr} {d : DV} {v : V} {ps : List (DV × DV)} {L : List (NestedKey × Addr × V)} : isKey2 k = true → Rp K fa m n H k (.ref q) → Rp K fa m n H d v → Ents K fa m n H ps L → Ents K fa m n H ((k, d) :: ps) ((nkOf k, q, v) :: L)

inductive Ro (K : PySem.W.Frag) (fa : Fa) (m : Nat → Addr) (n : Nat) (H : Hp) : DO → Addr → Prop where
  | lst {ds : List DV} {vs : List V} {a : Addr} : H a = some (.lst vs) → Rps K fa m n H ds vs → Ro K fa m n H (.lst ds) a
  | fro {ds : List DV} {vs : List V} {a : Addr} : FroL K H a vs → Rps K fa m n H ds vs → Ro K fa m n H (.fro ds) a
  | dct {ps : List (DV × DV)} {kvs : List (Key × V)} {a : Addr} : H a = some (.dK kvs) → Kvs K fa m n H ps kvs → Ro K fa m n H (.dct ps) a
  | dtt {ps : List (DV × DV)} {L : List (NestedKey × Addr × V)} {a : Addr} : H a = some (DtO fa.w a L) → Ents K fa m n H ps L → Ro K fa m n H (.dtt ps) a
  | lkt {ps : List (DV × DV)} {L : List (NestedKey × Addr × V)} {od : Obj} {a : Addr} : H a = some (.frz od (DtO fa.w a L)) → (∃ h0, DtP fa.w a L h0) → Ents K fa m n H ps L → Ro K fa m n H (.lkt ps) a

def DO.mu : DO → Bool
  | .fro _ => false
  | _ => true

structure Sim (K : PySem.W.Frag) (fa : Fa) (m : Nat → Addr) (h : Hd) (H : Hp) : Prop where
  obj : ∀ k o, h[k]? = some o → Ro K fa m h.length H o (m k)
  inj : ∀ j k o u, h[j]? = some o → h[k]? = some u → o.mu = true → u.mu = true → m j = m k → j = k

section
variable {K : PySem.W.Frag} {fa : Fa} {m m' : Nat → Addr} {n n' : Nat} {H H' : Hp} {h : Hd}
theorem Kvs.monoW (x : Xw m n H m' n' H') : ∀ {ps : List (DV × DV)} {kvs : List (Key × V)}, Kvs K fa m n H ps kvs → Kvs K fa m' n' H' ps kvs
  | _, _, .nil => .nil
  | _, _, .cons a b c => .cons a (b.monoW x) (Kvs.monoW x c)
theorem Kvs.mono (x : Xt m n H m' n' H') {d : List (DV × DV)} {v : List (Key × V)} (r : Kvs K fa m n H d v) : Kvs K fa m' n' H' d v := r.monoW x.w
theorem Ents.monoW (x : Xw m n H m' n' H') : ∀ {ps : List (DV × DV)} {L : List (NestedKey × Addr × V)}, Ents K fa m n H ps L → Ents K fa m' n' H' ps L
  | _, _, .nil => .nil
  | _, _, .cons a b c d => .cons a (b.monoW x) (c.monoW x) (Ents.monoW x d)
theorem Ents.mono (x : Xt m n H m' n' H') {d : List (DV × DV)} {v : List (NestedKey × Addr × V)} (r : Ents K fa m n H d v) : Ents K fa m' n' H' d v := r.monoW x.w
theorem Sim.dtt (S : Sim K fa m h H) {k : Nat} {ps : List (DV × DV)} (e : h[k]? = some (.dtt ps)) : ∃ L, H (m k) = some (DtO fa.w (m k) L) ∧ Ents K fa m h.length H ps L := by
  cases S.obj k _ e with
  | dtt a b => exact ⟨_, a, b⟩
theorem Sim.lkt (S : Sim K fa m h H) {k : Nat} {ps : List (DV × DV)} (e : h[k]? = some (.lkt ps)) : ∃ od L, H (m k) = some (.frz od (DtO fa.w (m k) L)) ∧ (∃ h0, DtP fa.w (m k) L h0) ∧ Ents K fa m h.length H ps L := by
  cases S.obj k _ e with
  | lkt a b c => exact ⟨_, _, a, b, c⟩
theorem Sim.lst (S : Sim K fa m h H) {k : Nat} {ds : List DV} (e : h[k]? = some (.lst ds)) : ∃ vs, H (m k) = some (.lst vs) ∧ Rps K fa m h.length H ds vs := by
  cases S.obj k _ e with
  | lst a b => exact ⟨_, a, b⟩
theorem Sim.fro (S : Sim K fa m h H) {k : Nat} {ds : List DV} (e : h[k]? = some (.fro ds)) : ∃ vs, FroL K H (m k) vs ∧ Rps K fa m h.length H ds vs := by
  cases S.obj k _ e with
  | fro a b => exact ⟨_, a, b⟩
theorem Sim.dct (S : Sim K fa m h H) {k : Nat} {ps : List (DV × DV)} (e : h[k]? = some (.dct ps)) : ∃ kvs, H (m k) = some (.dK kvs) ∧ Kvs K fa m h.length H ps kvs := by
  cases S.obj k _ e with
  | dct a b => exact ⟨_, a, b⟩
theorem get_lt {h : Hd} {k : Nat} {o : DO} (e : h[k]? = some o) : k < h.length := (List.getElem?_eq_some_iff.mp e).1
/-- may be written -/
def DO.wr : DO → Bool
  | .lst _ => true
  | .dct _ => true
  | .dtt _ => true
  | _ => false
theorem DO.mu_of {o : DO} (h : o.wr = true) : o.mu = true := by
  cases o <;> first | rfl | cases h
/-- what is mutable is tracked -/
theorem Ro.there {o : DO} {a : Addr} (r : Ro K fa m n H o a) (hm : o.mu = true) : ∃ u, H a = some u := by
  cases r with
  | lst e _ => exact ⟨_, e⟩
  | fro _ _ => cases hm
  | dct e _ => exact ⟨_, e⟩
  | dtt e _ => exact ⟨_, e⟩
  | lkt e _ _ => exact ⟨_, e⟩
theorem Ro.free {o : DO} {a : Addr} (r : Ro K fa m n H o a) (hm : o.wr = true) : ∃ u, H a = some u ∧ (∀ xs, u ≠ .tup xs) ∧ ∀ ob w, u ≠ .frz ob w := by
  cases r with
  | lst e _ => exact ⟨_, e, (fun _ q => nomatch q), (fun _ _ q => nomatch q)⟩
  | fro _ _ => cases hm
  | dct e _ => exact ⟨_, e, (fun _ q => nomatch q), (fun _ _ q => nomatch q)⟩
  | dtt e _ => exact ⟨_, e, (fun _ q => nomatch q), (fun _ _ q => nomatch q)⟩
  | lkt e _ _ => cases hm
theorem Ro.monoW (x : Xw m n H m' n' H') {o : DO} {a : Addr} (r : Ro K fa m n H o a) (e : o.mu = true → H' a = H a) : Ro K fa m' n' H' o a := by
  cases r with
  | lst q r => exact .lst ((e rfl).trans q) (r.monoW x)
  | dct q r => exact .dct ((e rfl).trans q) (r.monoW x)
  | dtt q r => exact .dtt ((e rfl).trans q) (r.monoW x)
  | lkt q z r => exact .lkt ((e rfl).trans q) z (r.monoW x)
  | fro q r =>
    refine .fro ?_ (r.monoW x)
    rcases q with ⟨o, q⟩ | q
    · exact .inl ⟨o, x.frz _ _ _ rfl q⟩
    · exact .inr q
theorem Ro.mono (x : Xt m n H m' n' H') {o : DO} {a : Addr} (r : Ro K fa m n H o a) (e : o.mu = true → H' a = H a) : Ro K fa m' n' H' o a := r.monoW x.w e
/-- a tracked object that is no tuple changes -/
theorem Xt.upd {a : Addr} {u o : HO} (e : H a = some u) (nt : ∀ xs, u ≠ .tup xs) (nf : ∀ ob w, u ≠ .frz ob w) : Xt m n H m n (L2.upd H a o) := by
  refine Xt.mk' (Nat.le_refl _) (fun _ _ => rfl) (fun b xs q => ?_) fun b ob w q => ?_
  · rw [upd_ne]
    · exact q
    · rintro rfl
      rw [e] at q
      cases q
      exact nt _ rfl
  · rw [upd_ne]
    · exact q
    · rintro rfl
      rw [e] at q
      cases q
      exact nf _ _ rfl
/-- a new object -/
theorem Xt.new {a : Addr} {o : HO} (e : H a = none) (hn : n ≤ n') (he : ∀ k, k < n → m' k = m k) : Xt m n H m' n' (L2.upd H a o) := by
  refine Xt.mk' hn he (fun b xs q => ?_) fun b ob w q => ?_
  · rw [upd_ne (ne_of_none q e)]; exact q
  · rw [upd_ne (ne_of_none q e)]; exact q

/-- the object at k is written -/
theorem Sim.write (S : Sim K fa m h H) {k : Nat} {o o' : DO} {u' : HO} (e : h[k]? = some o) (hwr : o.wr = true) (hm' : o'.mu = true)
    (r : Xt m h.length H m h.length (L2.upd H (m k) u') → Ro K fa m h.length (L2.upd H (m k) u') o' (m k)) :
    Xt m h.length H m (h.set k o').length (L2.upd H (m k) u') ∧ Sim K fa m (h.set k o') (L2.upd H (m k) u') := by
  have hm := DO.mu_of hwr
  obtain ⟨u, hu, nt, nf⟩ := (S.obj k o e).free hwr
  have x : Xt m h.length H m h.length (L2.upd H (m k) u') := Xt.upd hu nt nf
  refine ⟨by rw [List.length_set]; exact x, fun j p q => ?_, fun j l p p' q q' a b c => ?_⟩
  · rw [List.length_set]
    by_cases hj : j = k
    · subst hj
      rw [List.getElem?_set_self (get_lt e)] at q
      cases q
      exact r x
    · rw [List.getElem?_set_ne (Ne.symm hj)] at q
      refine (S.obj j p q).mono x fun hp => ?_
      rw [upd_ne]
      exact fun z => hj (S.inj j k p o q e hp hm z)
  · have fx : ∀ {j : Nat} {p : DO}, (h.set k o')[j]? = some p → p.mu = true → ∃ p', h[j]? = some p' ∧ p'.mu = true := fun {j p} q hp => by
      by_cases hj : j = k
      · subst hj; exact ⟨o, e, hm⟩
      · rw [List.getElem?_set_ne (Ne.symm hj)] at q
        exact ⟨p, q, hp⟩
    obtain ⟨p1, q1, a1⟩ := fx q a
    obtain ⟨p2, q2, a2⟩ := fx q' b
    exact S.inj j l p1 p2 q1 q2 a1 a2 c

/-- where the new one stands -/
def putA (m : Nat → Addr) (k : Nat) (a : Addr) : Nat → Addr := fun j => if j = k then a else m j
theorem putA_same {m : Nat → Addr} {k : Nat} {a : Addr} : putA m k a k = a := if_pos rfl
theorem putA_ne {m : Nat → Addr} {k j : Nat} {a : Addr} (e : j ≠ k) : putA m k a j = m j := if_neg e
/-- a new object is laid -/
theorem Sim.new (S : Sim K fa m h H) {a : Addr} {o : DO} {u : HO} (e : H a = none)
    (r : Xt m h.length H (putA m h.length a) (h.length + 1) (L2.upd H a u) → Ro K fa (putA m h.length a) (h.length + 1) (L2.upd H a u) o a) :
    Xt m h.length H (putA m h.length a) (h ++ [o]).length (L2.upd H a u) ∧ Sim K fa (putA m h.length a) (h ++ [o]) (L2.upd H a u) := by
  have x : Xt m h.length H (putA m h.length a) (h.length + 1) (L2.upd H a u) := Xt.new e (Nat.le_succ _) fun k hk => putA_ne (Nat.ne_of_lt hk)
  have hl : (h ++ [o]).length = h.length + 1 := by simp
  have old : ∀ {j : Nat} {p : DO}, h[j]? = some p → putA m h.length a j = m j := fun {j p} q => putA_ne (Nat.ne_of_lt (get_lt q))
  have cs : ∀ {j : Nat} {p : DO}, (h ++ [o])[j]? = some p → h[j]? = some p ∨ (j = h.length ∧ p = o) := fun {j p} q => by
    by_cases hj : j < h.length
    · rw [List.getElem?_append_left hj] at q; exact .inl q
    · rw [List.getElem?_append_right (by omega)] at q
      have : j - h.length = 0 := by
        have := (List.getElem?_eq_some_iff.mp q).1
        simp at this
        omega
      rw [this] at q
      simp at q
      exact .inr ⟨by omega, q.symm⟩
  have ne : ∀ {j : Nat} {p : DO}, h[j]? = some p → p.mu = true → m j ≠ a := fun {j p} q hp z => by
    obtain ⟨w, hw⟩ := (S.obj j p q).there hp
    rw [z, e] at hw
    cases hw
  refine ⟨by rw [hl]; exact x, fun j p q => ?_, fun j l p p' q q' b b' c => ?_⟩
  · rw [hl]
    rcases cs q with q | ⟨e1, e2⟩
    · rw [old q]
      refine (S.obj j p q).mono x fun hp => upd_ne (ne q hp)
    · subst e1
      subst e2
      rw [putA_same]; exact r x
  · rcases cs q with q | ⟨e1, e2⟩
    · rcases cs q' with q' | ⟨e3, e4⟩
      · rw [old q, old q'] at c
        exact S.inj j l p p' q q' b b' c
      · rw [old q, e3, putA_same] at c
        exact absurd c (ne q b)
    · rcases cs q' with q' | ⟨e3, e4⟩
      · rw [old q', e1, putA_same] at c
        exact absurd c.symm (ne q' b')
      · exact e1.trans e3.symm
/-- a new tuple is laid: no object of Lil's -/
theorem Sim.tup (S : Sim K fa m h H) {a : Addr} {xs : List V} (e : H a = none) : Xt m h.length H m h.length (L2.upd H a (.tup xs)) ∧ Sim K fa m h (L2.upd H a (.tup xs)) := by
  have x : Xt m h.length H m h.length (L2.upd H a (.tup xs)) := Xt.new e (Nat.le_refl _) fun _ _ => rfl
  refine ⟨x, fun j p q => (S.obj j p q).mono x fun hp => upd_ne fun z => ?_, S.inj⟩
  obtain ⟨w, hw⟩ := (S.obj j p q).there hp
  rw [z, e] at hw
  cases hw
theorem Xw.unlk {a : Addr} {od : Obj} {w : World} {L : List (NestedKey × Addr × V)} {b : Addr} (ea : H a = some (.frz od (DtO w b L))) (u : HO) : Xw m n H m n (L2.upd H a u) := by
  refine ⟨Nat.le_refl _, fun _ _ => rfl, fun b xs q => ?_, fun b ob w z0 q => ?_⟩
  · rw [upd_ne]
    · exact q
    · rintro rfl
      rw [ea] at q
      cases q
  · rw [upd_ne]
    · exact q
    · rintro rfl
      rw [ea] at q
      cases q
      cases z0
/-- a lock is gone -/
theorem Sim.unlk (S : Sim K fa m h H) {k : Nat} {ps : List (DV × DV)} {od : Obj} {L : List (NestedKey × Addr × V)} (e : h[k]? = some (.lkt ps)) (ea : H (m k) = some (.frz od (DtO fa.w (m k) L))) (En : Ents K fa m h.length H ps L) :
    Sim K fa m (h.set k (.dtt ps)) (L2.upd H (m k) (DtO fa.w (m k) L)) := by
  have x : Xw m h.length H m h.length (L2.upd H (m k) (DtO fa.w (m k) L)) := by
    refine ⟨Nat.le_refl _, fun _ _ => rfl, fun b xs q => ?_, fun b ob w z0 q => ?_⟩
    · rw [upd_ne]
      · exact q
      · rintro rfl
        rw [ea] at q
        cases q
    · rw [upd_ne]
      · exact q
      · rintro rfl
        rw [ea] at q
        cases q
        cases z0
  refine ⟨fun j p q => ?_, fun j l p p' q q' a b c => ?_⟩
  · rw [List.length_set]
    by_cases hj : j = k
    · subst hj
      rw [List.getElem?_set_self (get_lt e)] at q
      cases q
      exact .dtt upd_same (En.monoW x)
    · rw [List.getElem?_set_ne (Ne.symm hj)] at q
      refine (S.obj j p q).monoW x fun hp => ?_
      rw [upd_ne]
      exact fun z => hj (S.inj j k p _ q e hp rfl z)
  · have fx : ∀ {j : Nat} {p : DO}, (h.set k (.dtt ps))[j]? = some p → p.mu = true → ∃ p', h[j]? = some p' ∧ p'.mu = true := fun {j p} q hp => by
      by_cases hj : j = k
      · subst hj; exact ⟨_, e, rfl⟩
      · rw [List.getElem?_set_ne (Ne.symm hj)] at q
        exact ⟨p, q, hp⟩
    obtain ⟨p1, q1, a1⟩ := fx q a
    obtain ⟨p2, q2, a2⟩ := fx q' b
    exact S.inj j l p1 p2 q1 q2 a1 a2 c
end

/-! ### slots -/
structure Slots (K : PySem.W.Frag) (fa : Fa) (m : Nat → Addr) (n : Nat) (H : Hp) (s : Sl) (t : L2.St) : Prop where
  len : s.length = t.length
  at_ : ∀ (i : Nat) (d : DV), s[i]? = some (some d) → ∃ v, t[i]? = some (some v) ∧ Rp K fa m n H d v
section
variable {K : PySem.W.Frag} {fa : Fa} {m m' : Nat → Addr} {n n' : Nat} {H H' : Hp} {s : Sl} {t : L2.St}
theorem Slots.monoW (x : Xw m n H m' n' H') (L : Slots K fa m n H s t) : Slots K fa m' n' H' s t :=
  ⟨L.len, fun i d e => let ⟨v, q, r⟩ := L.at_ i d e; ⟨v, q, r.monoW x⟩⟩
theorem Slots.mono (x : Xt m n H m' n' H') (L : Slots K fa m n H s t) : Slots K fa m' n' H' s t := L.monoW x.w
/-- the step behind a lock, seen from ahead of it -/
theorem Xt.unlk (x : Xt m n H m' n' H') {a : Addr} {od : Obj} {u w : HO} (ea : H' a = some (.frz od u)) (hf : ∀ o v, H a ≠ some (.frz o v)) : Xt m n H m' n' (L2.upd H' a w) := by
  refine Xt.mk' x.le x.eq (fun b xs q => ?_) fun b o v q => ?_
  · rw [upd_ne]
    · exact x.tup b xs q
    · rintro rfl
      have := x.tup _ _ q
      rw [ea] at this
      cases this
  · rw [upd_ne]
    · exact x.all b o v q
    · rintro rfl
      exact hf _ _ q
theorem Slots.set (L : Slots K fa m n H s t) (i : Nat) {d : DV} {v : V} (r : Rp K fa m n H d v) : Slots K fa m n H (s.set i (some d)) (t.set i (some v)) := by
  refine ⟨by simp [L.len], fun j e q => ?_⟩
  by_cases hj : i = j
  · subst hj
    by_cases hl : i < s.length
    · rw [List.getElem?_set_self hl] at q
      cases q
      exact ⟨v, List.getElem?_set_self (by rw [← L.len]; exact hl), r⟩
    · rw [List.getElem?_eq_none (by simpa using hl)] at q; cases q
  · rw [List.getElem?_set_ne hj] at q
    rw [List.getElem?_set_ne hj]
    exact L.at_ j e q
theorem Slots.none (L : Slots K fa m n H s t) (i : Nat) : Slots K fa m n H (s.set i Option.none) (t.set i Option.none) := by
  refine ⟨by simp [L.len], fun j e q => ?_⟩
  by_cases hj : i = j
  · subst hj
    by_cases hl : i < s.length
    · rw [List.getElem?_set_self hl] at q; cases q
    · rw [List.getElem?_eq_none (by simpa using hl)] at q; cases q
  · rw [List.getElem?_set_ne hj] at q
    rw [List.getElem?_set_ne hj]
    exact L.at_ j e q
theorem Slots.wip (L : Slots K fa m n H s t) : ∀ vs : List Nat, Slots K fa m n H (Lil.wip s vs) (wipe t vs)
  | [] => L
  | v :: vs => (L.wip vs).none v
theorem Slots.start {ds : List DV} {vs : List V} {N : List Str} {ns np : Nat} (r : Rps K fa m n H ds vs) (h1 : ds.length = np) (h2 : N.length = ns) :
    Slots K fa m n H (ds.map some ++ List.replicate (ns - np) Option.none) (L2.start N vs) := by
  have hl := r.length
  refine ⟨?_, fun i d e => ?_⟩
  · unfold L2.start
    simp [h2, ← hl, h1]
  · by_cases hi : i < ds.length
    · rw [List.getElem?_append_left (by simpa using hi), List.getElem?_map] at e
      cases q : ds[i]? with
      | none => rw [q] at e; cases e
      | some d' =>
        rw [q] at e
        cases e
        obtain ⟨v, hv, rv⟩ := r.get q
        refine ⟨v, ?_, rv⟩
        unfold L2.start
        rw [List.getElem?_append_left (by simpa [← hl] using hi), List.getElem?_map, hv]
        rfl
    · rw [List.getElem?_append_right (by simpa using hi), List.getElem?_replicate] at e
      split at e <;> cases e
end

/-! ### what a result comes to -/
abbrev Rel (α β : Type) := α → (Nat → Addr) → Nat → Hp → β → Prop
def Ps {α β : Type} (K : PySem.W.Frag) (fa : Fa) (rel : Rel α β) (m : Nat → Addr) (n : Nat) (H : Hp) (r : Res α) (Q : β → Hp → Prop) : Prop :=
  match r with
  | .ok a h' => ∀ m' H' b, Xt m n H m' h'.length H' → Sim K fa m' h' H' → rel a m' h'.length H' b → Q b H'
  | _ => False
section
variable {α β γ δ : Type} {K : PySem.W.Frag} {fa : Fa} {rel : Rel α β} {rel2 : Rel γ δ} {m m1 : Nat → Addr} {n n1 : Nat} {H H1 : Hp} {r : Res α} {Q Q' : β → Hp → Prop}
theorem Ps.imp (p : Ps K fa rel m n H r Q) (h : ∀ b H', Q b H' → Q' b H') : Ps K fa rel m n H r Q' := by
  cases r with
  | ok a h' => exact fun m' H' b x s q => h b H' (p m' H' b x s q)
  | exc => exact p
  | bad => exact p
theorem Ps.later (p : Ps K fa rel m n H r Q) (x : Xt m n H m1 n1 H1) : Ps K fa rel m1 n1 H1 r Q := by
  cases r with
  | ok a h' => exact fun m' H' b y s q => p m' H' b (x.trans y) s q
  | exc => exact p
  | bad => exact p
/-- .. the rest seen from where one stood -/
theorem Ps.bindK {f : α → Hd → Res γ} {Q2 : δ → Hp → Prop} (p : Ps K fa rel2 m n H (r.bind f) Q2) :
    Ps K fa rel m n H r fun b H1 => ∃ a h1 m1, r = .ok a h1 ∧ Xt m n H m1 h1.length H1 ∧ Sim K fa m1 h1 H1 ∧ rel a m1 h1.length H1 b ∧ Ps K fa rel2 m n H (f a h1) Q2 := by
  cases r with
  | ok a h' => exact fun m' H' b x s q => ⟨a, h', m', rfl, x, s, q, p⟩
  | exc => exact p
  | bad => exact p
theorem Ps.bind {f : α → Hd → Res γ} {Q2 : δ → Hp → Prop} (p : Ps K fa rel2 m n H (r.bind f) Q2) :
    Ps K fa rel m n H r fun b H1 => ∃ a h1 m1, r = .ok a h1 ∧ Xt m n H m1 h1.length H1 ∧ Sim K fa m1 h1 H1 ∧ rel a m1 h1.length H1 b ∧ Ps K fa rel2 m1 h1.length H1 (f a h1) Q2 := by
  cases r with
  | ok a h' => exact fun m' H' b x s q => ⟨a, h', m', rfl, x, s, q, p.later x⟩
  | exc => exact p
  | bad => exact p
end
def rV (K : PySem.W.Frag) (fa : Fa) : Rel DV V := fun d m n H v => Rp K fa m n H d v
def rVs (K : PySem.W.Frag) (fa : Fa) : Rel (List DV) (List V) := fun d m n H v => Rps K fa m n H d v
def rEq {α : Type} : Rel α α := fun a _ _ _ b => b = a
def rSl (K : PySem.W.Frag) (fa : Fa) : Rel Sl L2.St := fun d m n H v => Slots K fa m n H d v
end Lil
/-! AdqD: dicts whose keys are tuples. Own work. -/
set_option linter.all false
set_option Elab.async false
set_option maxRecDepth 100000
namespace Lil
open PySem PySem.Spec PyProof.Rows L2

section
mutual
theorem nk_inj : ∀ {a b : DV} {n : Nat}, isK n a = true → isK n b = true → nkOf a = nkOf b → a = b
  | .non, b, n, _, hb, e => by
    cases b <;> first | rfl | (simp [nkOf] at e; done) | (cases n <;> simp [isK] at hb; done)
  | .int i, b, n, _, hb, e => by
    cases b <;> first | (simp [nkOf] at e; rw [e]; done) | (simp [nkOf] at e; done)
  | .str i, b, n, _, hb, e => by
    cases b <;> first | (simp [nkOf] at e; rw [e]; done) | (simp [nkOf] at e; done)
  | .tup ds, b, n, ha, hb, e => by
    cases n with
    | zero => simp [isK] at ha
    | succ n =>
      cases b <;> first | (simp [nkOf] at e; done) | skip
      rename_i es
      simp only [nkOf, NestedKey.tup.injEq] at e
      simp only [isK] at ha hb
      rw [nks_inj ha hb e]
  | .bl _, _, n, ha, _, _ => by cases n <;> simp [isK] at ha
  | .ref _, _, n, ha, _, _ => by cases n <;> simp [isK] at ha
  | .fn _, _, n, ha, _, _ => by cases n <;> simp [isK] at ha
theorem nks_inj : ∀ {a b : List DV} {n : Nat}, a.all (isK n) = true → b.all (isK n) = true → nkOfs a = nkOfs b → a = b
  | [], [], _, _, _, _ => rfl
  | [], _ :: _, _, _, _, e => by simp [nkOfs] at e
  | _ :: _, [], _, _, _, e => by simp [nkOfs] at e
  | a :: as, b :: bs, n, ha, hb, e => by
    rw [List.all_cons, Bool.and_eq_true] at ha hb
    simp only [nkOfs, List.cons.injEq] at e
    rw [nk_inj ha.1 hb.1 e.1, nks_inj ha.2 hb.2 e.2]
end
mutual
theorem nk_depth : ∀ {a : DV} {n : Nat}, isK n a = true → (nkOf a).depth ≤ n
  | .non, _, _ => by simp [nkOf, NestedKey.depth]
  | .int _, _, _ => by simp [nkOf, NestedKey.depth]
  | .str _, _, _ => by simp [nkOf, NestedKey.depth]
  | .tup ds, n, ha => by
    cases n with
    | zero => simp [isK] at ha
    | succ n =>
      simp only [isK] at ha
      simp only [nkOf, NestedKey.depth]
      have := nks_depth ha
      omega
  | .bl _, n, ha => by cases n <;> simp [isK] at ha
  | .ref _, n, ha => by cases n <;> simp [isK] at ha
  | .fn _, n, ha => by cases n <;> simp [isK] at ha
theorem nks_depth : ∀ {a : List DV} {n : Nat}, a.all (isK n) = true → NestedKey.depthAll (nkOfs a) ≤ n
  | [], _, _ => by simp [nkOfs, NestedKey.depthAll]
  | a :: as, n, ha => by
    rw [List.all_cons, Bool.and_eq_true] at ha
    simp only [nkOfs, NestedKey.depthAll]
    have h1 := nk_depth ha.1
    have h2 := nks_depth ha.2
    omega
end
theorem key2 {k : DV} (h : isKey2 k = true) : ∃ ds, k = .tup ds ∧ isK 8 k = true := by
  cases k <;> first | (simp [isKey2] at h; done) | skip
  exact ⟨_, rfl, h⟩
end

section
variable {X : Cx} {pins : List (Addr × Obj)} {σ : L2.St} {H : Hp} {s : Shared} {fa : Fa} {m : Nat → Addr} {n : Nat}
mutual
theorem nest_is (I : Inv X pins σ H s) : ∀ {d : DV} {v : V} {u : Value} {j : Nat}, Rp X.K fa m n H d v → isK j d = true → RelV v u → NestedIs s.heap (nkOf d) u
  | _, _, _, j, .non, _, ru => by cases ru; exact .none
  | _, _, _, j, .bl b, h, _ => by cases j <;> simp [isK] at h
  | _, _, _, j, .int i, _, ru => by obtain ⟨t, rfl⟩ := ru; exact .int i t
  | _, _, _, j, .str z, _, ru => by obtain ⟨t, rfl⟩ := ru; exact .text _ t
  | _, _, _, j, .ref _, h, _ => by cases j <;> simp [isK] at h
  | _, _, _, j, .fn _, h, _ => by cases j <;> simp [isK] at h
  | _, _, _, j, .tup (ds := ds) (a := a) (vs := vs) ht r, h, ru => by
    cases j with
    | zero => simp [isK] at h
    | succ j =>
      simp only [isK] at h
      cases ru
      obtain ⟨its, rv, ⟨o, ho, hc, k, hd⟩, _⟩ := I.tuple ht
      exact .tup ho hc hd (by simpa using nests_are I r h rv)
theorem nests_are (I : Inv X pins σ H s) : ∀ {ds : List DV} {vs : List V} {us : List Value} {j : Nat}, Rps X.K fa m n H ds vs → ds.all (isK j) = true → Vals vs us → NestedAll s.heap (nkOfs ds) us
  | _, _, _, j, .nil, _, rv => by cases rv; exact .nil
  | _, _, _, j, .cons a b, h, rv => by
    cases rv with
    | cons r1 r2 =>
      rw [List.all_cons, Bool.and_eq_true] at h
      exact .cons (nest_is I a h.1 r1) (nests_are I b h.2 r2)
end
theorem key_is (I : Inv X pins σ H s) {k : DV} {q : Addr} (r : Rp X.K fa m n H k (.ref q)) (h : isKey2 k = true) : (nestedKind X.prog X.w).is s.heap (nkOf k) q := by
  obtain ⟨ds, rfl, h2⟩ := key2 h
  exact ⟨nest_is I r h2 rfl, nk_depth h2⟩
theorem key_ref {k : DV} {v : V} (r : Rp X.K fa m n H k v) (h : isKey2 k = true) : ∃ q, v = .ref q := by
  obtain ⟨ds, rfl, h2⟩ := key2 h
  cases r
  exact ⟨_, rfl⟩
/-- the keys of the dict's entries stand -/
theorem ents_are (I : Inv X pins σ H s) {ps : List (DV × DV)} {L : List (NestedKey × Addr × V)} {xs : List (NestedKey × Addr × Value)} (E : Ents X.K fa m n H ps L) (D : DtL L xs) : ∀ x ∈ xs, (nestedKind X.prog X.w).is s.heap x.1 x.2.1 := by
  induction E generalizing xs with
  | nil => cases D; intro x hx; exact nomatch hx
  | cons a b c d ih =>
    cases D with
    | @cons p y _ ys z t =>
      intro x hx
      rcases List.mem_cons.mp hx with e | hx
      · subst e
        rw [← z.1, ← z.2.1]
        exact key_is I b a
      · exact ih t x hx
theorem dt_is (hw : X.w = fa.w) (I : Inv X pins σ H s) {a : Addr} {ps : List (DV × DV)} {L : List (NestedKey × Addr × V)} (e : Rd H a (DtO fa.w a L)) (E : Ents X.K fa m n H ps L) :
    (a == sysModules) = false ∧ L.length ≤ sizeLine ∧ ∃ xs, DtL L xs ∧ s.heap.DictOfH (nestedKind X.prog X.w) a xs := by
  obtain ⟨⟨h1, h2, xs, o, es, ep, h3, h4, h5, h6, h7, h8⟩, _⟩ := (show ObjOk X.prog X.w H s.heap a (.ext (DtP fa.w a L)) from e.ok I.hok)
  refine ⟨h1, h2, xs, h3, o, es, ep, h4, h5, h6, ?_, ents_are I E h3, h8⟩
  rw [h7, ← hw]
  rfl
theorem dt_ok {P : Program} {w : World} {H' : Hp} {h' : Heap} {a : Addr} {L : List (NestedKey × Addr × V)} {xs : List (NestedKey × Addr × Value)} (h1 : (a == sysModules) = false) (h2 : L.length ≤ sizeLine) (h3 : DtL L xs) (d : h'.DictOfH (nestedKind P w) a xs) :
    ObjOk P w H' h' a (DtO w a L) := by
  obtain ⟨o, es, ep, g1, g2, g3, g4, g5, g6⟩ := d
  refine ⟨⟨h1, h2, xs, o, es, ep, h3, g1, g2, g3, g4, g6⟩, ⟨o, g1⟩, fun k1 k2 q st => ?_⟩
  obtain ⟨q1, q2, ys, o', es', ep', q3, q4, q5⟩ := q
  exact ⟨q1, q2, ys, o', es', ep', q3, st _ q4, q5⟩
/-- what is found -/
theorem ents_get {k : DV} (hk : isKey2 k = true) : ∀ {ps : List (DV × DV)} {L : List (NestedKey × Addr × V)} {xs : List (NestedKey × Addr × Value)}, Ents X.K fa m n H ps L → DtL L xs → match getT ps k with
    | some d => ∃ q v u, atKey xs (nkOf k) = some (q, u) ∧ RelV v u ∧ Rp X.K fa m n H d v
    | none => atKey xs (nkOf k) = none
  | _, _, _, .nil, D => by cases D; rfl
  | _, _, _, .cons (k := y) (q := q) (d := d) (v := v) (ps := ps) hy r1 r2 t, D => by
    cases D with
    | @cons p z _ ys hz D =>
      have ih := ents_get hk t D
      have hz1 : z.1 = nkOf y := hz.1.symm
      unfold getT
      by_cases e : y = k
      · subst e
        rw [if_pos rfl]
        refine ⟨z.2.1, v, z.2.2, ?_, hz.2.2, r2⟩
        unfold atKey
        rw [List.find?_cons, hz1]
        simp
      · rw [if_neg e]
        have e2 : z.1 ≠ nkOf k := by
          rw [hz1]
          intro q
          obtain ⟨_, _, a1⟩ := key2 hy
          obtain ⟨_, _, a2⟩ := key2 hk
          exact e (nk_inj a1 a2 q)
        have e3 : atKey (z :: ys) (nkOf k) = atKey ys (nkOf k) := by
          unfold atKey
          rw [List.find?_cons]
          simp [e2]
        rw [e3]
        exact ih
theorem ents_len : ∀ {ps : List (DV × DV)} {L : List (NestedKey × Addr × V)}, Ents X.K fa m n H ps L → ps.length = L.length
  | _, _, .nil => rfl
  | _, _, .cons _ _ _ t => congrArg Nat.succ (ents_len t)
def putL (L : List (NestedKey × Addr × V)) (k : NestedKey) (q : Addr) (v : V) : List (NestedKey × Addr × V) :=
  if L.any (fun p => decide (p.1 = k)) then L.map (fun p => if p.1 = k then (p.1, p.2.1, v) else p) else L ++ [(k, q, v)]
theorem putL_len (L : List (NestedKey × Addr × V)) (k : NestedKey) (q : Addr) (v : V) : (putL L k q v).length ≤ L.length + 1 := by
  unfold putL
  split <;> simp
theorem paired_snoc {α β : Type} {F : α → β → Prop} : ∀ {l : List α} {r : List β} {a : α} {b : β}, Paired F l r → F a b → Paired F (l ++ [a]) (r ++ [b])
  | _, _, _, _, .nil, h => .cons h .nil
  | _, _, _, _, .cons x t, h => .cons x (paired_snoc t h)
theorem dtl_any {k : NestedKey} {L : List (NestedKey × Addr × V)} {xs : List (NestedKey × Addr × Value)} (D : DtL L xs) : L.any (fun p => decide (p.1 = k)) = (atKey xs k).isSome := by
  unfold DtL at D
  induction D with
  | nil => rfl
  | @cons a b l r h t ih =>
    rw [List.any_cons, h.1]
    by_cases e : b.1 = k
    · simp [atKey, e]
    · rw [ih]
      simp [atKey, e]
theorem dtl_put {k : NestedKey} {q : Addr} {v : V} {u : Value} {L : List (NestedKey × Addr × V)} {xs : List (NestedKey × Addr × Value)} (D : DtL L xs) (r : RelV v u) : DtL (putL L k q v) (storedH xs k q u) := by
  unfold putL
  rw [dtl_any D]
  cases z : atKey xs k with
  | none =>
    rw [storedH_new z]
    simp only [Option.isSome_none, Bool.false_eq_true, if_false]
    exact paired_snoc D ⟨rfl, rfl, r⟩
  | some p =>
    rw [storedH_old z]
    simp only [Option.isSome_some, if_true]
    clear z
    unfold DtL at D ⊢
    induction D with
    | nil => exact .nil
    | @cons a b l r' h t ih =>
      rw [List.map_cons, List.map_cons]
      refine .cons ?_ ih
      unfold putAt
      rw [h.1]
      split
      · exact ⟨rfl, h.2.1, r⟩
      · exact h
theorem ents_any {k : DV} (hk : isKey2 k = true) {ps : List (DV × DV)} {L : List (NestedKey × Addr × V)} (E : Ents X.K fa m n H ps L) : (getT ps k).isSome = L.any (fun p => decide (p.1 = nkOf k)) := by
  induction E with
  | nil => rfl
  | @cons y q d v ps L hy r1 r2 t ih =>
    rw [List.any_cons]
    unfold getT
    by_cases e : y = k
    · subst e; simp
    · rw [if_neg e, ih]
      have e2 : nkOf y ≠ nkOf k := by
        intro q
        obtain ⟨_, _, a1⟩ := key2 hy
        obtain ⟨_, _, a2⟩ := key2 hk
        exact e (nk_inj a1 a2 q)
      simp [e2]
theorem ents_put {k d : DV} {q : Addr} {v : V} (hk : isKey2 k = true) (rk : Rp X.K fa m n H k (.ref q)) (rd : Rp X.K fa m n H d v) {ps : List (DV × DV)} {L : List (NestedKey × Addr × V)} (E : Ents X.K fa m n H ps L) :
    Ents X.K fa m n H (putT ps k d) (putL L (nkOf k) q v) := by
  unfold putT putL
  rw [ents_any hk E]
  split
  · rename_i hh
    clear hh rk
    induction E with
    | nil => exact .nil
    | @cons y q d v ps L hy r1 r2 t ih =>
      rw [List.map_cons, List.map_cons]
      by_cases e : y = k
      · subst e
        simp only [if_true]
        exact .cons hy r1 rd ih
      · have e2 : nkOf y ≠ nkOf k := by
          intro q
          obtain ⟨_, _, a1⟩ := key2 hy
          obtain ⟨_, _, a2⟩ := key2 hk
          exact e (nk_inj a1 a2 q)
        simp only [e, e2, if_false]
        exact .cons hy r1 r2 ih
  · rename_i hh
    clear hh
    induction E with
    | nil => exact .cons hk rk rd .nil
    | cons a b c t ih => exact .cons a b c ih
end
end Lil
/-! AdqE: == of dicts of tuples, dict(d), over the library's rules. Own work. -/
set_option linter.all false
set_option Elab.async false
set_option maxRecDepth 100000
namespace Lil
open PySem PySem.Calls PyProof.Rows PySem.W

section
variable {prog : Program} {w : World} {K : Type} [DecidableEq K] {knd : HeapKind prog w K} {A : Around} {E : Value → Shared → Prop} {s : Shared}
def sameB : Value → Value → Bool
  | .bool a, .bool b => a == b
  | _, _ => false
def hitB (ys : List (K × Addr × Value)) (k : K) (v : Value) : Bool :=
  match atKey ys k with
  | some p => sameB v p.2
  | none => false
def hitsB (ys xs : List (K × Addr × Value)) : Bool := xs.all fun x => hitB ys x.1 x.2.2
def allB (xs : List (K × Addr × Value)) : Prop := ∀ x ∈ xs, ∃ b, x.2.2 = .bool b
theorem hold_two {α : Type} {vs : List Value} {x : Sem α} {Q : α → Shared → Prop} (h : wpAny (model prog w) A x Q E s) : wpAny (model prog w) A (holding vs x) Q E s := wpAny_holding h
theorem samePairsH {nm : String} {a b : Addr} {xs ys : List (K × Addr × Value)} {Q : Bool → Shared → Prop} (ha : (a == sysModules) = false) (hb : (b == sysModules) = false) (hu : knd.room A)
    (da : s.heap.DictOfH knd a xs) (db : s.heap.DictOfH knd b ys) (bx : allB xs) (by_ : allB ys) (h : Q (xs.length == ys.length && hitsB ys xs) s) :
    wpAny (model prog w) A (Builtin.Dict.samePairs nm a b) Q E s := by
  obtain ⟨oa, es, ep, hoa, _, hda, hea, hia, hna⟩ := da
  obtain ⟨ob, es', ep', hob, _, hdb, heb, hib, hnb⟩ := db
  have hla : xs.length = es.size := (size_of_entries hea).symm
  have hlb : ys.length = es'.size := (size_of_entries heb).symm
  rw [hla, hlb] at h
  unfold Builtin.Dict.samePairs Builtin.Dict.showsAll
  rw [if_neg (show ¬ (a == sysModules) = true by rw [ha]; exact Bool.false_ne_true), if_neg (show ¬ (b == sysModules) = true by rw [hb]; exact Bool.false_ne_true)]
  refine wpAny_bind (wpAny_pure (wpAny_bind (wpAny_pure ?_)))
  refine wpAny_bind (wpAny_dictEntries hoa hda ?_)
  dsimp only
  refine wpAny_bind (wpAny_dictEntries hob hdb ?_)
  by_cases hsz : es.size = es'.size
  case neg =>
    rw [if_pos (by simpa using hsz)]
    have hbf : (es.size == es'.size) = false := by simpa using hsz
    rw [hbf, Bool.false_and] at h
    exact wpAny_bind (wpAny_rule (wpAny_pure h))
  case pos =>
    have h' : Q (hitsB ys xs) s := by simpa [hsz] using h
    rw [if_neg (by rw [hsz]; simp)]
    refine wpAny_bind (wpAny_dictEpoch hoa hda ?_)
    refine wpAny_bind ?_
    rw [Std.Legacy.Range.forIn_eq_forIn_range']
    simp only [Std.Legacy.Range.size, Nat.sub_zero, Nat.add_sub_cancel, Nat.div_one]
    refine wpAny_forIn_list _
      (fun rest q s' => s' = s ∧ q = (none, ()) ∧ ∃ i, rest = List.range' i (es.size - i) ∧ i ≤ es.size ∧ hitsB ys (xs.drop i) = hitsB ys xs)
      _ ?_ ?_ _ _ ⟨rfl, rfl, 0, by simp, Nat.zero_le _, rfl⟩
    · rintro x rest q s' ⟨rfl, rfl, i, hr, hi, hpre⟩
      have hlt : i < es.size := by
        rcases Nat.lt_or_ge i es.size with h | h
        · exact h
        · rw [Nat.sub_eq_zero_of_le h] at hr; simp at hr
      obtain ⟨rfl, hrest⟩ : x = i ∧ rest = List.range' (i + 1) (es.size - (i + 1)) := by
        have e : es.size - i = (es.size - (i + 1)) + 1 := by omega
        rw [e, List.range'_succ] at hr
        injection hr with h1 h2
        exact ⟨h1, h2⟩
      refine wpAny_bind (wpAny_dictEntries hoa hda ?_)
      have hlt' : x < xs.length := by rw [hla]; exact hlt
      obtain ⟨⟨k, q, v⟩, hkv⟩ : ∃ p, xs[x]? = some p := ⟨_, List.getElem?_eq_getElem hlt'⟩
      have hmem : (k, q, v) ∈ xs := List.mem_of_getElem? hkv
      have hdrop : xs.drop x = (k, q, v) :: xs.drop (x + 1) := by
        rw [List.drop_eq_getElem_cons hlt']
        congr 1
        have := List.getElem?_eq_getElem hlt'
        rw [hkv] at this
        exact (Option.some.inj this).symm
      obtain ⟨bv, ebv⟩ := bx _ hmem
      dsimp only at ebv
      have hent : es[x]? = some ⟨knd.hash k, .ref q, v⟩ := by
        rw [entry_at hea x, hkv]
        rfl
      rw [hent]
      rw [hdrop] at hpre
      show wpAny _ _ (holding [Value.ref q, v] _ >>= _) _ _ _
      refine wpAny_bind (hold_two (wpAny_bind (wpAny_dictFind_heap hu (hia _ hmem) hob hdb heb hib hnb ?_ ?_)))
      · intro hno
        have hn : atKey ys k = none := atKey_none_of_get hno
        have er : hitsB ys xs = false := by
          rw [← hpre]
          simp [hitsB, hitB, hn]
        rw [er] at h'
        refine wpAny_pure ?_
        show wpAny _ _ (if (!false) = true then _ else _) _ _ _
        rw [if_pos (by decide)]
        exact wpAny_pure (wpAny_pure h')
      · intro j p hj
        have hv : atKey ys k = some p := atKey_of_get hnb hj
        obtain ⟨bw, ebw⟩ := by_ _ (List.mem_of_getElem? hj)
        have hent' : es'[j]? = some ⟨knd.hash k, .ref p.1, p.2⟩ := by
          rw [entry_at heb j, hj]
          rfl
        refine wpAny_bind (wpAny_dictEntries hob hdb ?_)
        rw [hent']
        show wpAny _ _ (holding [p.2] (eqBool v p.2)) _ _ _
        have ebw' : p.2 = .bool bw := ebw
        have hh : hitB ys k v = (bv == bw) := by
          unfold hitB
          rw [hv, ebv]
          show sameB (.bool bv) p.2 = _
          rw [ebw']
          rfl
        rw [ebv, ebw']
        refine hold_two (SeqAt.EqAt.bool_bool bv bw prog w _ _ ?_)
        rw [← hh]
        have ec : hitsB ys xs = (hitB ys k v && hitsB ys (xs.drop (x + 1))) := by
          rw [← hpre]
          simp [hitsB]
        cases hz : hitB ys k v with
        | false =>
          rw [ec, hz, Bool.false_and] at h'
          show wpAny _ _ (if (!false) = true then _ else _) _ _ _
          rw [if_pos (by decide)]
          exact wpAny_pure (wpAny_pure h')
        | true =>
          rw [hz, Bool.true_and] at ec
          show wpAny _ _ (if (!true) = true then _ else _) _ _ _
          rw [if_neg (by decide)]
          refine wpAny_bind (wpAny_dictEpoch hoa hda ?_)
          rw [if_neg (by simp)]
          exact wpAny_pure ⟨rfl, rfl, x + 1, hrest, hlt, ec.symm⟩
    · rintro q s' ⟨rfl, rfl, i, hr, hi, hpre⟩
      have hin : i = es.size := by
        rcases Nat.lt_or_ge i es.size with h | h
        · have e : es.size - i = (es.size - (i + 1)) + 1 := by omega
          rw [e, List.range'_succ] at hr; exact nomatch hr
        · exact Nat.le_antisymm hi h
      refine wpAny_pure ?_
      rw [hin, ← hla, List.drop_length] at hpre
      rw [← hpre] at h'
      exact h'
theorem eqH {a b : Addr} {xs ys : List (K × Addr × Value)} {Q : Value → Shared → Prop} (ha : (a == sysModules) = false) (hb : (b == sysModules) = false) (hr : knd.room A.in1)
    (da : s.heap.DictOfH knd a xs) (db : s.heap.DictOfH knd b ys) (hu : A.units < cLine) (bx : allB xs) (by_ : allB ys) (h : Q (.bool (xs.length == ys.length && hitsB ys xs)) s) :
    wpAny (model prog w) A (compareOp .Eq (.ref a) (.ref b)) Q E s := by
  refine wpAny_richCompare_same_room (op := .Eq) da.typeIs db.typeIs PySem.F.slot_dict_eq (wpAny_call_entry PySem.F.slot_dict_eq da.typeIs PySem.F.entry_dict_eq ?_ (PySem.F.args_dict_eq_2 _ _)) hu
  show wpAny _ _ (Builtin.Dict.dictSlotArgs "__eq__" ⟨[.ref a, .ref b], []⟩ >>= _) _ _ s
  refine wpAny_bind ?_
  unfold Builtin.Dict.dictSlotArgs
  refine wpAny_bind (wpAny_notOrdered_dict da.typeIs ?_)
  show wpAny _ _ (pure (Value.ref a, Value.ref b)) _ _ s
  refine wpAny_pure ?_
  refine wpAny_bind (wpAny_isInstance (T := "dict") db.typeIs PySem.F.sub_dict_dict ?_)
  simp only [Bool.not_true, Bool.false_eq_true, if_false]
  refine wpAny_bind (wpAny_pure (wpAny_bind (wpAny_pure ?_)))
  refine wpAny_bind (samePairsH ha hb hr da db bx by_ ?_)
  refine wpAny_pure ⟨_, rfl, ?_, ?_⟩
  · exact fun x => nomatch x
  · simpa using h
theorem neH {a b : Addr} {xs ys : List (K × Addr × Value)} {Q : Value → Shared → Prop} (ha : (a == sysModules) = false) (hb : (b == sysModules) = false) (hr : knd.room A.in1)
    (da : s.heap.DictOfH knd a xs) (db : s.heap.DictOfH knd b ys) (hu : A.units < cLine) (bx : allB xs) (by_ : allB ys) (h : Q (.bool (!(xs.length == ys.length && hitsB ys xs))) s) :
    wpAny (model prog w) A (compareOp .NotEq (.ref a) (.ref b)) Q E s := by
  refine wpAny_richCompare_same_room (op := .NotEq) da.typeIs db.typeIs PySem.F.slot_dict_ne (wpAny_call_entry PySem.F.slot_dict_ne da.typeIs PySem.F.entry_dict_ne ?_ (PySem.F.args_dict_ne_2 _ _)) hu
  show wpAny _ _ (Builtin.Dict.dictSlotArgs "__ne__" ⟨[.ref a, .ref b], []⟩ >>= _) _ _ s
  refine wpAny_bind ?_
  unfold Builtin.Dict.dictSlotArgs
  refine wpAny_bind (wpAny_notOrdered_dict da.typeIs ?_)
  show wpAny _ _ (pure (Value.ref a, Value.ref b)) _ _ s
  refine wpAny_pure ?_
  refine wpAny_bind (wpAny_isInstance (T := "dict") db.typeIs PySem.F.sub_dict_dict ?_)
  simp only [Bool.not_true, Bool.false_eq_true, if_false]
  refine wpAny_bind (wpAny_pure (wpAny_bind (wpAny_pure ?_)))
  refine wpAny_bind (samePairsH ha hb hr da db bx by_ ?_)
  refine wpAny_pure ⟨_, rfl, ?_, ?_⟩
  · exact fun x => nomatch x
  · simpa using h

/-- dict(d), d a dict whose keys hash apart -/
theorem call_dict_dictH {d : Addr} {xs : List (K × Addr × Value)} {Q : Value → Shared → Prop} (hr : knd.room A.in1.in1) (hd : (d == sysModules) = false) (hm : s.heap.DictOfH knd d xs)
    (hty : ∀ x ∈ xs, s.TypeIs (.ref x.2.1) "tuple") (hap : (xs.map fun x => knd.hash x.1).Nodup) (hsz : xs.length ≤ sizeLine)
    (hst : ∀ (h' : Heap), (∀ b o, s.heap.get? b = some o → h'.get? b = some o) → ∀ x ∈ xs, knd.is h' x.1 x.2.1)
    (h : ∀ h', h'.DictOfH knd s.heap.objs.size xs → (∀ b o, s.heap.get? b = some o → h'.get? b = some o) → Q (.ref s.heap.objs.size) { s with heap := h' }) :
    wpAny (model prog w) A (call (.type "dict") [.ref d]) Q E s := by
  refine callType_codes (Q₁ := fun obj s₁ => obj = .ref s.heap.objs.size ∧ s₁ = { s with heap := s.heap.push { cls := .type "dict", data := .dict #[] } }) F.kt_called_dict (F.kt_typeCall_dict_1 _) F.entry_dict_init (kt_code_dict_new _ ⟨rfl, rfl⟩) ?_
  rintro obj s₁ ⟨rfl, rfl⟩
  have hT : Shared.TypeIs { s with heap := s.heap.push { cls := .type "dict", data := .dict #[] } } (.ref s.heap.objs.size) "dict" := ⟨_, Heap.get?_push_size _ rfl, rfl⟩
  refine ⟨hT, F.args_dict_init_2 _ _, ?_⟩
  unfold Builtin.«dict.__init__»
  refine wpAny_bind ?_
  unfold Builtin.Dict.selfAndRest
  refine wpAny_bind (wpAny_notOrdered_dict hT ?_)
  show wpAny _ _ (pure (s.heap.objs.size, [Value.ref d])) _ _ _
  refine wpAny_pure ?_
  have up : ∀ b o, s.heap.get? b = some o → (s.heap.push { cls := .type "dict", data := .dict #[] }).get? b = some o := fun b o e => Heap.get?_push_of_some _ e
  have hm' : (s.heap.push { cls := .type "dict", data := .dict #[] }).DictOfH knd d xs := by
    obtain ⟨o, es, ep, h1, h2, h3, h4, h5, h6⟩ := hm
    exact ⟨o, es, ep, up _ _ h1, h2, h3, h4, hst _ up, h6⟩
  have hne : s.heap.objs.size ≠ d := by
    obtain ⟨o, es, ep, h1, _⟩ := hm
    exact (Nat.ne_of_lt (Heap.lt_size h1)).symm
  refine updateFrom_dictH (A := A.in1) (knd := knd) (kvs := []) .none hr hne hd (Heap.DictOfH.new s.heap) hm' (.inr ⟨fun x hx => ?_, hap⟩) (by simpa using hsz) fun h' hd' ho' hs => ?_
  · obtain ⟨o, h1, h2⟩ := hty x hx
    exact ⟨o, up _ _ h1, h2⟩
  · rw [storedAllH_nil_of_nodup xs hm.nodup] at hd'
    exact ⟨rfl, h h' hd' fun b o e => (hs.2 b (Nat.ne_of_lt (Heap.lt_size e))).trans (up b o e)⟩
end
end Lil
/-! AdqF: dicts of tuples by values. Own work. -/
set_option linter.all false
set_option Elab.async false
set_option maxRecDepth 100000
namespace Lil
open PySem PySem.Spec PyProof.Rows L2

section
variable {X : Cx} {pins : List (Addr × Obj)} {σ : L2.St} {H : Hp} {s : Shared} {fa : Fa} {m : Nat → Addr} {n : Nat} {h : Hd} {A : Around} {E : Value → Shared → Prop}
theorem dctT_dtt {k : Nat} {ps : List (DV × DV)} (e : h[k]? = some (.dtt ps)) : dctT (.ref k) h = some ps := by
  unfold dctT
  dsimp only
  rw [e]
theorem dctT_lkt {k : Nat} {ps : List (DV × DV)} (e : h[k]? = some (.lkt ps)) : dctT (.ref k) h = some ps := by
  unfold dctT
  dsimp only
  rw [e]
/-- a dict of tuples -/
theorem dt_rd {x : DV} {v : V} {ps : List (DV × DV)} (S : Sim X.K fa m h H) (r : Rp X.K fa m h.length H x v) (e : dctT x h = some ps) : ∃ a L, v = .ref a ∧ Rd H a (DtO fa.w a L) ∧ Ents X.K fa m h.length H ps L := by
  cases x <;> first | (cases e; done) | skip
  cases r
  unfold dctT at e
  dsimp only at e
  split at e
  · rename_i q
    cases e
    obtain ⟨L, h1, h2⟩ := S.dtt q
    exact ⟨_, L, rfl, .inl h1, h2⟩
  · rename_i q
    cases e
    obtain ⟨od, L, h1, _, h2⟩ := S.lkt q
    exact ⟨_, L, rfl, .inr ⟨od, h1⟩, h2⟩
  · cases e
theorem room1 (hu : A.units + 64 < cLine) {P : Program} {w : World} : (nestedKind P w).room A.in1 := by
  show A.units + 1 + 8 < cLine
  omega
theorem room2 (hu : A.units + 64 < cLine) {P : Program} {w : World} : (nestedKind P w).room A.in1.in1 := by
  show A.units + 1 + 1 + 8 < cLine
  omega
theorem dt_in {Q : Value → Shared → Prop} (hu : A.units + 64 < cLine) (hw : X.w = fa.w) (I : Inv X pins σ H s) {a : Addr} {L : List (NestedKey × Addr × V)} {ps : List (DV × DV)} {k : DV} {v : V} {u : Value} (e : Rd H a (DtO fa.w a L)) (En : Ents X.K fa m n H ps L)
    (hk : isKey2 k = true) (rk : Rp X.K fa m n H k v) (ru : RelV v u) (hq : ∀ s', Inv X pins σ H s' → Q (.bool (getT ps k).isSome) s') : wpAny (model X.prog X.w) A (compareOp .In u (.ref a)) Q E s := by
  obtain ⟨q, rfl⟩ := key_ref rk hk
  cases ru
  obtain ⟨h1, h2, xs, D, hd⟩ := dt_is hw I e En
  refine wpAny_in_heap (room1 hu) (key_is I rk hk) h1 hd ?_
  have g := ents_get hk En D
  have e2 : (atKey xs (nkOf k)).isSome = (getT ps k).isSome := by
    cases z : getT ps k with
    | none => rw [z] at g; rw [show atKey xs (nkOf k) = none from g]; rfl
    | some d => rw [z] at g; obtain ⟨q, v, u, g1, _⟩ := g; rw [g1]; rfl
  rw [e2]
  exact hq _ (I.tok _)
theorem dt_notIn {Q : Value → Shared → Prop} (hu : A.units + 64 < cLine) (hw : X.w = fa.w) (I : Inv X pins σ H s) {a : Addr} {L : List (NestedKey × Addr × V)} {ps : List (DV × DV)} {k : DV} {v : V} {u : Value} (e : Rd H a (DtO fa.w a L)) (En : Ents X.K fa m n H ps L)
    (hk : isKey2 k = true) (rk : Rp X.K fa m n H k v) (ru : RelV v u) (hq : ∀ s', Inv X pins σ H s' → Q (.bool (!(getT ps k).isSome)) s') : wpAny (model X.prog X.w) A (compareOp .NotIn u (.ref a)) Q E s := by
  obtain ⟨q, rfl⟩ := key_ref rk hk
  cases ru
  obtain ⟨h1, h2, xs, D, hd⟩ := dt_is hw I e En
  show wpAny _ _ (do return .bool (!(← contains (.ref a) (.ref q)))) Q E s
  refine wpAny_bind (wpAny_contains_heap (room1 hu) (key_is I rk hk) h1 hd (wpAny_pure ?_))
  have g := ents_get hk En D
  have e2 : (atKey xs (nkOf k)).isSome = (getT ps k).isSome := by
    cases z : getT ps k with
    | none => rw [z] at g; rw [show atKey xs (nkOf k) = none from g]; rfl
    | some d => rw [z] at g; obtain ⟨q, v, u, g1, _⟩ := g; rw [g1]; rfl
  rw [e2]
  exact hq _ (I.tok _)
theorem dt_type (hw : X.w = fa.w) (I : Inv X pins σ H s) {a : Addr} {L : List (NestedKey × Addr × V)} {ps : List (DV × DV)} (e : Rd H a (DtO fa.w a L)) (En : Ents X.K fa m n H ps L) :
    s.TypeIs (.ref a) "dict" ∧ ∀ b, Value.ref a = .ref b → ∃ ob, s.heap.get? b = some ob ∧ ob.dict = none := by
  obtain ⟨h1, h2, xs, D, hd⟩ := dt_is hw I e En
  refine ⟨hd.typeIs, fun b q => ?_⟩
  cases q
  obtain ⟨o, es, ep, g1, g2, _⟩ := hd
  exact ⟨o, g1, g2.2.1⟩
theorem dt_get {Q : Value → Shared → Prop} (hu : A.units + 64 < cLine) (hw : X.w = fa.w) (I : Inv X pins σ H s) {a : Addr} {L : List (NestedKey × Addr × V)} {ps : List (DV × DV)} {k d : DV} {v : V} {u : Value} (e : Rd H a (DtO fa.w a L)) (En : Ents X.K fa m n H ps L)
    (hk : isKey2 k = true) (rk : Rp X.K fa m n H k v) (ru : RelV v u) (hg : getT ps k = some d) (hq : ∀ s' v u, Inv X pins σ H s' → RelV v u → Rp X.K fa m n H d v → Q u s') : wpAny (model X.prog X.w) A (getItem (.ref a) u) Q E s := by
  obtain ⟨q, rfl⟩ := key_ref rk hk
  cases ru
  obtain ⟨h1, h2, xs, D, hd⟩ := dt_is hw I e En
  have g := ents_get hk En D
  rw [hg] at g
  obtain ⟨q2, v2, u2, g1, g2, g3⟩ := g
  exact wpAny_getItem_heap (room1 hu) (key_is I rk hk) hd g1 (hq _ v2 u2 (I.tok _) g2 g3)
theorem dt_set {Q : Unit → Shared → Prop} (hu : A.units + 64 < cLine) (hw : X.w = fa.w) (I : Inv X pins σ H s) {a : Addr} {L : List (NestedKey × Addr × V)} {ps : List (DV × DV)} {k : DV} {v vd : V} {u ud : Value} (e : H a = some (DtO fa.w a L)) (En : Ents X.K fa m n H ps L)
    (hk : isKey2 k = true) (q : Addr) (ev : v = .ref q) (rk : Rp X.K fa m n H k v) (ru : RelV v u) (rd : RelV vd ud) (hl : ps.length < LN)
    (hq : ∀ s', Inv X pins σ (upd H a (DtO fa.w a (putL L (nkOf k) q vd))) s' → Q () s') : wpAny (model X.prog X.w) A (setItem (.ref a) u ud) Q E s := by
  subst ev
  cases ru
  obtain ⟨h1, h2, xs, D, hd⟩ := dt_is hw I (.inl e) En
  have hlx : xs.length = L.length := (Paired.length D).symm
  have hlp := ents_len En
  refine wpAny_setItem_heap (hsz := by omega) (room1 hu) (key_is I rk hk) hd fun h' hm' hs => hq _ ?_
  have he : ∃ q, h'.get? a = some q := let ⟨q, _, _, hq, _⟩ := hm'; ⟨q, hq⟩
  refine d_write I (by rw [e]; exact True.intro) hs he ?_
  rw [← hw]
  refine dt_ok h1 ?_ (dtl_put D rd) hm'
  have := putL_len L (nkOf k) q vd
  rw [sizeLine_eq]
  unfold LN at hl
  omega
theorem dt_new (I : Inv X pins σ H s) : ObjOk X.prog X.w H (s.heap.push { cls := .type "dict", data := .dict #[] }) s.heap.objs.size (DtO X.w s.heap.objs.size []) := by
  refine dt_ok (xs := []) ?_ (Nat.zero_le _) .nil (Heap.DictOfH.new s.heap)
  exact beq_eq_false_iff_ne.mpr (Ne.symm (Nat.ne_of_lt I.big))
theorem vals_bl {ps : List (DV × DV)} {L : List (NestedKey × Addr × V)} {xs : List (NestedKey × Addr × Value)} (En : Ents X.K fa m n H ps L) (D : DtL L xs) (hb : (ps.all fun kv => isBl kv.2) = true) : allB xs := by
  induction En generalizing xs with
  | nil => cases D; intro x hx; exact nomatch hx
  | cons a b c d ih =>
    cases D with
    | @cons p y _ ys z t =>
      rw [List.all_cons, Bool.and_eq_true] at hb
      intro x hx
      rcases List.mem_cons.mp hx with e | hx
      · subst e
        have hb1 := hb.1
        cases c <;> first | (cases hb1; done) | skip
        exact ⟨_, z.2.2⟩
      · exact ih t hb.2 x hx
theorem getT_mem {k d : DV} : ∀ {ps : List (DV × DV)}, getT ps k = some d → (k, d) ∈ ps
  | [], e => by cases e
  | (y, v) :: r, e => by
    unfold getT at e
    split at e
    · rename_i q; cases e; subst q; exact .head _
    · exact .tail _ (getT_mem e)
theorem hit_eq {k : DV} {b : Bool} {qs : List (DV × DV)} {L : List (NestedKey × Addr × V)} {ys : List (NestedKey × Addr × Value)} (hk : isKey2 k = true) (En : Ents X.K fa m n H qs L) (D : DtL L ys) (hb : (qs.all fun kv => isBl kv.2) = true) :
    hitB ys (nkOf k) (.bool b) = decide (getT qs k = some (.bl b)) := by
  have g := ents_get hk En D
  unfold hitB
  cases z : getT qs k with
  | none =>
    rw [z] at g
    rw [show atKey ys (nkOf k) = none from g]
    simp
  | some d =>
    rw [z] at g
    obtain ⟨q, v, u, g1, g2, g3⟩ := g
    rw [g1]
    have hb' : isBl d = true := (List.all_eq_true.mp hb) _ (getT_mem z)
    cases d <;> first | (cases hb'; done) | skip
    rename_i c
    cases g3
    cases g2
    show (b == c) = _
    cases b <;> cases c <;> rfl
theorem hits_eq {ps qs : List (DV × DV)} {L L2 : List (NestedKey × Addr × V)} {xs ys : List (NestedKey × Addr × Value)} (En : Ents X.K fa m n H ps L) (D : DtL L xs) (En2 : Ents X.K fa m n H qs L2) (D2 : DtL L2 ys)
    (hb : (ps.all fun kv => isBl kv.2) = true) (hb2 : (qs.all fun kv => isBl kv.2) = true) : hitsB ys xs = ps.all fun kv => decide (getT qs kv.1 = some kv.2) := by
  induction En generalizing xs with
  | nil => cases D; rfl
  | @cons k q d v ps L a b c t ih =>
    cases D with
    | @cons p y _ xs z D =>
      rw [List.all_cons, Bool.and_eq_true] at hb
      have hb1 := hb.1
      cases c <;> first | (cases hb1; done) | skip
      rename_i bb
      have e := ih D hb.2
      unfold hitsB at e ⊢
      rw [List.all_cons, List.all_cons, e]
      congr 1
      have z3 : y.2.2 = .bool bb := z.2.2
      rw [z3, ← z.1]
      exact hit_eq a En2 D2 hb2
theorem dt_eqv (hw : X.w = fa.w) (I : Inv X pins σ H s) {a b : Addr} {L L2 : List (NestedKey × Addr × V)} {ps qs : List (DV × DV)} {r : Bool} (e : Rd H a (DtO fa.w a L)) (En : Ents X.K fa m n H ps L) (e2 : Rd H b (DtO fa.w b L2)) (En2 : Ents X.K fa m n H qs L2)
    (hr : eqT ps qs = some r) : ∃ xs ys, (a == sysModules) = false ∧ (b == sysModules) = false ∧ s.heap.DictOfH (nestedKind X.prog X.w) a xs ∧ s.heap.DictOfH (nestedKind X.prog X.w) b ys ∧ allB xs ∧ allB ys ∧ (xs.length == ys.length && hitsB ys xs) = r := by
  obtain ⟨h1, h2, xs, D, hd⟩ := dt_is hw I e En
  obtain ⟨g1, g2, ys, D2, hd2⟩ := dt_is hw I e2 En2
  unfold eqT at hr
  split at hr
  · rename_i hb
    rw [Bool.and_eq_true] at hb
    cases hr
    refine ⟨xs, ys, h1, g1, hd, hd2, vals_bl En D hb.1, vals_bl En2 D2 hb.2, ?_⟩
    rw [hits_eq En D En2 D2 hb.1 hb.2]
    have l1 : xs.length = ps.length := by rw [ents_len En]; exact (Paired.length D).symm
    have l2 : ys.length = qs.length := by rw [ents_len En2]; exact (Paired.length D2).symm
    rw [l1, l2]
  · cases hr
theorem dt_eq {Q : Value → Shared → Prop} (hu : A.units + 64 < cLine) (hw : X.w = fa.w) (I : Inv X pins σ H s) {a b : Addr} {L L2 : List (NestedKey × Addr × V)} {ps qs : List (DV × DV)} {r : Bool} (e : Rd H a (DtO fa.w a L)) (En : Ents X.K fa m n H ps L) (e2 : Rd H b (DtO fa.w b L2)) (En2 : Ents X.K fa m n H qs L2)
    (hr : eqT ps qs = some r) (hq : Q (.bool r) s) : wpAny (model X.prog X.w) A (compareOp .Eq (.ref a) (.ref b)) Q E s := by
  obtain ⟨xs, ys, h1, h2, h3, h4, h5, h6, h7⟩ := dt_eqv hw I e En e2 En2 hr
  exact eqH h1 h2 (room1 hu) h3 h4 (by omega) h5 h6 (by rw [h7]; exact hq)
theorem dt_ne {Q : Value → Shared → Prop} (hu : A.units + 64 < cLine) (hw : X.w = fa.w) (I : Inv X pins σ H s) {a b : Addr} {L L2 : List (NestedKey × Addr × V)} {ps qs : List (DV × DV)} {r : Bool} (e : Rd H a (DtO fa.w a L)) (En : Ents X.K fa m n H ps L) (e2 : Rd H b (DtO fa.w b L2)) (En2 : Ents X.K fa m n H qs L2)
    (hr : eqT ps qs = some r) (hq : Q (.bool (!r)) s) : wpAny (model X.prog X.w) A (compareOp .NotEq (.ref a) (.ref b)) Q E s := by
  obtain ⟨xs, ys, h1, h2, h3, h4, h5, h6, h7⟩ := dt_eqv hw I e En e2 En2 hr
  exact neH h1 h2 (room1 hu) h3 h4 (by omega) h5 h6 (by rw [h7]; exact hq)
end
end Lil
/-! Adq2: operations by values. Own work. -/
set_option linter.all false
set_option Elab.async false
set_option maxRecDepth 100000
namespace Lil
open PySem PySem.Spec PyProof.Rows L2

theorem LN_eq : sizeLine = LN := sizeLine_eq
theorem ps_bad {α β : Type} {K : PySem.W.Frag} {fa : Fa} {rel : Rel α β} {m : Nat → Addr} {n : Nat} {H : Hp} {Q : β → Hp → Prop} (p : Ps K fa rel m n H Res.bad Q) : False := p

section
variable {K : PySem.W.Frag} {fa : Fa} {m : Nat → Addr} {h : Hd} {H : Hp} {Q : VK}
/-- a value and the same heap -/
theorem ps_same {d : DV} {v : V} (S : Sim K fa m h H) (r : Rp K fa m h.length H d v) (q : Ps K fa (rV K fa) m h.length H (.ok d h) Q) : Q v H := q m H v (Xt.refl _ _ _) S r
theorem ps_lst {ds : List DV} {vs : List V} (S : Sim K fa m h H) (r : Rps K fa m h.length H ds vs) (q : Ps K fa (rV K fa) m h.length H (alloc (.lst ds) h) Q) :
    ∀ p, H p = none → Q (.ref p) (upd H p (.lst vs)) := fun p np => by
  obtain ⟨x, S'⟩ := S.new (a := p) (o := .lst ds) (u := .lst vs) np fun x => by
    exact .lst upd_same (r.mono x)
  refine q _ _ _ x S' ?_
  have z : Rp K fa (putA m h.length p) (h ++ [DO.lst ds]).length (upd H p (.lst vs)) (.ref h.length) (.ref (putA m h.length p h.length)) := .ref (by simp)
  rw [putA_same] at z
  exact z
theorem ps_tup {ds : List DV} {vs : List V} (S : Sim K fa m h H) (r : Rps K fa m h.length H ds vs) (q : Ps K fa (rV K fa) m h.length H (.ok (.tup ds) h) Q) :
    ∀ p, H p = none → Q (.ref p) (upd H p (.tup vs)) := fun p np => by
  obtain ⟨x, S'⟩ := S.tup (a := p) (xs := vs) np
  exact q _ _ _ x S' (.tup (SqT.of upd_same) (r.mono x))
theorem ps_dnw (S : Sim K fa m h H) (q : Ps K fa (rV K fa) m h.length H (alloc (.dct []) h) Q) :
    ∀ p, H p = none → Q (.ref p) (upd H p (.dK [])) := fun p np => by
  obtain ⟨x, S'⟩ := S.new (a := p) (o := .dct []) (u := .dK []) np fun x => .dct upd_same .nil
  refine q _ _ _ x S' ?_
  have z : Rp K fa (putA m h.length p) (h ++ [DO.dct []]).length (upd H p (.dK [])) (.ref h.length) (.ref (putA m h.length p h.length)) := .ref (by simp)
  rw [putA_same] at z
  exact z
/-- the list at k is written -/
theorem ps_set {k : Nat} {ds es : List DV} {vs ws : List V} {d : DV} {v : V} (S : Sim K fa m h H) (e : h[k]? = some (.lst ds)) (ea : H (m k) = some (.lst vs)) (r : Rps K fa m h.length H es ws) (rd : Rp K fa m h.length H d v)
    (q : Ps K fa (rV K fa) m h.length H (.ok d (h.set k (.lst es))) Q) : Q v (upd H (m k) (.lst ws)) := by
  obtain ⟨x, S'⟩ := S.write (o' := .lst es) (u' := .lst ws) e rfl rfl fun x => .lst upd_same (r.mono x)
  refine q _ _ _ x S' (rd.mono x)
/-- what a sequence is -/
theorem seq_of {x : DV} {v : V} {ds : List DV} (S : Sim K fa m h H) (r : Rp K fa m h.length H x v) (e : seqOf h x = some ds) :
    ∃ a vs, v = .ref a ∧ (SqL K H a vs ∨ SqT K H a vs) ∧ Rps K fa m h.length H ds vs ∧ ((∃ es, x = .tup es) → SqT K H a vs) ∧ ((∃ k, x = .ref k) → SqL K H a vs) := by
  cases r with
  | tup a b =>
    cases (show some _ = some ds from e)
    exact ⟨_, _, rfl, .inr a, b, fun _ => a, fun ⟨k, q⟩ => nomatch q⟩
  | @ref k hk =>
    unfold seqOf at e
    dsimp only at e
    split at e
    · rename_i q
      cases e
      obtain ⟨vs, e1, e2⟩ := S.lst q
      exact ⟨_, vs, rfl, .inl (SqL.of e1), e2, (fun ⟨_, z⟩ => nomatch z), fun _ => SqL.of e1⟩
    · rename_i q
      cases e
      obtain ⟨vs, e1, e2⟩ := S.fro q
      exact ⟨_, vs, rfl, .inl e1.sq, e2, (fun ⟨_, z⟩ => nomatch z), fun _ => e1.sq⟩
    · cases e
  | non => cases e
  | bl => cases e
  | int => cases e
  | str => cases e
  | fn => cases e
end

/-! ### two-place operators -/
def rBop (K : PySem.W.Frag) (fa : Fa) (o : Bop) : R2 := fun x y H Q => ∃ m h a b, Sim K fa m h H ∧ Rp K fa m h.length H a x ∧ Rp K fa m h.length H b y ∧ Ps K fa (rV K fa) m h.length H (bop o a b h) Q

section
variable {X : Cx} {fa : Fa}
theorem bop_ok {o : Operator} {o' : Bop} (e : bopOf o = some o') : OpR X (binaryOp o) (rBop X.K fa o') := by
  intro pins s σ H x y v u Q I rx ry ⟨m, h, a, b, S, ra, rb, q⟩
  cases o <;> (first | (cases e; done) | (injection e with e; subst e))
  · -- add
    cases a <;> cases b <;> first | exact (ps_bad q).elim | skip
    · cases ra; cases rb
      exact op_add pins s σ H _ _ v u Q I rx ry ⟨_, _, rfl, rfl, ps_same S (.int _) q⟩
    · rename_i i j
      cases ra; cases rb
      unfold bop at q
      dsimp only at q
      split at q
      · rename_i hl
        refine op_add_str pins s σ H _ _ v u Q I rx ry ⟨_, _, rfl, rfl, ?_, ?_⟩
        · rw [LN_eq]; exact hl
        · have z := ps_same S (.str _) q
          have e2 : ((⟨i.toArray⟩ : Str) ++ ⟨j.toArray⟩) = ⟨(i ++ j).toArray⟩ := by
            show Str.append _ _ = _
            unfold Str.append
            simp
          rw [e2]
          exact z
      · exact (ps_bad q).elim
    · rename_i xs ys
      cases ra with
      | tup ta rs =>
      cases rb with
      | tup tb rt =>
      unfold bop mkTup at q
      dsimp only at q
      split at q
      · rename_i hl
        refine op_catA pins s σ H _ _ v u Q I rx ry ⟨_, _, _, _, rfl, rfl, ta, tb, ?_, fun z => ?_, fun _ z => ?_, fun _ _ => ps_tup S (rs.append rt) q⟩
        · rw [LN_eq, ← rs.length, ← rt.length]
          simpa using hl
        · subst z
          cases rs
          exact ps_same S (.tup tb rt) q
        · subst z
          cases rt
          rw [List.append_nil] at q
          exact ps_same S (.tup ta rs) q
      · exact (ps_bad q).elim
    · rename_i i j
      unfold bop at q
      dsimp only at q
      split at q
      · rename_i q1 q2
        cases ra; cases rb
        obtain ⟨vs, e1, r1⟩ := S.lst q1
        obtain ⟨ws, e2, r2⟩ := S.lst q2
        unfold mkLst at q
        split at q
        · rename_i hl
          refine op_cat pins s σ H _ _ v u Q I rx ry ⟨_, _, _, _, rfl, rfl, e1, e2, ?_, ps_lst S (r1.append r2) q⟩
          rw [LN_eq, ← r1.length, ← r2.length]
          simpa using hl
        · exact (ps_bad q).elim
      · exact (ps_bad q).elim
  · -- sub
    cases a <;> cases b <;> first | exact (ps_bad q).elim | skip
    cases ra; cases rb
    exact op_sub pins s σ H _ _ v u Q I rx ry ⟨_, _, rfl, rfl, ps_same S (.int _) q⟩
  · -- mul
    cases a <;> cases b <;> first | exact (ps_bad q).elim | skip
    cases ra; cases rb
    unfold bop at q
    dsimp only at q
    split at q
    · rename_i hl
      unfold okMul at hl
      have hl' := of_decide_eq_true hl
      exact op_mul pins s σ H _ _ v u Q I rx ry ⟨_, _, rfl, rfl, hl', ps_same S (.int _) q⟩
    · exact (ps_bad q).elim
  · -- mod
    cases a <;> cases b <;> first | exact (ps_bad q).elim | skip
    cases ra; cases rb
    unfold bop at q
    dsimp only at q
    split at q
    · rename_i hl
      exact op_mod pins s σ H _ _ v u Q I rx ry ⟨_, _, rfl, rfl, hl, ps_same S (.int _) q⟩
    · exact (ps_bad q).elim
  · -- pow
    cases a <;> cases b <;> first | exact (ps_bad q).elim | skip
    cases ra; cases rb
    unfold bop at q
    dsimp only at q
    split at q
    · rename_i hl
      exact op_pow pins s σ H _ _ v u Q I rx ry ⟨_, _, rfl, rfl, hl, ps_same S (.int _) q⟩
    · exact (ps_bad q).elim
  · -- fdiv
    cases a <;> cases b <;> first | exact (ps_bad q).elim | skip
    cases ra; cases rb
    unfold bop at q
    dsimp only at q
    split at q
    · rename_i hl
      exact op_fdivW pins s σ H _ _ v u Q I rx ry ⟨_, _, rfl, rfl, hl, ps_same S (.int _) q⟩
    · exact (ps_bad q).elim
end

/-! ### data -/
section
variable {K : PySem.W.Frag} {fa : Fa} {m : Nat → Addr} {h : Hd} {H : Hp}
theorem toD_all {h : Hd} {n : Nat} (ih : ∀ x v, isDat h n x = true → Rp K fa m h.length H x v → Dp K H v (toD h n x) ∧ (toD h n x).canLay0 = true ∧ (toD h n x).depth ≤ n) :
    ∀ {ds : List DV} {vs : List V}, ds.all (isDat h n) = true → Rps K fa m h.length H ds vs → DpAll K H vs (ds.map (toD h n)) ∧ PyData.canLayAll0 (ds.map (toD h n)) = true ∧ PyData.depthAll (ds.map (toD h n)) ≤ n
  | _, _, _, .nil => ⟨.nil, rfl, by simp [PyData.depthAll]⟩
  | d :: ds, v :: vs, e, .cons a b => by
    rw [List.all_cons, Bool.and_eq_true] at e
    obtain ⟨h1, h2, h3⟩ := ih d v e.1 a
    obtain ⟨g1, g2, g3⟩ := toD_all ih e.2 b
    refine ⟨.cons h1 g1, ?_, ?_⟩
    · simp only [List.map_cons, PyData.canLayAll0, h2, g2, Bool.and_self]
    · simp only [List.map_cons, PyData.depthAll]
      omega
theorem toD_ok (S : Sim K fa m h H) : ∀ (n : Nat) (x : DV) (v : V), isDat h n x = true → Rp K fa m h.length H x v → Dp K H v (toD h n x) ∧ (toD h n x).canLay0 = true ∧ (toD h n x).depth ≤ n
  | 0, _, _, e, _ => nomatch e
  | n + 1, x, v, e, r => by
    have ih := toD_ok S n
    cases r with
    | non => exact ⟨.non, by simp [toD, PyData.canLay0], by simp [toD, PyData.depth]⟩
    | bl b => exact ⟨.bl b, by simp [toD, PyData.canLay0], by simp [toD, PyData.depth]⟩
    | int i => exact ⟨.int i, by simp [toD, PyData.canLay0], by simp [toD, PyData.depth]⟩
    | str s =>
      refine ⟨.str _, ?_, by simp [toD, PyData.depth]⟩
      have e' : (s.all fun c => decide (c < 1114112)) = true := e
      simp only [toD, PyData.canLay0, PyData.strOk]
      simpa using e'
    | tup a b =>
      have e' : (_ : List DV).all (isDat h n) = true := e
      obtain ⟨h1, h2, h3⟩ := toD_all ih e' b
      exact ⟨.tup a h1, by simpa [toD, PyData.canLay0] using h2, by simpa [toD, PyData.depth] using h3⟩
    | @ref k hk =>
      unfold isDat at e
      dsimp only at e
      split at e
      · rename_i ds q
        obtain ⟨vs, e1, e2⟩ := S.lst q
        obtain ⟨h1, h2, h3⟩ := toD_all ih e e2
        have et : toD h (n + 1) (.ref k) = .list (ds.map (toD h n)) := by
          unfold toD
          dsimp only
          rw [q]
        rw [et]
        exact ⟨.lst (SqL.of e1) h1, by simpa [PyData.canLay0] using h2, by simpa [PyData.depth] using h3⟩
      · cases e
    | fn => cases e
theorem eqv_all {h : Hd} {n : Nat} (ih : ∀ x y, isDat h n x = true → isDat h n y = true → PyData.eqv (toD h n x) (toD h n y) = deq h n x y) :
    ∀ (ds es : List DV), ds.all (isDat h n) = true → es.all (isDat h n) = true → PyData.eqvAll (ds.map (toD h n)) (es.map (toD h n)) = allEq (deq h n) ds es
  | [], [], _, _ => by simp [PyData.eqvAll, allEq]
  | [], _ :: _, _, _ => by simp [PyData.eqvAll, allEq]
  | _ :: _, [], _, _ => by simp [PyData.eqvAll, allEq]
  | d :: ds, e :: es, a, b => by
    rw [List.all_cons, Bool.and_eq_true] at a b
    simp only [List.map_cons, PyData.eqvAll, allEq, ih d e a.1 b.1, eqv_all ih ds es a.2 b.2]
theorem eqv_ok (h : Hd) : ∀ (n : Nat) (x y : DV), isDat h n x = true → isDat h n y = true → PyData.eqv (toD h n x) (toD h n y) = deq h n x y
  | 0, _, _, e, _ => nomatch e
  | n + 1, x, y, a, b => by
    have ih := eqv_ok h n
    have sb : ∀ (s t : List Nat), ((⟨s.toArray⟩ : Str) == ⟨t.toArray⟩) = (s == t) := fun s t => by
      rw [Bool.eq_iff_iff]
      simp
    cases x with
    | non => cases y <;> first | (cases b; done) | (simp [toD, deq, PyData.eqv]; done) | (rename_i k; simp only [isDat] at b; split at b <;> first | (cases b; done) | (rename_i q; simp [toD, deq, PyData.eqv, q]))
    | bl i => cases y <;> first | (cases b; done) | (simp [toD, deq, PyData.eqv]; done) | (rename_i k; simp only [isDat] at b; split at b <;> first | (cases b; done) | (rename_i q; simp [toD, deq, PyData.eqv, q]))
    | int i => cases y <;> first | (cases b; done) | (simp [toD, deq, PyData.eqv]; done) | (rename_i k; simp only [isDat] at b; split at b <;> first | (cases b; done) | (rename_i q; simp [toD, deq, PyData.eqv, q]))
    | str i => cases y <;> first | (cases b; done) | (simp [toD, deq, PyData.eqv, sb]; done) | (rename_i k; simp only [isDat] at b; split at b <;> first | (cases b; done) | (rename_i q; simp [toD, deq, PyData.eqv, q]))
    | tup i => cases y <;> first | (cases b; done) | (simp [toD, deq, PyData.eqv]; done) | (simp only [toD, deq, PyData.eqv]; exact eqv_all ih _ _ a b) | (rename_i k; simp only [isDat] at b; split at b <;> first | (cases b; done) | (rename_i q; simp [toD, deq, PyData.eqv, q]))
    | ref k =>
      simp only [isDat] at a
      split at a
      · rename_i ds q
        cases y <;> first
          | (cases b; done)
          | (simp [toD, deq, PyData.eqv, q]; done)
          | (simp only [isDat] at b
             split at b
             · rename_i es q2
               simp only [toD, deq, PyData.eqv, q, q2]
               exact eqv_all ih _ _ a b
             · cases b)
      · cases a
    | fn i => cases a
/-- two data compared -/
theorem eq_read (S : Sim K fa m h H) {n : Nat} {a b : DV} {x y : V} {r : Bool} (hn : n ≤ 64) (ra : Rp K fa m h.length H a x) (rb : Rp K fa m h.length H b y) (e : eqO h n a b = some r) :
    ∃ d e, Dp K H x d ∧ Dp K H y e ∧ SeqAt.shaped d = true ∧ SeqAt.shaped e = true ∧ PyData.eqv d e = r := by
  unfold eqO at e
  split at e
  · rename_i hd
    rw [Bool.and_eq_true] at hd
    cases e
    obtain ⟨a1, a2, a3⟩ := toD_ok S n a x hd.1 ra
    obtain ⟨b1, b2, b3⟩ := toD_ok S n b y hd.2 rb
    refine ⟨_, _, a1, b1, ?_, ?_, eqv_ok h n a b hd.1 hd.2⟩
    · unfold SeqAt.shaped
      rw [a2, Bool.true_and]
      exact decide_eq_true (by omega)
    · unfold SeqAt.shaped
      rw [b2, Bool.true_and]
      exact decide_eq_true (by omega)
  · cases e
end

/-! ### dicts with ints and texts as keys -/
section
variable {K : PySem.W.Frag} {fa : Fa} {m : Nat → Addr} {h : Hd} {H : Hp} {n : Nat}
theorem kr_of {x : DV} {v : V} (r : Rp K fa m n H x v) (e : isKey1 x = true) : ∃ k, Kr x k ∧ v = kV k := by
  cases r with
  | int i => exact ⟨_, .int i, rfl⟩
  | str s => exact ⟨_, .str s, rfl⟩
  | non => cases e
  | bl => cases e
  | tup => cases e
  | ref => cases e
  | fn => cases e
theorem kr_eq {x y : DV} {a b : Key} (p : Kr x a) (q : Kr y b) : keyEq x y = decide (a = b) := by
  cases p <;> cases q
  · show (_ == _) = _
    rw [Bool.eq_iff_iff]; simp
  · rfl
  · rfl
  · show (_ == _) = _
    rw [Bool.eq_iff_iff]; simp
theorem kvs_get {y : DV} {k : Key} (q : Kr y k) : ∀ {ps : List (DV × DV)} {kvs : List (Key × V)}, Kvs K fa m n H ps kvs → match getD ps y with
    | some d => ∃ v, valV kvs k = some v ∧ Rp K fa m n H d v
    | none => valV kvs k = none
  | _, _, .nil => rfl
  | (x, d) :: ps, (a, v) :: kvs, .cons p r t => by
    have ih := kvs_get q t
    unfold getD
    rw [kr_eq p q]
    by_cases e : a = k
    · subst e
      simp only [decide_true, if_true]
      exact ⟨v, by simp [valV, List.find?_cons], r⟩
    · rw [decide_eq_false e]
      simp only [Bool.false_eq_true, if_false]
      have e2 : valV ((a, v) :: kvs) k = valV kvs k := by simp [valV, List.find?_cons, e]
      rw [e2]
      exact ih
theorem kvs_len : ∀ {ps : List (DV × DV)} {kvs : List (Key × V)}, Kvs K fa m n H ps kvs → ps.length = kvs.length
  | _, _, .nil => rfl
  | _, _, .cons _ _ t => congrArg Nat.succ (kvs_len t)
theorem kvs_put {y d : DV} {k : Key} {v : V} (q : Kr y k) (r : Rp K fa m n H d v) {ps : List (DV × DV)} {kvs : List (Key × V)} (t : Kvs K fa m n H ps kvs) : Kvs K fa m n H (putD ps y d) (putK kvs k v) := by
  have g := kvs_get q t
  have rep : ∀ {ps : List (DV × DV)} {kvs : List (Key × V)}, Kvs K fa m n H ps kvs → Kvs K fa m n H (ps.map (fun kv => if keyEq kv.1 y then (kv.1, d) else kv)) (kvs.map (fun kv => if kv.1 = k then (kv.1, v) else kv)) := by
    intro ps kvs t
    induction t with
    | nil => exact .nil
    | @cons x a d' v' ps kvs p r' t ih =>
      simp only [List.map_cons]
      rw [kr_eq p q]
      by_cases e : a = k
      · simp only [e, decide_true, if_true]
        subst e
        exact .cons p r ih
      · simp only [e, decide_false, Bool.false_eq_true, if_false]
        exact .cons p r' ih
  have app : ∀ {ps : List (DV × DV)} {kvs : List (Key × V)}, Kvs K fa m n H ps kvs → Kvs K fa m n H (ps ++ [(y, d)]) (kvs ++ [(k, v)]) := by
    intro ps kvs t
    induction t with
    | nil => exact .cons q r .nil
    | cons p r' t ih => exact .cons p r' ih
  unfold putD putK
  rw [valV_any]
  cases z : getD ps y with
  | none =>
    rw [z] at g
    have g' : valV kvs k = none := g
    rw [g']
    exact app t
  | some w =>
    rw [z] at g
    obtain ⟨v', g', _⟩ := g
    rw [g']
    exact rep t
end

/-! ### comparisons -/
def rCop (K : PySem.W.Frag) (fa : Fa) (o : Cop) : R2 := fun x y H Q => ∃ m h a b r, Sim K fa m h H ∧ Rp K fa m h.length H a x ∧ Rp K fa m h.length H b y ∧ cop o a b h = some r ∧ Q (.bl r) H
section
variable {X : Cx} {fa : Fa}
theorem cop_ok {o : CmpOp} {o' : Cop} (e : copOf o = some o') (hw : X.w = fa.w) (hu : X.A.units + 64 < cLine) : OpR X (compareOp o) (rCop X.K fa o') := by
  intro pins s σ H x y v u Q I rx ry ⟨m, h, a, b, r, S, ra, rb, er, q⟩
  cases o <;> (first | (cases e; done) | (injection e with e; subst e))
  · have er' : eqq a b h = some r := er
    unfold eqq at er'
    split at er'
    · rename_i ps qs h1 h2
      obtain ⟨ad, L, rfl, g1, g2⟩ := dt_rd S ra h1
      obtain ⟨bd, L2, rfl, g3, g4⟩ := dt_rd S rb h2
      cases rx; cases ry
      exact dt_eq hu hw I g1 g2 g3 g4 er' ⟨.bl _, H, I, rfl, q⟩
    · obtain ⟨d, e, h1, h2, h3, h4, h5⟩ := eq_read S (by decide) ra rb er'
      subst h5
      exact op_eqD hu pins s σ H _ _ v u Q I rx ry ⟨d, e, h1, h2, h3, h4, q⟩
  · unfold cop at er
    dsimp only at er
    cases z : eqq a b h with
    | none => rw [z] at er; cases er
    | some k =>
      rw [z] at er
      cases er
      unfold eqq at z
      split at z
      · rename_i ps qs h1 h2
        obtain ⟨ad, L, rfl, g1, g2⟩ := dt_rd S ra h1
        obtain ⟨bd, L2, rfl, g3, g4⟩ := dt_rd S rb h2
        cases rx; cases ry
        exact dt_ne hu hw I g1 g2 g3 g4 z ⟨.bl _, H, I, rfl, q⟩
      · obtain ⟨d, e, h1, h2, h3, h4, h5⟩ := eq_read S (by decide) ra rb z
        subst h5
        exact op_neD hu pins s σ H _ _ v u Q I rx ry ⟨d, e, h1, h2, h3, h4, q⟩
  · cases a <;> cases b <;> first | (cases er; done) | skip
    cases ra; cases rb; cases er
    exact op_lt pins s σ H _ _ v u Q I rx ry ⟨_, _, rfl, rfl, q⟩
  · cases a <;> cases b <;> first | (cases er; done) | skip
    cases ra; cases rb; cases er
    exact op_le pins s σ H _ _ v u Q I rx ry ⟨_, _, rfl, rfl, q⟩
  · cases a <;> cases b <;> first | (cases er; done) | skip
    cases ra; cases rb; cases er
    exact op_gt pins s σ H _ _ v u Q I rx ry ⟨_, _, rfl, rfl, q⟩
  · cases a <;> cases b <;> first | (cases er; done) | skip
    cases ra; cases rb; cases er
    exact op_ge pins s σ H _ _ v u Q I rx ry ⟨_, _, rfl, rfl, q⟩
  · unfold cop isIn at er
    dsimp only at er
    cases b <;> first | (cases er; done) | skip
    dsimp only at er
    split at er
    · rename_i k ps q1
      split at er
      · rename_i hk
        cases rb
        obtain ⟨kvs, e1, r1⟩ := S.dct q1
        obtain ⟨key, p, rfl⟩ := kr_of ra hk
        have g := kvs_get p r1
        have es : (getD ps a).isSome = (valV kvs key).isSome := by
          cases z : getD ps a with
          | none => rw [z] at g; rw [show valV kvs key = none from g]; rfl
          | some w =>
            rw [z] at g
            obtain ⟨_, g1, _⟩ := g
            rw [g1]; rfl
        cases er
        cases ry
        refine d_in (by omega) I (DGet.k e1) rx fun s' I' => ?_
        rw [← es]
        exact ⟨.bl _, H, I', rfl, q⟩
      · cases er
    · rename_i k ps q1
      split at er
      · rename_i hk
        obtain ⟨ad, L, ev, g1, g2⟩ := dt_rd S rb (dctT_dtt q1)
        subst ev
        cases er
        cases ry
        exact dt_in hu hw I g1 g2 hk ra rx fun s' I' => ⟨.bl _, H, I', rfl, q⟩
      · cases er
    · rename_i k ps q1
      split at er
      · rename_i hk
        obtain ⟨ad, L, ev, g1, g2⟩ := dt_rd S rb (dctT_lkt q1)
        subst ev
        cases er
        cases ry
        exact dt_in hu hw I g1 g2 hk ra rx fun s' I' => ⟨.bl _, H, I', rfl, q⟩
      · cases er
    · cases er
  · unfold cop at er
    dsimp only at er
    cases z : isIn a b h with
    | none => rw [z] at er; cases er
    | some r' =>
      rw [z] at er
      cases er
      unfold isIn at z
      cases b <;> first | (cases z; done) | skip
      dsimp only at z
      split at z
      · rename_i k ps q1
        split at z
        · rename_i hk
          cases rb
          obtain ⟨kvs, e1, r1⟩ := S.dct q1
          obtain ⟨key, p, rfl⟩ := kr_of ra hk
          have g := kvs_get p r1
          have es : (getD ps a).isSome = (valV kvs key).isSome := by
            cases z : getD ps a with
            | none => rw [z] at g; rw [show valV kvs key = none from g]; rfl
            | some w =>
              rw [z] at g
              obtain ⟨_, g1, _⟩ := g
              rw [g1]; rfl
          cases z
          cases ry
          refine d_notIn (by omega) I (DGet.k e1) rx fun s' I' => ?_
          rw [← es]
          exact ⟨.bl _, H, I', rfl, q⟩
        · cases z
      · rename_i k ps q1
        split at z
        · rename_i hk
          obtain ⟨ad, L, ev, g1, g2⟩ := dt_rd S rb (dctT_dtt q1)
          subst ev
          cases z
          cases ry
          exact dt_notIn hu hw I g1 g2 hk ra rx fun s' I' => ⟨.bl _, H, I', rfl, q⟩
        · cases z
      · rename_i k ps q1
        split at z
        · rename_i hk
          obtain ⟨ad, L, ev, g1, g2⟩ := dt_rd S rb (dctT_lkt q1)
          subst ev
          cases z
          cases ry
          exact dt_notIn hu hw I g1 g2 hk ra rx fun s' I' => ⟨.bl _, H, I', rfl, q⟩
        · cases z
      · cases z
end

/-! ### truth -/
section
variable {K : PySem.W.Frag} {fa : Fa} {m : Nat → Addr} {h : Hd} {H : Hp}
theorem isE {ds : List DV} {vs : List V} {n : Nat} (r : Rps K fa m n H ds vs) : (!ds.isEmpty) = !vs.isEmpty := by
  cases r <;> rfl
theorem tru_read (S : Sim K fa m h H) {x : DV} {v : V} {b : Bool} (r : Rp K fa m h.length H x v) (e : tru h x = some b) : TruV K v H b := by
  cases r with
  | non => cases e; exact rfl
  | bl k => cases e; exact rfl
  | int i =>
    cases e
    show decide (i ≠ 0) = (i != 0)
    rw [Bool.eq_iff_iff]; simp
  | str s =>
    unfold tru at e
    dsimp only at e
    split at e
    · rename_i hl
      cases e
      refine ⟨?_, ?_⟩
      · rw [LN_eq]; exact hl
      · show (!s.isEmpty) = (((s.toArray.size : Nat) : Int) != 0)
        cases s with
        | nil => rfl
        | cons a r =>
          rw [Bool.eq_iff_iff]
          simp
          omega
    · cases e
  | tup a b =>
    cases e
    exact .inr (.inl ⟨_, a, isE b⟩)
  | ref hk =>
    unfold tru at e
    dsimp only at e
    split at e
    · rename_i q
      cases e
      obtain ⟨vs, e1, e2⟩ := S.lst q
      exact .inl ⟨_, SqL.of e1, isE e2⟩
    · rename_i q
      cases e
      obtain ⟨vs, e1, e2⟩ := S.fro q
      exact .inl ⟨_, e1.sq, isE e2⟩
    · cases e
  | fn => cases e
end

/-! ### items, slices, stores -/
theorem six_eq (n d : Nat) (o : Option Int) : HT.sIx n d o = six n d o := by
  cases o with
  | none => rfl
  | some v => rfl
theorem ixn_eq (n : Nat) (i : Int) : L2.ixN n i = ixn n i := rfl
theorem cutV_eq (xs : List V) (lo hi : Option Int) : cutV xs lo hi = cut xs lo hi := by
  unfold cutV Lil.cut
  rw [six_eq, six_eq]
def rIdx (K : PySem.W.Frag) (fa : Fa) : R2 := fun x y H Q => ∃ m h a b d, Sim K fa m h H ∧ Rp K fa m h.length H a x ∧ Rp K fa m h.length H b y ∧ index a b h = some d ∧ ∀ v, Rp K fa m h.length H d v → Q v H
section
variable {X : Cx} {fa : Fa}
theorem atI_of {m : Nat → Addr} {n : Nat} {H : Hp} {K : PySem.W.Frag} {ds : List DV} {vs : List V} {i : Int} {d : DV} (r : Rps K fa m n H ds vs) (e : ((ixn ds.length i).bind fun j => ds[j]?) = some d) : ∃ v, atI vs i = some v ∧ Rp K fa m n H d v := by
  obtain ⟨j, h1, h2⟩ := Option.bind_eq_some_iff.mp e
  obtain ⟨v, h3, h4⟩ := r.get h2
  refine ⟨v, ?_, h4⟩
  unfold atI
  rw [ixn_eq, ← r.length, h1]
  exact h3
theorem idx_ok (hw : X.w = fa.w) (hu : X.A.units + 64 < cLine) : IxR X (rIdx X.K fa) := by
  intro value slice pins s σ H x y v u Q I rx ry ⟨m, h, a, b, d, S, ra, rb, e, q⟩ hs
  unfold index at e
  split at e
  · rename_i hd
    unfold keyOf at e
    cases a <;> first | (cases e; done) | skip
    dsimp only at e
    split at e
    · rename_i ps q1
      split at e
      · rename_i hk
        cases ra
        obtain ⟨kvs, e1, r1⟩ := S.dct q1
        obtain ⟨k, p, rfl⟩ := kr_of rb hk
        have g := kvs_get p r1
        rw [e] at g
        obtain ⟨w', g1, g2⟩ := g
        have dg := DGet.k (k := k) e1
        rw [g1] at dg
        cases rx
        refine tail_any (dict_typeIs I dg) PySem.F.slot_dict_getitem.lookup ?_ hs
        exact d_getItem (by omega) I dg ry fun z s3 I3 rw' => ⟨w', H, I3, rw', q w' g2⟩
      · cases e
    · rename_i ps q1
      split at e
      · rename_i hk
        obtain ⟨ad, L, ev, g1, g2⟩ := dt_rd S ra (dctT_dtt q1)
        subst ev
        cases rx
        exact tail_any (dt_type hw I g1 g2).1 PySem.F.slot_dict_getitem.lookup (dt_get hu hw I g1 g2 hk rb ry e fun s' v' u' I' r1 r2 => ⟨v', H, I', r1, q v' r2⟩) hs
      · cases e
    · rename_i ps q1
      split at e
      · rename_i hk
        obtain ⟨ad, L, ev, g1, g2⟩ := dt_rd S ra (dctT_lkt q1)
        subst ev
        cases rx
        exact tail_any (dt_type hw I g1 g2).1 PySem.F.slot_dict_getitem.lookup (dt_get hu hw I g1 g2 hk rb ry e fun s' v' u' I' r1 r2 => ⟨v', H, I', r1, q v' r2⟩) hs
      · cases e
    · cases e
  · cases b <;> first | (cases e; done) | skip
    cases a <;> first | (cases e; done) | skip
    · rename_i i z
      cases ra; cases rb
      dsimp only at e
      split at e
      · rename_i hl
        obtain ⟨c, h1, h2⟩ := Option.map_eq_some_iff.mp e
        subst h2
        refine ix_str value slice pins s σ H _ _ v u Q I rx ry ⟨_, _, c, rfl, rfl, ?_, ?_, q _ (.str [c])⟩ hs
        · rw [LN_eq]; exact hl
        · obtain ⟨j, g1, g2⟩ := Option.bind_eq_some_iff.mp h1
          unfold atI
          rw [ixn_eq]
          simp only [g1, Option.bind_some]
          exact g2
      · cases e
    · rename_i i ds
      cases ra with
      | tup ta rs =>
        cases rb
        obtain ⟨w', g1, g2⟩ := atI_of rs e
        exact ix_tup value slice pins s σ H _ _ v u Q I rx ry ⟨_, _, _, w', rfl, rfl, ta, g1, q w' g2⟩ hs
    · rename_i i k
      cases ra; cases rb
      dsimp only at e
      split at e
      · rename_i q1
        obtain ⟨vs, e1, r1⟩ := S.lst q1
        obtain ⟨w', g1, g2⟩ := atI_of r1 e
        exact ix_list value slice pins s σ H _ _ v u Q I rx ry ⟨_, _, _, w', rfl, rfl, SqL.of e1, g1, q w' g2⟩ hs
      · rename_i q1
        obtain ⟨vs, e1, r1⟩ := S.fro q1
        obtain ⟨w', g1, g2⟩ := atI_of r1 e
        exact ix_list value slice pins s σ H _ _ v u Q I rx ry ⟨_, _, _, w', rfl, rfl, e1.sq, g1, q w' g2⟩ hs
      · cases e
def rSlc (K : PySem.W.Frag) (fa : Fa) : V → Option Int → Option Int → Hp → VK → Prop := fun x lo hi H Q => ∃ m h a, Sim K fa m h H ∧ Rp K fa m h.length H a x ∧ Ps K fa (rV K fa) m h.length H (slice a lo hi h) Q
theorem slc_ok : SlR X (rSlc X.K fa) := by
  intro pins s σ H x v vl vu lo hi sl Q I rx hs pl pu ⟨m, h, a, S, ra, q⟩
  cases ra with
  | non => exact (ps_bad q).elim
  | bl => exact (ps_bad q).elim
  | int => exact (ps_bad q).elim
  | fn => exact (ps_bad q).elim
  | str z =>
    unfold slice at q
    dsimp only at q
    split at q
    · rename_i hl
      refine sl_str pins s σ H _ v vl vu lo hi sl Q I rx hs pl pu ⟨_, rfl, ?_, ?_⟩
      · rw [LN_eq]; exact hl
      · have e : cutS ⟨z.toArray⟩ lo hi = ⟨(cut z lo hi).toArray⟩ := by
          unfold cutS Lil.cut
          rw [six_eq, six_eq]
          rfl
        rw [e]
        exact ps_same S (.str _) q
    · exact (ps_bad q).elim
  | tup ta rs =>
    refine sl_tupA pins s σ H _ v vl vu lo hi sl Q I rx hs pl pu ⟨_, _, rfl, ta, fun hw => ?_, fun _ => ?_⟩
    · have q' := ps_same S (.tup ta ?_) q
      · exact q'
      · rw [six_eq, six_eq] at hw
        unfold Lil.cut
        rw [rs.length, hw.1, hw.2, List.drop_zero, Nat.sub_zero, ← rs.length, List.take_length]
        exact rs
    · rw [cutV_eq]
      exact ps_tup S (rs.cut lo hi) q
  | ref hk =>
    unfold slice at q
    dsimp only at q
    split at q
    · rename_i q1
      obtain ⟨vs, e1, r1⟩ := S.lst q1
      refine sl_list pins s σ H _ v vl vu lo hi sl Q I rx hs pl pu ⟨_, _, rfl, SqL.of e1, ?_⟩
      rw [cutV_eq]
      exact ps_lst S (r1.cut lo hi) q
    · rename_i q1
      obtain ⟨vs, e1, r1⟩ := S.fro q1
      refine sl_list pins s σ H _ v vl vu lo hi sl Q I rx hs pl pu ⟨_, _, rfl, e1.sq, ?_⟩
      rw [cutV_eq]
      exact ps_lst S (r1.cut lo hi) q
    · exact (ps_bad q).elim
/-- o[i] = v -/
def rSto (K : PySem.W.Frag) (fa : Fa) : TSet := fun o i v H Q => ∃ m h a b d h', Sim K fa m h H ∧ Rp K fa m h.length H a o ∧ Rp K fa m h.length H b i ∧ Rp K fa m h.length H d v ∧ store a b d h = some h' ∧
  ∀ H', Xt m h.length H m h'.length H' → Sim K fa m h' H' → Q H'
theorem sto_ok (hw : X.w = fa.w) (hu : X.A.units + 64 < cLine) : PSet X (rSto X.K fa) := by
  intro pins s σ H o i v ov iv u Q I ro ri rv ⟨m, h, a, b, d, h', S, ra, rb, rd, e, q⟩
  unfold store at e
  cases ra <;> first | (cases e; done) | skip
  dsimp only at e
  split at e
  · rename_i ds q1
    cases rb <;> first | (cases e; done) | skip
    obtain ⟨j, h1, h2⟩ := Option.map_eq_some_iff.mp e
    subst h2
    obtain ⟨vs, e1, r1⟩ := S.lst q1
    refine set_list pins s σ H _ _ v ov iv u Q I ro ri rv ⟨_, vs, _, j, rfl, rfl, e1, ?_, ?_⟩
    · rw [ixn_eq, ← r1.length]; exact h1
    · obtain ⟨x, S'⟩ := S.write (o' := .lst (ds.set j d)) (u' := .lst (vs.set j v)) q1 rfl rfl fun x => .lst upd_same ((r1.set j rd).mono x)
      exact q _ x S'
  · rename_i ps q1
    split at e
    · rename_i hc
      cases e
      obtain ⟨kvs, e1, r1⟩ := S.dct q1
      obtain ⟨key, p, rfl⟩ := kr_of rb hc.1
      cases ro
      have dp : DPut H _ (kV key) v (upd H _ (.dK (putK kvs key v))) := DPut.k e1 (by rw [← kvs_len r1, LN_eq]; exact hc.2)
      refine d_setItem (by omega) I dp ri rv fun s4 I4 => ?_
      obtain ⟨x, S'⟩ := S.write (o' := .dct (putD ps b d)) (u' := .dK (putK kvs key v)) q1 rfl rfl fun x => .dct upd_same ((kvs_put p rd r1).mono x)
      exact ⟨_, I4, q _ x S'⟩
    · cases e
  · rename_i ps q1
    split at e
    · rename_i hc
      cases e
      obtain ⟨L, e1, r1⟩ := S.dtt q1
      obtain ⟨qa, eq⟩ := key_ref rb hc.1
      cases ro
      refine dt_set hu hw I e1 r1 hc.1 qa eq rb ri rv hc.2 fun s4 I4 => ?_
      subst eq
      obtain ⟨x, S'⟩ := S.write (o' := .dtt (putT ps b d)) (u' := DtO fa.w _ (putL L (nkOf b) qa v)) q1 rfl rfl fun x => .dtt upd_same ((ents_put hc.1 rb rd r1).mono x)
      exact ⟨_, I4, q _ x S'⟩
    · cases e
  · cases e
end
end Lil
/-! Adq3: built-ins and methods by values. Own work. -/
set_option linter.all false
set_option Elab.async false
set_option maxRecDepth 100000
namespace Lil
open PySem PySem.Spec PyProof.Rows L2

theorem Rps.one {K : PySem.W.Frag} {fa : Fa} {m : Nat → Addr} {n : Nat} {H : Hp} {d : DV} {vs : List V} (r : Rps K fa m n H [d] vs) : ∃ v, vs = [v] ∧ Rp K fa m n H d v := by
  cases r with
  | cons a b => cases b; exact ⟨_, rfl, a⟩
theorem bls_of {K : PySem.W.Frag} {fa : Fa} {m : Nat → Addr} {n : Nat} {H : Hp} : ∀ {ds : List DV} {vs : List V} {bs : List Bool}, Rps K fa m n H ds vs → allBls ds = some bs → vs = bs.map V.bl
  | _, _, _, .nil, e => by cases e; rfl
  | _, _, bs, .cons a b, e => by
    cases a <;> first | (cases e; done) | skip
    unfold allBls at e
    obtain ⟨cs, h1, h2⟩ := Option.map_eq_some_iff.mp e
    subst h2
    rw [bls_of b h1]
    rfl
theorem ints_of {K : PySem.W.Frag} {fa : Fa} {m : Nat → Addr} {n : Nat} {H : Hp} : ∀ {ds : List DV} {vs : List V} {bs : List Int}, Rps K fa m n H ds vs → allInts ds = some bs → vs = bs.map V.int
  | _, _, _, .nil, e => by cases e; rfl
  | _, _, bs, .cons a b, e => by
    cases a <;> first | (cases e; done) | skip
    unfold allInts at e
    obtain ⟨cs, h1, h2⟩ := Option.map_eq_some_iff.mp e
    subst h2
    rw [ints_of b h1]
    rfl
theorem rps_ints {K : PySem.W.Frag} {fa : Fa} {m : Nat → Addr} {n : Nat} {H : Hp} : ∀ ns : List Int, Rps K fa m n H (ns.map DV.int) (ns.map V.int)
  | [] => .nil
  | i :: r => .cons (.int i) (rps_ints r)
theorem minI_spec : ∀ {ns : List Int} {k : Int}, minI ns = some k → k ∈ ns ∧ ∀ y ∈ ns, k ≤ y
  | [], _, e => nomatch e
  | x :: r, k, e => by
    unfold minI at e
    cases z : minI r with
    | none =>
      rw [z] at e
      cases e
      cases r with
      | nil => exact ⟨List.mem_cons_self, fun y hy => by simp at hy; omega⟩
      | cons a b =>
        unfold minI at z
        split at z <;> cases z
    | some y =>
      rw [z] at e
      obtain ⟨h1, h2⟩ := minI_spec z
      simp only [Option.some.injEq] at e
      split at e
      · subst e
        exact ⟨List.mem_cons_self, fun w hw => by
          rcases List.mem_cons.mp hw with q | q
          · omega
          · have := h2 w q; omega⟩
      · subst e
        exact ⟨List.mem_cons_of_mem _ h1, fun w hw => by
          rcases List.mem_cons.mp hw with q | q
          · omega
          · exact h2 w q⟩
theorem maxI_spec : ∀ {ns : List Int} {k : Int}, maxI ns = some k → k ∈ ns ∧ ∀ y ∈ ns, y ≤ k
  | [], _, e => nomatch e
  | x :: r, k, e => by
    unfold maxI at e
    cases z : maxI r with
    | none =>
      rw [z] at e
      cases e
      cases r with
      | nil => exact ⟨List.mem_cons_self, fun y hy => by simp at hy; omega⟩
      | cons a b =>
        unfold maxI at z
        split at z <;> cases z
    | some y =>
      rw [z] at e
      obtain ⟨h1, h2⟩ := maxI_spec z
      simp only [Option.some.injEq] at e
      split at e
      · subst e
        exact ⟨List.mem_cons_self, fun w hw => by
          rcases List.mem_cons.mp hw with q | q
          · omega
          · have := h2 w q; omega⟩
      · subst e
        exact ⟨List.mem_cons_of_mem _ h1, fun w hw => by
          rcases List.mem_cons.mp hw with q | q
          · omega
          · exact h2 w q⟩
theorem insI_perm (x : Int) : ∀ r : List Int, (insI x r).Perm (x :: r)
  | [] => .refl _
  | y :: r => by
    unfold insI
    split
    · exact ((insI_perm x r).cons y).trans (.swap x y r)
    · exact .refl _
theorem sortI_perm : ∀ r : List Int, (sortI r).Perm r
  | [] => .refl _
  | x :: r => (insI_perm x (sortI r)).trans ((sortI_perm r).cons x)
theorem insI_srt (x : Int) : ∀ {r : List Int}, r.Pairwise (· ≤ ·) → (insI x r).Pairwise (· ≤ ·)
  | [], _ => by simp [insI]
  | y :: r, h => by
    obtain ⟨h1, h2⟩ := List.pairwise_cons.mp h
    unfold insI
    split
    · refine List.pairwise_cons.mpr ⟨fun z hz => ?_, insI_srt x h2⟩
      rcases List.mem_cons.mp ((insI_perm x r).mem_iff.mp hz) with q | q
      · omega
      · exact h1 z q
    · refine List.pairwise_cons.mpr ⟨fun z hz => ?_, h⟩
      rcases List.mem_cons.mp hz with q | q
      · omega
      · have := h1 z q; omega
theorem sortI_srt : ∀ r : List Int, (sortI r).Pairwise (· ≤ ·)
  | [] => .nil
  | x :: r => insI_srt x (sortI_srt r)
theorem sortI_uniq {ns out : List Int} (hp : out.Perm ns) (hs : out.Pairwise (· ≤ ·)) : out = sortI ns :=
  (hp.trans (sortI_perm ns).symm).eq_of_pairwise (fun x y _ _ h1 h2 => Int.le_antisymm h1 h2) hs (sortI_srt ns)
theorem allInts_fst {K : PySem.W.Frag} {fa : Fa} {m : Nat → Addr} {n : Nat} {H : Hp} : ∀ {ps : List (DV × DV)} {kvs : List (Key × V)} {ns : List Int}, Kvs K fa m n H ps kvs → allInts (ps.map (·.1)) = some ns → kvs.map (·.1) = ns.map Sum.inl
  | _, _, _, .nil, e => by cases e; rfl
  | _, _, ns, .cons p r t, e => by
    cases p with
    | int i =>
      obtain ⟨cs, h1, h2⟩ := Option.map_eq_some_iff.mp (show Option.map (i :: ·) (allInts _) = some ns from e)
      subst h2
      simp only [List.map_cons]
      rw [allInts_fst t h1]
    | str s => cases (show (none : Option (List Int)) = some ns from e)

def rBlt (K : PySem.W.Frag) (fa : Fa) (b : Blt) : List V → Hp → VK → Prop := fun xs H Q => ∃ m h d x, xs = [x] ∧ Sim K fa m h H ∧ Rp K fa m h.length H d x ∧ Ps K fa (rV K fa) m h.length H (blt b [d] h) Q
section
variable {X : Cx} {fa : Fa}
theorem blt_len (hw : X.w = fa.w) : CallR X (.builtin "len") (rBlt X.K fa .len) := by
  intro pins s σ H xs us Q I r ⟨m, h, d, x, ex, S, rd, q⟩
  subst ex
  have key : ∀ n : Nat, LenV X.K x H n → Q (.int n) H → wpAny (model X.prog X.w) X.A (call (.builtin "len") us) (EP X pins σ Q) X.xe s := fun n h1 h2 =>
    call_len pins s σ H [x] us Q I r ⟨x, n, rfl, h1, h2⟩
  cases rd with
  | str z =>
    unfold blt at q
    dsimp only at q
    split at q
    · rename_i hl
      refine key z.length ⟨?_, ?_⟩ (ps_same S (.int _) q)
      · rw [LN_eq]; exact hl
      · rfl
    · exact (ps_bad q).elim
  | tup ta rs =>
    refine key _ (.inr ⟨_, ta, rfl⟩) ?_
    rw [← rs.length]
    exact ps_same S (.int _) q
  | @ref k hk =>
    unfold blt at q
    dsimp only [seqOf] at q
    split at q
    · rename_i ds q1
      split at q1
      · rename_i q2
        cases q1
        obtain ⟨vs, e1, r1⟩ := S.lst q2
        refine key _ (.inl ⟨_, SqL.of e1, rfl⟩) ?_
        rw [← r1.length]
        exact ps_same S (.int _) q
      · rename_i q2
        cases q1
        obtain ⟨vs, e1, r1⟩ := S.fro q2
        refine key _ (.inl ⟨_, e1.sq, rfl⟩) ?_
        rw [← r1.length]
        exact ps_same S (.int _) q
      · cases q1
    · split at q
      · rename_i ps q1
        obtain ⟨ad, L, ev, g1, g2⟩ := dt_rd S (Rp.ref hk) q1
        cases ev
        obtain ⟨u, rfl, ru⟩ := Vals.one r
        cases ru
        obtain ⟨h1, h2, xs, D, hd⟩ := dt_is hw I g1 g2
        have hl : (pairsH xs).length = ps.length := by rw [pairsH_length, ents_len g2]; exact (Paired.length D).symm
        have hz : ps.length ≤ sizeLine := by rw [ents_len g2]; exact h2
        have hk : s.heap.DictKeyed (nestedKind X.prog X.w) (m k) (pairsH xs) := ⟨xs, hd, rfl⟩
        refine PyProof.Rows.call_len_slot (n := ((pairsH xs).length : Nat)) hk.typeIs F.slot_dict_len (fun Q' hq => len_keyed h1 hk hq) (by omega) (by rw [sizeLine_eq] at hz; omega) ⟨.int _, H, I.tok _, ⟨_, rfl⟩, ?_⟩
        rw [hl]
        exact ps_same S (.int _) q
      · exact (ps_bad q).elim
  | non => exact (ps_bad q).elim
  | bl => exact (ps_bad q).elim
  | int => exact (ps_bad q).elim
  | fn => exact (ps_bad q).elim
theorem blt_list : CallR X (.type "list") (rBlt X.K fa .list) := by
  intro pins s σ H xs us Q I r ⟨m, h, d, x, ex, S, rd, q⟩
  subst ex
  have q' : Ps X.K fa (rV X.K fa) m h.length H (match seqOf h d with | some ds => alloc (.lst ds) h | none => .bad) Q := by
    cases rd <;> exact q
  cases z : seqOf h d with
  | none => rw [z] at q'; exact (ps_bad q').elim
  | some ds =>
    rw [z] at q'
    obtain ⟨a, vs, e1, e2, e3, _, _⟩ := seq_of S rd z
    subst e1
    exact call_list_of pins s σ H _ us Q I r ⟨a, vs, rfl, e2, ps_lst S e3 q'⟩
theorem blt_tuple : CallR X (.type "tuple") (rBlt X.K fa .tuple) := by
  intro pins s σ H xs us Q I r ⟨m, h, d, x, ex, S, rd, q⟩
  subst ex
  cases rd with
  | tup ta rs =>
    exact call_tuple_of pins s σ H _ us Q I r ⟨_, _, rfl, .inr ⟨ta, ps_same S (.tup ta rs) q⟩⟩
  | @ref k hk =>
    cases z : seqOf h (.ref k) with
    | none =>
      have q' : Ps X.K fa (rV X.K fa) m h.length H (match seqOf h (.ref k) with | some ds => .ok (.tup ds) h | none => .bad) Q := q
      rw [z] at q'
      exact (ps_bad q').elim
    | some ds =>
      have q' : Ps X.K fa (rV X.K fa) m h.length H (match seqOf h (.ref k) with | some ds => .ok (.tup ds) h | none => .bad) Q := q
      rw [z] at q'
      obtain ⟨a, vs, e1, _, e3, _, e4⟩ := seq_of S (.ref hk) z
      cases e1
      exact call_tuple_of pins s σ H _ us Q I r ⟨_, vs, rfl, .inl ⟨e4 ⟨_, rfl⟩, ps_tup S e3 q'⟩⟩
  | non => exact (ps_bad q).elim
  | bl => exact (ps_bad q).elim
  | int => exact (ps_bad q).elim
  | str => exact (ps_bad q).elim
  | fn => exact (ps_bad q).elim
theorem blt_any (hc : X.calm = true) : CallR X (.builtin "any") (rBlt X.K fa .any) := by
  intro pins s σ H xs us Q I r ⟨m, h, d, x, ex, S, rd, q⟩
  subst ex
  cases rd <;> first | exact (ps_bad q).elim | skip
  unfold blt at q
  dsimp only at q
  split at q
  · rename_i ds q1
    split at q
    · rename_i bs q2
      obtain ⟨vs, e1, r1⟩ := S.lst q1
      have e := bls_of r1 q2
      subst e
      exact cr_any hc pins s σ H _ us Q I r ⟨_, bs, rfl, SqL.of e1, ps_same S (.bl _) q⟩
    · exact (ps_bad q).elim
  · exact (ps_bad q).elim
theorem blt_all (hc : X.calm = true) : CallR X (.builtin "all") (rBlt X.K fa .all) := by
  intro pins s σ H xs us Q I r ⟨m, h, d, x, ex, S, rd, q⟩
  subst ex
  cases rd <;> first | exact (ps_bad q).elim | skip
  unfold blt at q
  dsimp only at q
  split at q
  · rename_i ds q1
    split at q
    · rename_i bs q2
      obtain ⟨vs, e1, r1⟩ := S.lst q1
      have e := bls_of r1 q2
      subst e
      exact cr_all hc pins s σ H _ us Q I r ⟨_, bs, rfl, SqL.of e1, ps_same S (.bl _) q⟩
    · exact (ps_bad q).elim
  · exact (ps_bad q).elim
theorem ne_len {ns : List Int} {k : Int} (h : k ∈ ns) : 0 < ns.length := List.length_pos_of_mem h
theorem blt_min (hc : X.calm = true) : CallR X (.builtin "min") (rBlt X.K fa .min) := by
  intro pins s σ H xs us Q I r ⟨m, h, d, x, ex, S, rd, q⟩
  subst ex
  cases rd <;> first | exact (ps_bad q).elim | skip
  unfold blt at q
  dsimp only at q
  split at q
  · rename_i ds q1
    split at q
    · rename_i k q2
      obtain ⟨ns, q3, q4⟩ := Option.bind_eq_some_iff.mp q2
      obtain ⟨vs, e1, r1⟩ := S.lst q1
      have e := ints_of r1 q3
      subst e
      obtain ⟨g1, g2⟩ := minI_spec q4
      refine cr_min hc pins s σ H _ us Q I r ⟨_, ns, rfl, SqL.of e1, ne_len g1, fun j hj hm => ?_⟩
      have : j = k := Int.le_antisymm (hm k g1) (g2 j hj)
      rw [this]
      exact ps_same S (.int _) q
    · exact (ps_bad q).elim
  · exact (ps_bad q).elim
theorem blt_max (hc : X.calm = true) : CallR X (.builtin "max") (rBlt X.K fa .max) := by
  intro pins s σ H xs us Q I r ⟨m, h, d, x, ex, S, rd, q⟩
  subst ex
  cases rd <;> first | exact (ps_bad q).elim | skip
  unfold blt at q
  dsimp only at q
  split at q
  · rename_i ds q1
    split at q
    · rename_i k q2
      obtain ⟨ns, q3, q4⟩ := Option.bind_eq_some_iff.mp q2
      obtain ⟨vs, e1, r1⟩ := S.lst q1
      have e := ints_of r1 q3
      subst e
      obtain ⟨g1, g2⟩ := maxI_spec q4
      refine cr_max hc pins s σ H _ us Q I r ⟨_, ns, rfl, SqL.of e1, ne_len g1, fun j hj hm => ?_⟩
      have : j = k := Int.le_antisymm (g2 j hj) (hm k g1)
      rw [this]
      exact ps_same S (.int _) q
    · exact (ps_bad q).elim
  · exact (ps_bad q).elim
theorem blt_sum (hc : X.calm = true) : CallR X (.builtin "sum") (rBlt X.K fa .sum) := by
  intro pins s σ H xs us Q I r ⟨m, h, d, x, ex, S, rd, q⟩
  subst ex
  cases rd <;> first | exact (ps_bad q).elim | skip
  unfold blt at q
  dsimp only at q
  split at q
  · rename_i ds q1
    split at q
    · rename_i ns q3
      obtain ⟨vs, e1, r1⟩ := S.lst q1
      have e := ints_of r1 q3
      subst e
      exact cr_sum hc pins s σ H _ us Q I r ⟨_, ns, rfl, SqL.of e1, ps_same S (.int _) q⟩
    · exact (ps_bad q).elim
  · exact (ps_bad q).elim
/-! sorting data -/
theorem each_of {s : Shared} {D : List (DV × V)} : ∀ {us : List Value}, Vals (D.map (·.2)) us → PySem.W.EachIs (fun v b => RelV b.2 v) us D := by
  induction D with
  | nil => intro us r; cases r; exact .nil
  | cons b D ih => intro us r; cases r with | cons r1 r2 => exact .cons r1 (ih r2)
theorem of_each {D : List (DV × V)} : ∀ {us : List Value}, PySem.W.EachIs (fun v b => RelV b.2 v) us D → Vals (D.map (·.2)) us := by
  induction D with
  | nil => intro us r; cases r; exact .nil
  | cons b D ih => intro us r; cases r with | cons r1 r2 => exact .cons r1 (ih r2)
theorem rps_zip {K : PySem.W.Frag} {m : Nat → Addr} {n : Nat} {H : Hp} : ∀ {ds : List DV} {vs : List V}, Rps K fa m n H ds vs → (ds.zip vs).map (·.1) = ds ∧ (ds.zip vs).map (·.2) = vs ∧ ∀ b ∈ ds.zip vs, Rp K fa m n H b.1 b.2
  | _, _, .nil => ⟨rfl, rfl, fun _ h => (nomatch h)⟩
  | d :: ds, v :: vs, .cons a b => by
    obtain ⟨h1, h2, h3⟩ := rps_zip b
    refine ⟨by rw [List.zip_cons_cons, List.map_cons, h1], by rw [List.zip_cons_cons, List.map_cons, h2], fun x hx => ?_⟩
    rcases List.mem_cons.mp hx with rfl | hx
    · exact a
    · exact h3 x hx
theorem rps_of {K : PySem.W.Frag} {m : Nat → Addr} {n : Nat} {H : Hp} : ∀ {D : List (DV × V)}, (∀ b ∈ D, Rp K fa m n H b.1 b.2) → Rps K fa m n H (D.map (·.1)) (D.map (·.2))
  | [], _ => .nil
  | b :: D, h => .cons (h b (.head _)) (rps_of fun x hx => h x (.tail _ hx))
theorem tupNE_toD {h : Hd} {n : Nat} {d : DV} (e : tupNE d = true) : ∃ x r, toD h (n + 1) d = .tuple (x :: r) := by
  unfold tupNE at e
  split at e
  · exact ⟨_, _, rfl⟩
  · cases e
theorem isP3_eq {d : DV} (h : isP3 d = true) : ∃ x y z, d = .tup [.int x, .int y, .int z] := by
  unfold isP3 at h
  split at h
  · exact ⟨_, _, _, rfl⟩
  · cases h
theorem p3_reads {pins : List (Addr × Obj)} {σ : L2.St} {H : Hp} {s : Shared} {m : Nat → Addr} {n : Nat} (I : Inv X pins σ H s) {d : DV} {v : V} {u : Value} (h3 : isP3 d = true) (r : Rp X.K fa m n H d v) (ru : RelV v u) (h : Hd) : Reads s.heap u (toD h 39 d) [] := by
  obtain ⟨x, y, z, rfl⟩ := isP3_eq h3
  cases r with
  | tup ht rs =>
    cases ru
    obtain ⟨its, rv, ⟨o, ho, hc, k, hd⟩, _⟩ := I.tuple ht
    cases rs with
    | cons a1 rs =>
      cases rs with
      | cons a2 rs =>
        cases rs with
        | cons a3 rs =>
          cases rs
          cases a1; cases a2; cases a3
          cases rv with
          | cons b1 rv =>
            cases rv with
            | cons b2 rv =>
              cases rv with
              | cons b3 rv =>
                cases rv
                obtain ⟨t1, rfl⟩ := b1
                obtain ⟨t2, rfl⟩ := b2
                obtain ⟨t3, rfl⟩ := b3
                exact .tuple ho hc hd (.cons (.int _ _) (.cons (.int _ _) (.cons (.int _ _) .nil)))
theorem ents_rps {m : Nat → Addr} {n : Nat} {H : Hp} {ps : List (DV × DV)} {L : List (NestedKey × Addr × V)} (E : Ents X.K fa m n H ps L) : Rps X.K fa m n H (ps.map (·.1)) (L.map fun p => V.ref p.2.1) := by
  induction E with
  | nil => exact .nil
  | cons _ b _ _ ih => exact .cons b ih
theorem vals_refs : ∀ L : List (NestedKey × Addr × V), Vals (L.map fun p => V.ref p.2.1) (L.map fun p => Value.ref p.2.1)
  | [] => .nil
  | p :: L => .cons rfl (vals_refs L)
/-- sorted(dict), keys three ints -/
theorem sorted_dt (hc : X.calm = true) (hu : X.A.units + 64 < cLine) (hw : X.w = fa.w) {pins : List (Addr × Obj)} {σ : L2.St} {H : Hp} {s : Shared} {m : Nat → Addr} {h : Hd} {Q : VK} (I : Inv X pins σ H s) (S : Sim X.K fa m h H) {a : Addr} {ps : List (DV × DV)} {L : List (NestedKey × Addr × V)}
    (g1 : Rd H a (DtO fa.w a L)) (E : Ents X.K fa m h.length H ps L) (h3 : ps.all (fun kv => isP3 kv.1) = true) (q : Ps X.K fa (rV X.K fa) m h.length H (alloc (.lst (srtD h (ps.map (·.1)))) h) Q) :
    wpAny (model X.prog X.w) X.A (call (.builtin "sorted") [.ref a]) (EP X pins σ Q) X.xe s := by
  obtain ⟨lo, hn, xs, D, o, es, ep, hd, hx, hdt, he, _⟩ := dt_is hw I g1 E
  have rs := ents_rps E
  have les : es.size = xs.length := by rw [← Array.length_toList, he, List.length_map]
  have lL : L.length = xs.length := Paired.length D
  refine PySem.Calls.call_function_entry kind_sorted plain_sorted entry_sorted (args_sorted1 _) ?_
  unfold Builtin.«sorted»
  refine wpAny_bind (m := checkCount "sorted" 1 1 _) (wpAny_pure ?_)
  refine wpAny_bind (PySem.W.kdu_collect (A := X.A.in1) (PySem.KdlSrc.rawDict (es := es) (ep := ep) lo) (I.ok.hd hc) ⟨o, hd, hx, hdt⟩ (by rw [les, ← lL]; exact hn) fun h' tk acc hk hacc => ?_)
  -- what is collected
  have ea : acc.toList = L.map fun p => Value.ref p.2.1 := by
    refine List.ext_getElem? fun i => ?_
    by_cases hi : i < acc.size
    · have e1 : acc[i]? = some acc[i] := Array.getElem?_eq_getElem hi
      obtain ⟨hie, e2⟩ := hacc.2 i _ e1
      have hiL : i < L.length := by rw [lL, ← les]; exact hie
      obtain ⟨b, hb, z1, z2, _⟩ := paired_get D (List.getElem?_eq_getElem hiL)
      have e3 : es.toList[i]? = some (entryOfKey (nestedKind X.prog X.w) b) := by
        rw [he, List.getElem?_map, hb]
        rfl
      have e4 : es[i].key = .ref b.2.1 := by
        have : es.toList[i]? = some es[i] := by rw [Array.getElem?_toList]; exact Array.getElem?_eq_getElem hie
        rw [this] at e3
        rw [Option.some.inj e3]
        rfl
      rw [Array.getElem?_toList, e1, e2, e4, List.getElem?_map, List.getElem?_eq_getElem hiL]
      show some (Value.ref b.2.1) = some (Value.ref _)
      rw [z2]
    · rw [Array.getElem?_toList, Array.getElem?_eq_none (by omega), List.getElem?_eq_none (by rw [List.length_map, lL, ← les]; have := hacc.1; omega)]
  have rv : Vals (L.map fun p => V.ref p.2.1) acc.toList := by rw [ea]; exact vals_refs L
  have hz : acc.toList.length ≤ sizeLine := by rw [ea, List.length_map]; exact hn
  obtain ⟨z1, z2, z3⟩ := rps_zip rs
  generalize hDD : (ps.map (·.1)).zip (L.map fun p => V.ref p.2.1) = DD at z1 z2 z3
  rw [← z2] at rv
  have hd3 : ∀ b ∈ DD, isP3 b.1 = true := fun b hb => by
    have : b.1 ∈ ps.map (·.1) := by rw [← z1]; exact List.mem_map.mpr ⟨b, hb, rfl⟩
    obtain ⟨kv, hkv, ek⟩ := List.mem_map.mp this
    rw [← ek]
    exact List.all_eq_true.mp h3 kv hkv
  have ee := each_of (s := s) rv
  have lD : DD.length = L.length := by
    have := congrArg List.length z2
    rw [List.length_map, List.length_map] at this
    exact this
  have I' : Inv X pins σ H { s with heap := h', toks := tk } := I.kept (t' := tk) hk
  refine wpAny_bind (wpAny_newList ?_ hz)
  obtain ⟨hp, ehp⟩ : ∃ hp : Heap, hp = h'.push (seqObj "list" acc.toList.toArray 0) := ⟨_, rfl⟩
  have hoL : hp.get? h'.objs.size = some (seqObj "list" acc.toList.toArray 0) := by rw [ehp]; exact Heap.get?_push_size _ rfl
  have keep : ∀ b ob, s.heap.get? b = some ob → b ≠ h'.objs.size ∧ hp.get? b = some ob := fun b ob e => by
    have hlt := Heap.lt_size (hk b ob e)
    exact ⟨Nat.ne_of_lt hlt, by rw [ehp]; exact Heap.get?_push_of_some _ (hk b ob e)⟩
  show wpAny _ _ _ _ _ { s with heap := h'.push (seqObj "list" acc.toList.toArray 0), toks := tk }
  rw [← ehp]
  have er : PySem.W.EachIs (fun v b => ∃ as, Reads hp v (toD h 39 b.1) as ∧ h'.objs.size ∉ as) acc.toList DD := (PySem.W.each_mem ee).mono fun v b ⟨rb, hb⟩ => ⟨[], PyProof.Rows.Reads.keeps (fun b ob e => (keep b ob e).2) (p3_reads I (hd3 b hb) (z3 b hb) rb h), by simp⟩
  refine wpAny_bind (wpAny_holding (PySem.W.list_sort_data (s := { s with heap := hp, toks := tk }) (enc := fun b : DV × V => toD h 39 b.1) hoL ee er (fun d hd d' hd' => ?_) (.inl fun d hd => ?_) ?_ (fun b hb => ?_) fun out ol eo => ?_))
  · obtain ⟨b, hb, rfl⟩ := List.mem_map.mp hd
    obtain ⟨b', hb', rfl⟩ := List.mem_map.mp hd'
    obtain ⟨x, y, z, e1⟩ := isP3_eq (hd3 b hb)
    obtain ⟨x', y', z', e2⟩ := isP3_eq (hd3 b' hb')
    rw [e1, e2]
    rfl
  · obtain ⟨b, hb, rfl⟩ := List.mem_map.mp hd
    obtain ⟨x, y, z, e1⟩ := isP3_eq (hd3 b hb)
    rw [e1]
    exact ⟨_, _, rfl⟩
  · rw [lD]; exact hn
  · obtain ⟨x, y, z, e1⟩ := isP3_eq (hd3 b hb)
    rw [e1]
    have : (toD h 39 (.tup [.int x, .int y, .int z])).depth ≤ 4 := by simp [toD, PyData.depth, PyData.depthAll]
    show X.A.units + 1 + 1 + (toD h 39 (.tup [.int x, .int y, .int z])).depth < cLine
    omega
  · refine wpAny_pure ⟨_, rfl, ?_⟩
    have ms : (DD.mergeSort (PySem.W.dataLe false fun b : DV × V => toD h 39 b.1)).map (·.1) = srtD h (ps.map (·.1)) := by
      unfold srtD
      rw [← z1]
      exact List.map_mergeSort fun a _ b _ => rfl
    have hv := of_each eo
    obtain ⟨ep2, he2⟩ := PyProof.Rows.sortedHeap_at (vs := acc.toList) (out := out.toArray) hoL
    have pm := List.mergeSort_perm DD (PySem.W.dataLe false fun b : DV × V => toD h 39 b.1)
    have hlen : ((DD.mergeSort (PySem.W.dataLe false fun b : DV × V => toD h 39 b.1)).map (·.2)).length ≤ sizeLine := by
      rw [List.length_map, pm.length_eq, lD]
      exact hn
    refine ⟨.ref h'.objs.size, upd H h'.objs.size (.lst ((DD.mergeSort (PySem.W.dataLe false fun b : DV × V => toD h 39 b.1)).map (·.2))), I'.laid (t' := tk) (fun b ob e => ?_) (Nat.le_refl _) ⟨hlen, out, ep2, hv, he2⟩, rfl, ?_⟩
    · have hlt := Heap.lt_size e
      have k2 : hp.get? b = some ob := by rw [ehp]; exact Heap.get?_push_of_some _ e
      rw [PyProof.Rows.sortedHeap_old (Nat.ne_of_lt hlt) (Heap.lt_size k2)]
      exact k2
    · rw [← ms] at q
      exact ps_lst S (rps_of fun b hb => z3 b (pm.mem_iff.mp hb)) q _ (I'.hok.fresh (Nat.le_refl _))
theorem blt_sorted (hc : X.calm = true) (hu : X.A.units + 64 < cLine) (hw : X.w = fa.w) : CallR X (.builtin "sorted") (rBlt X.K fa .sorted) := by
  intro pins s σ H xs us Q I r ⟨m, h, d, x, ex, S, rd, q⟩
  subst ex
  cases rd <;> first | exact (ps_bad q).elim | skip
  unfold blt at q
  dsimp only at q
  split at q
  · rename_i ds q1
    split at q
    · rename_i ns q3
      obtain ⟨vs, e1, r1⟩ := S.lst q1
      have e := ints_of r1 q3
      subst e
      refine cr_sortedI pins s σ H _ us Q I r ⟨_, ns, rfl, SqL.of e1, fun out p g1 g2 np => ?_⟩
      rw [sortI_uniq g1 g2]
      exact ps_lst S (rps_ints _) q p np
    · split at q
      · rename_i hsr
        unfold srtable at hsr
        rw [Bool.and_eq_true] at hsr
        obtain ⟨hs1, hs2⟩ := hsr
        obtain ⟨vs, e1, r1⟩ := S.lst q1
        obtain ⟨its, rv, hl, hz⟩ := I.list (SqL.of e1)
        obtain ⟨z1, z2, z3⟩ := rps_zip r1
        rw [Vals.ref1 r]
        generalize hD : ds.zip vs = D at z1 z2 z3
        rw [← z2] at rv
        have hdat : ∀ b ∈ D, tupNE b.1 = true ∧ isDat h 39 b.1 = true := fun b hb => by
          have := List.all_eq_true.mp hs1 b.1 (by rw [← z1]; exact List.mem_map.mpr ⟨b, hb, rfl⟩)
          rw [Bool.and_eq_true] at this
          exact this
        have ee := each_of (s := s) rv
        have er : PySem.W.EachIs (fun v b => ∃ as, Reads s.heap v (toD h 39 b.1) as) its D := (PySem.W.each_mem ee).mono fun v b ⟨rb, hb⟩ => Dp.reads I _ _ _ (toD_ok S 39 b.1 b.2 (hdat b hb).2 (z3 b hb)).1 rb
        refine PySem.W.sorted_data (enc := fun b : DV × V => toD h 39 b.1) hl.isList ee er (fun d hd d' hd' => ?_) (.inl fun d hd => ?_) ?_ (fun b hb => ?_) fun out ol eo => ?_
        · obtain ⟨b, hb, rfl⟩ := List.mem_map.mp hd
          obtain ⟨b', hb', rfl⟩ := List.mem_map.mp hd'
          exact List.all_eq_true.mp (List.all_eq_true.mp hs2 b.1 (by rw [← z1]; exact List.mem_map.mpr ⟨b, hb, rfl⟩)) b'.1 (by rw [← z1]; exact List.mem_map.mpr ⟨b', hb', rfl⟩)
        · obtain ⟨b, hb, rfl⟩ := List.mem_map.mp hd
          exact tupNE_toD (hdat b hb).1
        · have : D.length = vs.length := by rw [← z2, List.length_map]
          rw [this]
          exact hz
        · have := (toD_ok S 39 b.1 b.2 (hdat b hb).2 (z3 b hb)).2.2
          show X.A.units + 2 + (toD h 39 b.1).depth < cLine
          omega
        · have ms : (D.mergeSort (PySem.W.dataLe false fun b : DV × V => toD h 39 b.1)).map (·.1) = srtD h ds := by
            unfold srtD
            rw [← z1]
            exact List.map_mergeSort fun a _ b _ => rfl
          have hv := of_each eo
          obtain ⟨ep, he'⟩ := PyProof.Rows.sortedAll_at s.heap its out.toArray
          have pm := List.mergeSort_perm D (PySem.W.dataLe false fun b : DV × V => toD h 39 b.1)
          have hlen : ((D.mergeSort (PySem.W.dataLe false fun b : DV × V => toD h 39 b.1)).map (·.2)).length ≤ sizeLine := by
            rw [List.length_map, pm.length_eq]
            have : D.length = vs.length := by rw [← z2, List.length_map]
            rw [this]
            exact hz
          refine ⟨.ref _, upd H (s.heap.objs.size + 1) (.lst ((D.mergeSort (PySem.W.dataLe false fun b : DV × V => toD h 39 b.1)).map (·.2))), I.laid (t' := s.toks) (fun _ _ => PyProof.Rows.sortedAll_old) (Nat.le_succ _) ⟨hlen, out, ep, hv, he'⟩, rfl, ?_⟩
          rw [← ms] at q
          exact ps_lst S (rps_of fun b hb => z3 b (pm.mem_iff.mp hb)) q _ (I.hok.fresh (Nat.le_succ _))
      · exact (ps_bad q).elim
  · rename_i ps q1
    split at q
    · rename_i h3
      obtain ⟨ad, L, ev, g1, g2⟩ := dt_rd S (Rp.ref (by assumption)) (show dctT (.ref _) h = some ps by unfold dctT; dsimp only; rw [q1])
      cases ev
      rw [Vals.ref1 r]
      exact sorted_dt hc hu hw I S g1 g2 h3 q
    · exact (ps_bad q).elim
  · rename_i ps q1
    split at q
    · rename_i ns q3
      split at q
      · rename_i h64
        obtain ⟨kvs, e1, r1⟩ := S.dct q1
        refine call_sortedDI hc pins s σ H _ us Q I r ⟨_, kvs, ns, rfl, .inl e1, allInts_fst r1 q3, h64, fun out p g1 g2 np => ?_⟩
        rw [sortI_uniq g1 g2]
        exact ps_lst S (rps_ints _) q p np
      · exact (ps_bad q).elim
    · exact (ps_bad q).elim
  · exact (ps_bad q).elim
theorem blt_abs : CallR X (.builtin "abs") (rBlt X.K fa .abs) := by
  intro pins s σ H xs us Q I r ⟨m, h, d, x, ex, S, rd, q⟩
  subst ex
  cases rd <;> first | exact (ps_bad q).elim | skip
  exact call_abs pins s σ H _ us Q I r ⟨_, rfl, ps_same S (.int _) q⟩
theorem blt_int : CallR X (.type "int") (rBlt X.K fa .int) := by
  intro pins s σ H xs us Q I r ⟨m, h, d, x, ex, S, rd, q⟩
  subst ex
  cases rd <;> first | exact (ps_bad q).elim | skip
  exact call_int1 pins s σ H _ us Q I r (.inl ⟨_, rfl, ps_same S (.int _) q⟩)

/-! ### isinstance -/
def tyN : Tyn → String
  | .int => "int" | .bool => "bool" | .str => "str" | .tuple => "tuple"
def rIsi (K : PySem.W.Frag) (fa : Fa) (t : Tyn) : List V → Hp → VK → Prop := fun xs H Q => ∃ m h a b x, xs = [x, .ty (tyN t)] ∧ Sim K fa m h H ∧ Rp K fa m h.length H a x ∧ isTyH h t a = some b ∧ Q (.bl b) H
theorem isi_ok (t : Tyn) : CallR X (.builtin "isinstance") (rIsi X.K fa t) := by
  intro pins s σ H xs us Q I r ⟨m, h, a, b, x, ex, S, ra, e, q⟩
  subst ex
  obtain ⟨u, w', rfl, r1, r2⟩ := vals2 r
  cases r2
  have fin : ∀ tk, EP X pins σ Q (.bool b) { s with toks := tk } := fun tk => ⟨.bl b, H, I.tok tk, rfl, q⟩
  have one : ∀ {T : String}, TyOf X.K H x (.type T) → kitB T (tyN t) = some b → wpAny (model X.prog X.w) X.A (call (.builtin "isinstance") [u, .type (tyN t)]) (EP X pins σ Q) X.xe s := fun {T} ty k =>
    isinst_ok I r1 ty (kit_ty k) fin
  cases ra with
  | non =>
    refine one .non ?_
    cases t <;> cases e <;> decide +kernel
  | bl k =>
    refine one (.bl k) ?_
    cases t <;> cases e <;> decide +kernel
  | int i =>
    refine one (.int i) ?_
    cases t <;> cases e <;> decide +kernel
  | str z =>
    refine one (.str _) ?_
    cases t <;> cases e <;> decide +kernel
  | tup ta rs =>
    obtain ⟨its, rv, ⟨o, h1, h2, _⟩, _⟩ := I.tuple ta
    cases r1
    refine PySem.W.kia_one PySem.W.kitx_tuple I.kIn ⟨o, h1, h2⟩ (kit_ty ?_) (fun z => nomatch z) fin
    cases t <;> cases e <;> decide +kernel
  | ref hk =>
    unfold isTyH at e
    dsimp only at e
    split at e
    · rename_i q1
      cases e
      obtain ⟨vs, e1, _⟩ := S.lst q1
      refine one (.lst e1) ?_
      cases t <;> decide +kernel
    · rename_i q1
      cases e
      obtain ⟨vs, e1, _⟩ := S.dct q1
      refine one (.dK e1) ?_
      cases t <;> decide +kernel
    · cases e
  | fn i => cases t <;> cases e

/-! ### methods of lists -/
def rMth (K : PySem.W.Frag) (fa : Fa) (o : Mth) : V → List V → Hp → VK → Prop := fun x xs H Q => ∃ m h a ds, Sim K fa m h H ∧ Rp K fa m h.length H a x ∧ Rps K fa m h.length H ds xs ∧ Ps K fa (rV K fa) m h.length H (mth o a ds h) Q
theorem mth_append : MtR X "list.append" (rMth X.K fa .append) := by
  intro pins s σ H x xs v us Q I rx rs ⟨m, h, a, ds, S, ra, rd, q⟩
  cases ra <;> first | exact (ps_bad q).elim | skip
  cases rd with
  | nil => exact (ps_bad q).elim
  | cons p t =>
    cases t with
    | cons _ _ => exact (ps_bad q).elim
    | nil =>
      unfold mth at q
      dsimp only at q
      split at q
      · rename_i es q1
        split at q
        · rename_i hl
          obtain ⟨vs, e1, r1⟩ := S.lst q1
          refine mt_append pins s σ H _ _ v us Q I rx rs ⟨_, vs, _, rfl, rfl, e1, ?_, ps_set S q1 e1 (r1.snoc p) .non q⟩
          rw [← r1.length, LN_eq]
          exact hl
        · exact (ps_bad q).elim
      · exact (ps_bad q).elim
theorem mth_extend : MtR X "list.extend" (rMth X.K fa .extend) := by
  intro pins s σ H x xs v us Q I rx rs ⟨m, h, a, ds, S, ra, rd, q⟩
  cases ra <;> first | exact (ps_bad q).elim | skip
  cases rd with
  | nil => exact (ps_bad q).elim
  | cons p t =>
    cases t with
    | cons _ _ => cases p <;> exact (ps_bad q).elim
    | nil =>
      cases p <;> first | exact (ps_bad q).elim | skip
      unfold mth at q
      dsimp only at q
      split at q
      · rename_i es fs q1 q2
        split at q
        · rename_i hl
          obtain ⟨vs, e1, r1⟩ := S.lst q1
          obtain ⟨ws, e2, r2⟩ := S.lst q2
          refine mt_extend pins s σ H _ _ v us Q I rx rs ⟨_, _, vs, ws, rfl, rfl, e1, e2, ?_, ps_set S q1 e1 (r1.append r2) .non q⟩
          rw [← r1.length, ← r2.length, LN_eq]
          exact hl
        · exact (ps_bad q).elim
      · exact (ps_bad q).elim
theorem mth_pop : MtR X "list.pop" (rMth X.K fa .pop) := by
  intro pins s σ H x xs v us Q I rx rs ⟨m, h, a, ds, S, ra, rd, q⟩
  cases ra <;> first | exact (ps_bad q).elim | skip
  cases rd with
  | cons p t => exact (ps_bad q).elim
  | nil =>
    unfold mth at q
    dsimp only at q
    split at q
    · rename_i es q1
      split at q
      · rename_i w q2
        obtain ⟨vs, e1, r1⟩ := S.lst q1
        have q3 : es[es.length - 1]? = some w := by rw [← List.getLast?_eq_getElem?]; exact q2
        obtain ⟨y, g1, g2⟩ := r1.get q3
        rw [r1.length] at g1
        exact mt_pop pins s σ H _ _ v us Q I rx rs ⟨_, vs, y, rfl, rfl, e1, g1, ps_set S q1 e1 r1.dropLast g2 q⟩
      · exact (ps_bad q).elim
    · exact (ps_bad q).elim
end
end Lil
/-! AdqG: dict(..) and update of dicts of tuples. Own work. -/
set_option linter.all false
set_option Elab.async false
set_option maxRecDepth 100000
namespace Lil
open PySem PySem.Spec PyProof.Rows L2

/-! ### hashes that lie apart -/
inductive HTr where | l | n (h : Int) (c : Nat) (a b : HTr)
def ltI : Int → Int → Bool
  | .ofNat a, .ofNat b => Nat.blt a b
  | .negSucc _, .ofNat _ => true
  | .negSucc a, .negSucc b => Nat.blt b a
  | .ofNat _, .negSucc _ => false
def eqI : Int → Int → Bool
  | .ofNat a, .ofNat b => Nat.beq a b
  | .negSucc a, .negSucc b => Nat.beq a b
  | _, _ => false
def HTr.find : HTr → Int → Option Nat
  | .l, _ => none
  | .n h c a b, x => match eqI x h with
    | true => some c
    | false => match ltI x h with
      | true => a.find x
      | false => b.find x
def forceN {α : Type} (n : Nat) (f : Nat → α) : α := match n + 1 with | 0 => f 0 | k + 1 => f k
theorem forceN_eq {α : Type} (n : Nat) (f : Nat → α) : forceN n f = f n := rfl
def forceI {α : Type} (i : Int) (f : Int → α) : α := match i with | .ofNat n => forceN n fun k => f (.ofNat k) | .negSucc n => forceN n fun k => f (.negSucc k)
theorem forceI_eq {α : Type} (i : Int) (f : Int → α) : forceI i f = f i := by cases i <;> rfl
def pT0 : HTr := (.n (-8355667877867963212) 71 (.n (-8761065658173547895) 470 (.n (-8993030111046275205) 139 (.n (-9140639908535163666) 286 (.n (-9146699269868692408) 341 (.n (-9160968616009628824) 276 .l .l) .l) (.n (-9088110770367237784) 510 .l .l)) (.n (-8926960988166338414) 397 (.n (-8978760764905338789) 204 .l .l) (.n (-8862148304766454529) 60 .l .l))) (.n (-8483314757488085044) 234 (.n (-8550113241796947342) 9 (.n (-8580228179051518038) 403 .l .l) (.n (-8497584103629021460) 169 .l .l)) (.n (-8451843688223549827) 417 (.n (-8466861987226653401) 260 .l .l) (.n (-8431815555587099182) 55 .l .l)))) (.n (-8052241305225483411) 175 (.n (-8150851294514201084) 176 (.n (-8338477496398685190) 266 (.n (-8354938516439037705) 94 .l .l) (.n (-8335980180946832725) 109 .l .l)) (.n (-8121571899149081966) 251 (.n (-8124798576029859938) 385 .l .l) (.n (-8104770443393409293) 15 .l .l))) (.n (-7942136584444280538) 358 (.n (-7977475341142928398) 337 (.n (-8043544464022865189) 80 .l .l) (.n (-7956405930585216954) 293 .l .l)) (.n (-7823806182320511195) 136 (.n (-7918886841641473774) 506 .l .l) (.n (-7758037634278588917) 21 .l .l)))))
def pT1 : HTr := (.n (-7119645464833336904) 348 (.n (-7467019284501491951) 378 (.n (-7609324435976155548) 45 (.n (-7639439373230726244) 439 (.n (-7685179788636197877) 191 .l .l) (.n (-7615091472250590649) 326 .l .l)) (.n (-7591841729447783885) 466 (.n (-7595403775329460162) 364 .l .l) (.n (-7532132542739390349) 343 .l .l))) (.n (-7250808254517930442) 132 (.n (-7299810140967063839) 210 (.n (-7312394261037036355) 399 .l .l) (.n (-7262591626861335172) 51 .l .l)) (.n (-7186443949142199202) 67 (.n (-7247581577637152470) 62 .l .l) (.n (-7154984221531984764) 328 .l .l)))) (.n (-6868748030358782985) 236 (.n (-6965661451922215979) 405 (.n (-7036686535322136604) 373 (.n (-7050955881463073020) 308 .l .l) (.n (-6999156104724072645) 501 .l .l)) (.n (-6883746737928644908) 140 (.n (-6935546514667645283) 11 .l .l) (.n (-6883017376499719401) 171 .l .l))) (.n (-6723910769269383131) 268 (.n (-6816948253619782610) 429 (.n (-6837276961094247768) 419 .l .l) (.n (-6787182001859452944) 289 .l .l)) (.n (-6709641423128446715) 333 (.n (-6721413453817530666) 111 .l .l) (.n (-6704223072348252644) 314 .l .l)))))
def pT2 : HTr := (.n (-6078357648911388460) 58 (.n (-6377177960154562755) 274 (.n (-6510231848900557879) 387 (.n (-6588813705552824907) 17 (.n (-6651782285055917598) 471 .l .l) (.n (-6522015221243962609) 242 .l .l)) (.n (-6460429214724856696) 32 (.n (-6470215444504962234) 435 .l .l) (.n (-6440100507250391538) 41 .l .l))) (.n (-6228464761852129386) 298 (.n (-6356849252680097597) 284 (.n (-6362908614013626339) 339 .l .l) (.n (-6245655143321407408) 95 .l .l)) (.n (-6133384102531166807) 0 (.n (-6143170332311272345) 395 .l .l) (.n (-6093367698135571162) 48 .l .l)))) (.n (-5829932175998308635) 497 (.n (-5933531729476309385) 112 (.n (-6012288526031451669) 252 (.n (-6014785841483304134) 409 .l .l) (.n (-5994757708846853489) 47 .l .l)) (.n (-5867462606596372594) 369 (.n (-5898922334206587032) 101 .l .l) (.n (-5852452557372189892) 380 .l .l))) (.n (-5648024899732033113) 53 (.n (-5685243413837761780) 212 (.n (-5766322585941881273) 8 .l .l) (.n (-5668053032368483758) 416 .l .l)) (.n (-5581955776852096322) 247 (.n (-5596225122993032738) 182 .l .l) (.n (-5571877222012897143) 69 .l .l)))))
def pT3 : HTr := (.n (-5076431214595643398) 91 (.n (-5341007920174793869) 384 (.n (-5488918292501696843) 86 (.n (-5505078737704034845) 350 (.n (-5519339834066050389) 440 .l .l) (.n (-5502887063804618746) 457 .l .l)) (.n (-5423805034263798445) 121 (.n (-5437118515762696468) 279 .l .l) (.n (-5384589377594770586) 503 .l .l))) (.n (-5202381526490480551) 431 (.n (-5269180010799342849) 142 (.n (-5320979787538343224) 13 .l .l) (.n (-5254910664658406433) 207 .l .l)) (.n (-5138298204519522173) 63 (.n (-5193684685287862329) 336 .l .l) (.n (-5126526173830438222) 221 .l .l)))) (.n (-4773734003382089104) 172 (.n (-4855648717375660175) 437 (.n (-5007441056387365001) 488 (.n (-5057544265401080697) 463 .l .l) (.n (-4993472285084443098) 116 .l .l)) (.n (-4794062710856554262) 162 (.n (-4825533780121089479) 43 .l .l) (.n (-4779793364715617846) 227 .l .l))) (.n (-4478800971006269103) 49 (.n (-4613898034722827327) 300 (.n (-4666427172890753209) 76 .l .l) (.n (-4562098257983826952) 493 .l .l)) (.n (-4452748252521927957) 195 (.n (-4467017598662864373) 130 .l .l) (.n (-4400948475782927582) 388 .l .l)))))
def pT4 : HTr := (.n (-3905803043203688350) 38 (.n (-4252895879467070535) 371 (.n (-4319694363775932833) 82 (.n (-4363729961677198915) 157 (.n (-4397721798902149610) 254 .l .l) (.n (-4335854808978270835) 346 .l .l)) (.n (-4267894587036932458) 275 (.n (-4284355607077284973) 103 .l .l) (.n (-4267165225608006951) 306 .l .l))) (.n (-4023371367984611003) 24 (.n (-4070676686708459721) 214 (.n (-4215365448869006576) 499 .l .l) (.n (-4033157597764716541) 427 .l .l)) (.n (-3957302245104674212) 217 (.n (-3969074275793758163) 59 .l .l) (.n (-3925850767273380646) 331 .l .l)))) (.n (-3541238842066255281) 147 (.n (-3743169184254559595) 381 (.n (-3888320336675316687) 459 (.n (-3904773106936748330) 441 .l .l) (.n (-3809238307134496386) 123 .l .l)) (.n (-3610569435989853836) 224 (.n (-3656309851395325469) 40 .l .l) (.n (-3578757931009998461) 6 .l .l))) (.n (-3378905557955141039) 118 (.n (-3445403467425988824) 265 (.n (-3461864487466341339) 93 .l .l) (.n (-3392874329258062942) 489 .l .l)) (.n (-3283524323796163947) 192 (.n (-3327105781216140664) 311 .l .l) (.n (-3230995185628238065) 408 .l .l)))))
def pT5 : HTr := (.n (-2838181525392625898) 197 (.n (-3113426860847315412) 422 (.n (-3165226637586315787) 229 (.n (-3194506032951434905) 153 (.n (-3211696414420712927) 14 .l .l) (.n (-3179495983727252203) 164 .l .l)) (.n (-3144897930111850629) 239 (.n (-3159167276252787045) 174 .l .l) (.n (-3115131678351520963) 99 .l .l))) (.n (-3035399425721098635) 258 (.n (-3051860445761451150) 78 (.n (-3083671950741306525) 368 .l .l) (.n (-3046141520143242566) 496 .l .l)) (.n (-2980372972101320288) 317 (.n (-3000060669022450775) 271 .l .l) (.n (-2947531530854524893) 495 .l .l)))) (.n (-2653327859907630399) 277 (.n (-2749163234547896856) 159 (.n (-2798165120997030253) 245 (.n (-2812434467137966669) 180 .l .l) (.n (-2786381748653625523) 390 .l .l)) (.n (-2719096407949552677) 456 (.n (-2736579114477924340) 34 .l .l) (.n (-2705127636646630774) 84 .l .l))) (.n (-2573945255528795585) 377 (.n (-2639058513766693983) 342 (.n (-2640014378408732376) 120 .l .l) (.n (-2580470014265239359) 511 .l .l)) (.n (-2471120008803340364) 205 (.n (-2504614661605197030) 301 .l .l) (.n (-2409534002284234451) 2 .l .l)))))
def pT6 : HTr := (.n (-1811149043375556278) 313 (.n (-2157881852490376654) 307 (.n (-2290935741236371778) 412 (.n (-2354507548664456104) 61 (.n (-2357734225545234076) 131 .l .l) (.n (-2342735517975372153) 219 .l .l)) (.n (-2209681629229377029) 114 (.n (-2253717227130643111) 189 .l .l) (.n (-2163941213823905396) 362 .l .l))) (.n (-1926672114936953222) 149 (.n (-1996002708860551777) 225 (.n (-2128602457125257536) 383 .l .l) (.n (-1944202932121551402) 418 .l .l)) (.n (-1830836740296686765) 267 (.n (-1882636517035687140) 74 .l .l) (.n (-1816567394155750349) 332 .l .l)))) (.n (-1468745196463442657) 30 (.n (-1617157819927861513) 386 (.n (-1778307602128760883) 491 (.n (-1779036963557686390) 460 .l .l) (.n (-1668957596666861888) 193 .l .l)) (.n (-1484103931181866389) 273 (.n (-1579939305822132846) 155 .l .l) (.n (-1469834585040929973) 338 .l .l))) (.n (-1335390732879433020) 297 (.n (-1365806244972018229) 319 (.n (-1369032921852796201) 453 .l .l) (.n (-1355719440353898178) 288 .l .l)) (.n (-1188510296819470066) 128 (.n (-1250396878176590492) 22 .l .l) (.n (-1173511589249608143) 216 .l .l)))))
def pT7 : HTr := (.n (-676369014107069719) 414 (.n (-942577072643820853) 79 (.n (-1070212610609621906) 165 (.n (-1101683679874157123) 46 (.n (-1122012387348622281) 36 .l .l) (.n (-1084493298404879101) 185 .l .l)) (.n (-988657923764612644) 304 (.n (-1038752882999407468) 433 .l .l) (.n (-959378528399493526) 379 .l .l))) (.n (-757448186211189212) 145 (.n (-890047934475894971) 303 (.n (-925386691174542831) 282 .l .l) (.n (-794967275154932392) 4 .l .l)) (.n (-728898152274995601) 198 (.n (-743167498415932017) 133 .l .l) (.n (-711707770805717579) 393 .l .l)))) (.n (-364974961690897203) 400 (.n (-529045779220138179) 374 (.n (-595844263529000477) 85 (.n (-661612811570922755) 264 .l .l) (.n (-543315125361074595) 309 .l .l)) (.n (-491515348622074220) 502 (.n (-526854105320722080) 481 .l .l) (.n (-410715377096368836) 152 .l .l))) (.n (-216270013167384706) 269 (.n (-329636204992249343) 420 (.n (-361107274256784560) 237 .l .l) (.n (-299521267737678647) 26 .l .l)) (.n (-199808993127032191) 449 (.n (-202000667026448290) 334 .l .l) (.n (-196582316246254219) 315 .l .l)))))
def pT8 : HTr := (.n (529344067295497451) 156 (.n (226646856081943157) 75 (.n (-81511306917184031) 487 (.n (-120726963586211890) 105 (.n (-164470236428384331) 462 .l .l) (.n (-85388206887564030) 126 .l .l)) (.n (144732142088372086) 340 (.n (99011318116142104) 161 .l .l) (.n (209845400326270484) 376 .l .l))) (.n (330975770988869414) 492 (.n (273116632916340297) 354 (.n (245533805276505858) 455 .l .l) (.n (279175994249869039) 299 .l .l)) (.n (440325776450768409) 194 (.n (426056430309831993) 129 .l .l) (.n (492854914618694291) 410 .l .l)))) (.n (871399228713370042) 135 (.n (625908803364689415) 305 (.n (544354116519680153) 167 (.n (530073428724422958) 187 .l .l) (.n (600161745110030186) 322 .l .l)) (.n (740979812693759603) 477 (.n (640178149505625831) 370 .l .l) (.n (859615856369965312) 54 .l .l))) (.n (1083835721838199980) 122 (.n (1018722463600301582) 87 (.n (967223261699315720) 330 .l .l) (.n (1028809268218421633) 64 .l .l)) (.n (1198906731167270168) 294 (.n (1087712621808579979) 483 .l .l) (.n (1249591765438404856) 401 .l .l)))))
def pT9 : HTr := (.n (1841213583211245216) 77 (.n (1514168471017555327) 117 (.n (1414757734002269868) 451 (.n (1381114582271560203) 222 (.n (1315045459391623412) 28 .l .l) (.n (1398304963740838225) 425 .l .l)) (.n (1448399922975633049) 296 (.n (1433643720439486085) 446 .l .l) (.n (1493839763543090169) 107 .l .l))) (.n (1713578045245444163) 163 (.n (1563470932304703237) 467 (.n (1540221189501896473) 327 .l .l) (.n (1699297357450186968) 184 .l .l)) (.n (1745037772855658601) 432 (.n (1727847391386380579) 228 .l .l) (.n (1779647168125380954) 421 .l .l)))) (.n (2187946392326065592) 83 (.n (2054892503580070468) 196 (.n (1910203741419523613) 473 (.n (1893013359950245591) 270 .l .l) (.n (1945542498118171473) 494 .l .l)) (.n (2106692280319070843) 389 (.n (2072082885049348490) 392 .l .l) (.n (2143910794424799510) 158 .l .l))) (.n (2292275307232991849) 500 (.n (2254744876634927890) 372 (.n (2189651209830271143) 406 .l .l) (.n (2256936550534343989) 480 .l .l)) (.n (2316330883154033803) 97 (.n (2303017401655135780) 263 .l .l) (.n (2355546539823061662) 479 .l .l)))))
def pT10 : HTr := (.n (2764471571847438830) 382 (.n (2639356801842053255) 188 (.n (2601837712898310075) 39 (.n (2550338510997324213) 218 (.n (2483540026688461915) 1 .l .l) (.n (2583981662728033878) 448 .l .l)) (.n (2619028094367588097) 178 (.n (2602867649165250095) 442 .l .l) (.n (2633297440508524513) 243 .l .l))) (.n (2698402448967502039) 124 (.n (2663063692268854179) 104 (.n (2643375995347723692) 65 .l .l) (.n (2683392399743319337) 113 .l .l)) (.n (2709445118227660483) 323 (.n (2702279348937882038) 485 .l .l) (.n (2732694861030467247) 464 .l .l)))) (.n (3012142329441214777) 396 (.n (2946073206561277986) 138 (.n (2882801973971208173) 160 (.n (2850992547240315407) 509 .l .l) (.n (2928882825091999964) 7 .l .l)) (.n (2966401914035743144) 148 (.n (2960342552702214402) 203 .l .l) (.n (3010437511937009226) 73 .l .l))) (.n (3174475613552329019) 367 (.n (3128735198146857386) 119 (.n (3114766426843935483) 490 .l .l) (.n (3138822002764977437) 88 .l .l)) (.n (3313134723150563520) 154 (.n (3178037659434005296) 469 .l .l) (.n (3342414118515682638) 230 .l .l)))))
def pT11 : HTr := (.n (4003026094496801395) 302 (.n (3721259007448372902) 391 (.n (3524041107119900165) 452 (.n (3424328832509253709) 29 (.n (3394213895254683013) 423 .l .l) (.n (3472241330380899790) 259 .l .l)) (.n (3527267784000678137) 318 (.n (3524770468548825672) 475 .l .l) (.n (3650233924048452277) 351 .l .l))) (.n (3878669046953424493) 320 (.n (3802521369234288523) 240 (.n (3771061641624074085) 35 .l .l) (.n (3854312896194368026) 278 .l .l)) (.n (3982697387022336237) 292 (.n (3947358630323688377) 272 .l .l) (.n (3996966733163272653) 357 .l .l)))) (.n (4246178941566862672) 56 (.n (4164905238126626272) 220 (.n (4098106753817763974) 3 (.n (4020216475966079417) 505 .l .l) (.n (4129566481427978412) 200 .l .l)) (.n (4182095619595904294) 424 (.n (4181065683328964274) 20 .l .l) (.n (4216705014865626647) 413 .l .l))) (.n (4324011845356962542) 325 (.n (4297959126872621396) 115 (.n (4253923528971355314) 190 .l .l) (.n (4299663944376826947) 438 .l .l)) (.n (4347261588159769306) 465 (.n (4343699542278093029) 363 .l .l) (.n (4413030136201691584) 287 .l .l)))))
def pT12 : HTr := (.n (5084635975044027401) 215 (.n (4807685822085132336) 125 (.n (4641465259106663800) 256 (.n (4593552761235017719) 25 (.n (4580968641165045203) 150 .l .l) (.n (4626709056570516836) 398 .l .l)) (.n (4712151022282880392) 443 (.n (4693994397274589682) 472 .l .l) (.n (4753388729894279496) 89 .l .l))) (.n (5003556802939907908) 10 (.n (4819457852774216287) 347 (.n (4811562722055512335) 486 .l .l) (.n (4973441865685337212) 404 .l .l)) (.n (5056085941107833790) 170 (.n (5038895559638555768) 31 .l .l) (.n (5070355287248770206) 235 .l .l)))) (.n (5417088096363590582) 241 (.n (5138607834249202224) 454 (.n (5100121539009099872) 96 (.n (5086808057510201849) 261 .l .l) (.n (5122155063987770581) 428 .l .l)) (.n (5217689863790022525) 110 (.n (5166190661889036663) 353 .l .l) (.n (5385628368753376144) 37 .l .l))) (.n (5468887873102590957) 434 (.n (5437428145492376519) 166 (.n (5423147457697119324) 186 .l .l) (.n (5451697491633312935) 231 .l .l)) (.n (5512923471003857039) 360 (.n (5493235774082726552) 321 .l .l) (.n (5582254064927455594) 283 .l .l)))))
def pT13 : HTr := (.n (6208119488364319778) 27 (.n (5831271741994928706) 415 (.n (5750192569890809213) 146 (.n (5634783203095381476) 507 (.n (5634053841666455969) 476 .l .l) (.n (5744133208557280471) 201 .l .l)) (.n (5778742603827002824) 199 (.n (5764473257686066408) 134 .l .l) (.n (5795932985296280846) 394 .l .l))) (.n (5978594976881860246) 375 (.n (5958266269407395088) 365 (.n (5860745668696164731) 57 .l .l) (.n (5964325630740923830) 310 .l .l)) (.n (5988681781499980297) 344 (.n (5980786650781276345) 482 .l .l) (.n (6040180983400966159) 100 .l .l)))) (.n (6342878194614520453) 181 (.n (6291078417875520078) 52 (.n (6253859903769791411) 211 (.n (6239579215974534216) 232 .l .l) (.n (6256031986235965859) 257 .l .l)) (.n (6307831762974966234) 450 (.n (6305640089075550135) 335 .l .l) (.n (6326717749412182451) 445 .l .l))) (.n (6434024579903518346) 349 (.n (6386913792515786535) 106 (.n (6367226095594656048) 68 .l .l) (.n (6422252549214434395) 127 .l .l)) (.n (6618123530069209967) 12 (.n (6554852297479140154) 33 .l .l) (.n (6669923306808210342) 141 .l .l)))))
def pT14 : HTr := (.n (7512102123340284463) 177 (.n (7083454600231893016) 436 (.n (6780757389018338722) 355 (.n (6736721791117072640) 430 (.n (6690252014282675500) 151 .l .l) (.n (6751477993653219604) 280 .l .l)) (.n (6862672103011909793) 90 (.n (6804007131821145486) 504 .l .l) (.n (6964856339184030343) 18 .l .l))) (.n (7196091430627832146) 262 (.n (7113569537486463712) 42 (.n (7096038720301865532) 248 .l .l) (.n (7127490198133159098) 361 .l .l)) (.n (7248620568795758028) 478 (.n (7196820792056757653) 285 .l .l) (.n (7423083832495555421) 208 .l .l)))) (.n (7744066576213011773) 508 (.n (7619408953831620358) 81 (.n (7595353377910578404) 484 (.n (7541381518705403581) 253 .l .l) (.n (7603248508629282356) 345 .l .l)) (.n (7706547487269268593) 295 (.n (7654747710530268218) 102 .l .l) (.n (7723737868738546615) 498 .l .l))) (.n (7868426630899093470) 213 (.n (7853416581674910768) 202 (.n (7839147235533974352) 137 .l .l) (.n (7854145943103836275) 233 .l .l)) (.n (7904915783575896630) 23 (.n (7888755338373558628) 223 .l .l) (.n (7905945719842836650) 426 .l .l)))))
def pT15 : HTr := (.n (8710605447431167591) 249 (.n (8071111688406701662) 468 (.n (8001480519645088594) 108 (.n (7957444921743822512) 183 (.n (7949981317744102732) 352 .l .l) (.n (7981792822723958107) 70 .l .l)) (.n (8050782980932236504) 458 (.n (8018670901114366616) 312 .l .l) (.n (8067549642525025385) 366 .l .l))) (.n (8417844497521522038) 474 (.n (8334593242951228097) 168 (.n (8284490033937512401) 143 .l .l) (.n (8366044720782521663) 281 .l .l)) (.n (8477238830141211852) 92 (.n (8441900073442563992) 72 .l .l) (.n (8697291965932269568) 407 .l .l)))) (.n (9037650559624857480) 209 (.n (8823971639256032228) 98 (.n (8779936041354766146) 173 (.n (8728136264615765771) 44 .l .l) (.n (8794205387495702562) 238 .l .l)) (.n (8890040762135969019) 356 (.n (8875771415995032603) 291 .l .l) (.n (8958730345506232903) 316 .l .l))) (.n (9140938196610522938) 244 (.n (9074869073730586147) 50 (.n (9074139712301660640) 19 .l .l) (.n (9126668850469586522) 179 .l .l)) (.n (9155948245834705640) 255 (.n (9151016751449722117) 66 .l .l) (.n (9217085874329658908) 324 .l .l)))))
def pTree : HTr := (.n (-180923006689815974) 444 (.n (-4400219114354002075) 411 (.n (-6672110992530382756) 461 (.n (-7691239149969726619) 246 pT0 pT1) (.n (-5540417494402682705) 329 pT2 pT3)) (.n (-2372014913340491271) 144 (.n (-3228497870176385600) 250 pT4 pT5) (.n (-1157351144047270141) 16 pT6 pT7))) (.n (4511638047241446648) 226 (.n (2368130659893034178) 290 (.n (1314316097962697905) 5 pT8 pT9) (.n (3358875138556035153) 402 pT10 pT11)) (.n (6684192652949146758) 206 (.n (5611533460292574712) 359 pT12 pT13) (.n (7941284476541484510) 447 pT14 pT15))))
def ptR : List Int := [-1, 0, 1, 2, 3, 4, 5, 6]
def ptH (x y z : Int) : Int := reduceHash (Builtin.Tuple.tupleHashOf [hashInt x, hashInt y, hashInt z])
def okC (o : Option Nat) (c : Nat) : Bool :=
  match o with
  | some d => Nat.beq d c
  | none => false
def stepF {α : Type} (acc : Nat) (h : Int) (f : Nat → α) : α :=
  forceN ((h % ((2 ^ 64 : Nat) : Int)).toNat) fun l => forceN ((acc + l * 14029467366897019727) % 2 ^ 64) fun a => forceN ((a * 2 ^ 31) % 2 ^ 64 + a / 2 ^ 33) fun b => forceN ((b * 11400714785074694791) % 2 ^ 64) f
def stepG (acc : Nat) (h : Int) : Nat :=
  (((acc + (h % ((2 ^ 64 : Nat) : Int)).toNat * 14029467366897019727) % 2 ^ 64 * 2 ^ 31) % 2 ^ 64 + (acc + (h % ((2 ^ 64 : Nat) : Int)).toNat * 14029467366897019727) % 2 ^ 64 / 2 ^ 33) * 11400714785074694791 % 2 ^ 64
theorem stepF_eq {α : Type} (acc : Nat) (h : Int) (f : Nat → α) : stepF acc h f = f (stepG acc h) := by
  unfold stepF stepG
  rw [forceN_eq, forceN_eq, forceN_eq, forceN_eq]
def endG (c n : Nat) : Int := if ((c + (n ^^^ (2870177450012600261 ^^^ 3527539))) % 2 ^ 64 == 2 ^ 64 - 1) = true then 1546275796 else if (c + (n ^^^ (2870177450012600261 ^^^ 3527539))) % 2 ^ 64 < 2 ^ 63 then ((c + (n ^^^ (2870177450012600261 ^^^ 3527539))) % 2 ^ 64 : Nat) else (((c + (n ^^^ (2870177450012600261 ^^^ 3527539))) % 2 ^ 64 : Nat) : Int) - ((2 ^ 64 : Nat) : Int)
theorem hashA (hs : List Int) : Builtin.Tuple.tupleHashOf hs = endG (hs.foldl stepG 2870177450012600261) hs.length := by
  unfold Builtin.Tuple.tupleHashOf endG
  rfl
theorem hash3 (a b c : Int) : Builtin.Tuple.tupleHashOf [a, b, c] = endG (stepG (stepG (stepG 2870177450012600261 a) b) c) 3 := by
  rw [hashA, List.foldl_cons, List.foldl_cons, List.foldl_cons, List.foldl_nil]
  rfl
def ptF {α : Type} (x y z : Int) (f : Int → α) : α :=
  stepF 2870177450012600261 (hashInt x) fun a => stepF a (hashInt y) fun b => stepF b (hashInt z) fun c => forceI (reduceHash (endG c 3)) f
theorem ptF_eq {α : Type} (x y z : Int) (f : Int → α) : ptF x y z f = f (ptH x y z) := by
  unfold ptF ptH
  rw [stepF_eq, stepF_eq, stepF_eq, forceI_eq, hash3]
def ptOk (x y z : Int) : Bool := ptF x y z fun h => okC (pTree.find h) ((x + 1).toNat * 64 + (y + 1).toNat * 8 + (z + 1).toNat)
theorem ptAll : (ptR.all fun x => ptR.all fun y => ptR.all fun z => ptOk x y z) = true := by decide +kernel
theorem okC_of {o : Option Nat} {c : Nat} (h : okC o c = true) : o = some c := by
  cases o with
  | none => cases h
  | some d => rw [Nat.eq_of_beq_eq_true h]
theorem ptR_mem {x : Int} (h : -1 ≤ x ∧ x ≤ 6) : x ∈ ptR := by
  have : x = -1 ∨ x = 0 ∨ x = 1 ∨ x = 2 ∨ x = 3 ∨ x = 4 ∨ x = 5 ∨ x = 6 := by omega
  unfold ptR
  rcases this with h | h | h | h | h | h | h | h <;> simp [h]
theorem pt_find {x y z : Int} (hx : -1 ≤ x ∧ x ≤ 6) (hy : -1 ≤ y ∧ y ≤ 6) (hz : -1 ≤ z ∧ z ≤ 6) : pTree.find (ptH x y z) = some ((x + 1).toNat * 64 + (y + 1).toNat * 8 + (z + 1).toNat) := by
  have h := List.all_eq_true.mp (List.all_eq_true.mp (List.all_eq_true.mp ptAll x (ptR_mem hx)) y (ptR_mem hy)) z (ptR_mem hz)
  have e : ptOk x y z = okC (pTree.find (ptH x y z)) ((x + 1).toNat * 64 + (y + 1).toNat * 8 + (z + 1).toNat) := ptF_eq x y z _
  rw [e] at h
  exact okC_of h
theorem ptH_inj {x y z x' y' z' : Int} (hx : -1 ≤ x ∧ x ≤ 6) (hy : -1 ≤ y ∧ y ≤ 6) (hz : -1 ≤ z ∧ z ≤ 6) (hx' : -1 ≤ x' ∧ x' ≤ 6) (hy' : -1 ≤ y' ∧ y' ≤ 6) (hz' : -1 ≤ z' ∧ z' ≤ 6) (e : ptH x y z = ptH x' y' z') : x = x' ∧ y = y' ∧ z = z' := by
  have h1 := pt_find hx hy hz
  rw [e, pt_find hx' hy' hz'] at h1
  have h2 := Option.some.inj h1
  omega
theorem isPt_of {k : DV} (h : isPt k = true) : ∃ x y z, k = .tup [.int x, .int y, .int z] ∧ (-1 ≤ x ∧ x ≤ 6) ∧ (-1 ≤ y ∧ y ≤ 6) ∧ (-1 ≤ z ∧ z ≤ 6) := by
  unfold isPt at h
  split at h
  · rename_i x y z
    simp only [Bool.and_eq_true, decide_eq_true_eq] at h
    exact ⟨x, y, z, rfl, h.1.1, h.1.2, h.2⟩
  · cases h
theorem nkh {w : World} {x y z : Int} : (nkOf (.tup [.int x, .int y, .int z])).hash w = ptH x y z := rfl
section
variable {K : PySem.W.Frag} {fa : Fa} {m : Nat → Addr} {n : Nat} {H : Hp}
theorem apart_ok {w : World} {ps : List (DV × DV)} {L : List (NestedKey × Addr × V)} {xs : List (NestedKey × Addr × Value)} (En : Ents K fa m n H ps L) (D : DtL L xs) (ha : apart ps = true) (hn : (xs.map (·.1)).Nodup) : (xs.map fun x => x.1.hash w).Nodup := by
  have key : ∀ x ∈ xs, ∃ a b c, x.1 = nkOf (.tup [.int a, .int b, .int c]) ∧ (-1 ≤ a ∧ a ≤ 6) ∧ (-1 ≤ b ∧ b ≤ 6) ∧ (-1 ≤ c ∧ c ≤ 6) := by
    clear hn
    induction En generalizing xs with
    | nil => cases D; intro x hx; exact nomatch hx
    | cons a b c d ih =>
      cases D with
      | @cons p y _ ys z t =>
        unfold apart at ha
        rw [List.all_cons, Bool.and_eq_true] at ha
        intro x hx
        rcases List.mem_cons.mp hx with e | hx
        · subst e
          obtain ⟨x, y, z', e, h⟩ := isPt_of ha.1
          rw [← z.1]
          dsimp only at e ⊢
          exact ⟨x, y, z', by rw [← e], h⟩
        · exact ih t ha.2 x hx
  clear En D ha
  induction xs with
  | nil => exact List.nodup_nil
  | cons x xs ih =>
    rw [List.map_cons, List.nodup_cons] at hn ⊢
    refine ⟨fun q => hn.1 ?_, ih hn.2 fun y hy => key y (.tail _ hy)⟩
    obtain ⟨y, hy, e⟩ := List.mem_map.mp q
    obtain ⟨a, b, c, e1, h1⟩ := key x (.head _)
    obtain ⟨a', b', c', e2, h2⟩ := key y (.tail _ hy)
    rw [e1, e2, nkh, nkh] at e
    obtain ⟨z1, z2, z3⟩ := ptH_inj h2.1 h2.2.1 h2.2.2 h1.1 h1.2.1 h1.2.2 e
    subst z1 z2 z3
    exact List.mem_map.mpr ⟨y, hy, by rw [e1, e2]⟩
end

/-! ### many puts -/
def mergeL (L M : List (NestedKey × Addr × V)) : List (NestedKey × Addr × V) := M.foldl (fun acc p => putL acc p.1 p.2.1 p.2.2) L
theorem mergeL_len : ∀ (M L : List (NestedKey × Addr × V)), (mergeL L M).length ≤ L.length + M.length
  | [], L => by simp [mergeL]
  | p :: M, L => by
    have h1 := mergeL_len M (putL L p.1 p.2.1 p.2.2)
    have h2 := putL_len L p.1 p.2.1 p.2.2
    show (mergeL (putL L p.1 p.2.1 p.2.2) M).length ≤ _
    rw [List.length_cons]
    omega
theorem dtl_merge {M : List (NestedKey × Addr × V)} {zs : List (NestedKey × Addr × Value)} (D2 : DtL M zs) : ∀ {L : List (NestedKey × Addr × V)} {xs : List (NestedKey × Addr × Value)}, DtL L xs → DtL (mergeL L M) (storedAllH xs zs) := by
  unfold DtL at D2
  induction D2 with
  | nil => intro L xs D; exact D
  | @cons p y l r h t ih =>
    intro L xs D
    show DtL (mergeL (putL L p.1 p.2.1 p.2.2) l) (storedAllH (storedH xs y.1 y.2.1 y.2.2) r)
    refine ih ?_
    rw [h.1, h.2.1]
    exact dtl_put D h.2.2
section
variable {X : Cx} {fa : Fa} {m : Nat → Addr} {n : Nat} {H : Hp}
theorem ents_merge {qs : List (DV × DV)} {M : List (NestedKey × Addr × V)} (E2 : Ents X.K fa m n H qs M) : ∀ {ps : List (DV × DV)} {L : List (NestedKey × Addr × V)}, Ents X.K fa m n H ps L → Ents X.K fa m n H (mergeT ps qs) (mergeL L M) := by
  induction E2 with
  | nil => intro ps L E; exact E
  | @cons k q d v qs M a b c t ih =>
    intro ps L E
    show Ents X.K fa m n H (mergeT (putT ps k d) qs) (mergeL (putL L (nkOf k) q v) M)
    exact ih (ents_put a b c E)
/-- a list of pairs, as entries -/
theorem pairs_ents {pins : List (Addr × Obj)} {σ : L2.St} {s : Shared} (I : Inv X pins σ H s) : ∀ {ds : List DV} {vs : List V} {us : List Value} {ps : List (DV × DV)}, Rps X.K fa m n H ds vs → Vals vs us → pairsT ds = some ps →
    ∃ (Ts : List Addr) (L : List (NestedKey × Addr × V)) (xs : List (NestedKey × Addr × Value)), us = Ts.map Value.ref ∧ Ts.length = xs.length ∧ DtL L xs ∧ Ents X.K fa m n H ps L ∧
      ∀ (j : Nat) (x : NestedKey × Addr × Value), xs[j]? = some x → ∃ T, Ts[j]? = some T ∧ s.heap.IsTuple T #[.ref x.2.1, x.2.2]
  | _, _, _, ps, .nil, rv, e => by
    cases rv
    cases e
    exact ⟨[], [], [], rfl, rfl, .nil, .nil, fun j x q => by simp at q⟩
  | _, _, _, ps, .cons (d := d) (ds := ds) a b, rv, e => by
    cases rv with
    | @cons _ u _ us r1 r2 =>
      unfold pairsT at e
      split at e
      · rename_i q; cases q
      · rename_i k v r q
        cases q
        split at e
        · rename_i hk
          obtain ⟨ps', h1, h2⟩ := Option.map_eq_some_iff.mp e
          subst h2
          obtain ⟨Ts, L, xs, g1, g2, g3, g4, g5⟩ := pairs_ents I b r2 h1
          cases a with
          | @tup _ T _ ht rs =>
            cases rs with
            | cons rk rs =>
              cases rs with
              | cons rvv rs =>
                cases rs
                obtain ⟨qa, rfl⟩ := key_ref rk hk
                cases r1
                obtain ⟨its, rits, htup, _⟩ := I.tuple ht
                obtain ⟨w1, w2, rfl, z1, z2⟩ := Vals.two rits
                cases z1
                refine ⟨T :: Ts, (nkOf k, qa, _) :: L, (nkOf k, qa, w2) :: xs, by rw [g1]; rfl, by rw [List.length_cons, List.length_cons, g2], .cons ⟨rfl, rfl, z2⟩ g3, .cons hk rk rvv g4, fun j x q => ?_⟩
                cases j with
                | zero => cases q; exact ⟨T, rfl, htup⟩
                | succ j => exact g5 j x (by simpa using q)
        · cases e
      · cases e
theorem ents_tuples {pins : List (Addr × Obj)} {σ : L2.St} {s : Shared} (I : Inv X pins σ H s) {ps : List (DV × DV)} {L : List (NestedKey × Addr × V)} {xs : List (NestedKey × Addr × Value)} (En : Ents X.K fa m n H ps L) (D : DtL L xs) : ∀ x ∈ xs, s.TypeIs (.ref x.2.1) "tuple" := fun x hx =>
  nestedKind_stays.tuple (ents_are I En D x hx)
theorem big_ne {pins : List (Addr × Obj)} {σ : L2.St} {s : Shared} (I : Inv X pins σ H s) : (s.heap.objs.size == sysModules) = false := beq_eq_false_iff_ne.mpr (Ne.symm (Nat.ne_of_lt I.big))
/-- dict(..) -/
theorem blt_dictt (hw : X.w = fa.w) (hu : X.A.units + 64 < cLine) (hc : X.calm = true) : CallR X (.type "dict") (rBlt X.K fa .dictt) := by
  intro pins s σ H xs us Q I r ⟨m, h, d, x, ex, S, rd, q⟩
  subst ex
  cases rd <;> first | exact (ps_bad q).elim | skip
  rename_i k hk
  obtain ⟨u, rfl, ru⟩ := Vals.one r
  cases ru
  have copy : ∀ {ps : List (DV × DV)} {L : List (NestedKey × Addr × V)}, Rd H (m k) (DtO fa.w (m k) L) → Ents X.K fa m h.length H ps L → apart ps = true → Ps X.K fa (rV X.K fa) m h.length H (alloc (.dtt ps) h) Q →
      wpAny (model X.prog X.w) X.A (call (.type "dict") [.ref (m k)]) (EP X pins σ Q) X.xe s := fun {ps L} g1 g2 ha q => by
    obtain ⟨h1, h2, xs, D, hd⟩ := dt_is hw I g1 g2
    have hlx : xs.length = L.length := (Paired.length D).symm
    refine call_dict_dictH (room2 hu) h1 hd (ents_tuples I g2 D) (apart_ok g2 D ha hd.nodup) (by rw [hlx]; exact h2) (fun h' hk x hx => ?_) fun h' hd' kp => ?_
    · exact nestedKind_stays.stays (fun b o _ _ e _ => hk b o e) (ents_are I g2 D x hx)
    · have np := I.hok.fresh (Nat.le_refl s.heap.objs.size)
      obtain ⟨x1, S1⟩ := S.new (a := s.heap.objs.size) (o := .dtt ps) (u := DtO fa.w s.heap.objs.size L) np fun x => .dtt upd_same (g2.mono x)
      have z : Rp X.K fa (putA m h.length s.heap.objs.size) (h ++ [DO.dtt ps]).length (upd H s.heap.objs.size (DtO fa.w s.heap.objs.size L)) (.ref h.length) (.ref (putA m h.length s.heap.objs.size h.length)) := .ref (by simp)
      rw [putA_same] at z
      refine ⟨.ref s.heap.objs.size, _, I.laid (t' := s.toks) (o := DtO fa.w s.heap.objs.size L) kp (Nat.le_refl _) ?_, rfl, q _ _ _ x1 S1 z⟩
      rw [← hw]
      exact dt_ok (big_ne I) h2 D hd'
  unfold blt at q
  dsimp only at q
  split at q
  · rename_i ds q1
    split at q
    · rename_i ps q2
      obtain ⟨vs, e1, rs⟩ := S.lst q1
      obtain ⟨its, rv, pl, hz⟩ := I.list (SqL.of e1)
      obtain ⟨Ts, L, xs, g1, g2, g3, g4, g5⟩ := pairs_ents I rs rv q2
      subst g1
      obtain ⟨o, k0, ho, hcl, hdn, hdat⟩ := pl
      have hlx : xs.length = L.length := (Paired.length g3).symm
      have hlv : xs.length = vs.length := by
        have := rv.length
        rw [List.length_map] at this
        omega
      have P := PySem.PairArg.list (prog := X.prog) (w := X.w) (m k) (Ts.map Value.ref).toArray (fun j => Ts.getD j 0) (xs.map fun x => (Value.ref x.2.1, x.2.2))
      refine PySem.call_dict_pairsH (knd := nestedKind X.prog X.w) (ps := xs) P (I.ok.hd hc) (room2 hu) ⟨⟨o, _, ho, hcl, hdn, hdat⟩, ?_, fun j kk v ej => ?_⟩ ⟨by simp, fun i key v hi => ?_⟩ (fun h' hkeep x hx => ?_) (by rw [List.length_map, hlv]; exact hz) fun h' tk hd' kp => ?_
      · simp [g2]
      · rw [List.getElem?_map] at ej
        obtain ⟨x, hx, ex⟩ := Option.map_eq_some_iff.mp ej
        cases ex
        obtain ⟨T, hT, htup⟩ := g5 j x hx
        refine ⟨?_, .inl ?_⟩
        · simp [hT]
        · have eT : Ts.getD j 0 = T := by rw [List.getD_eq_getElem?_getD, hT]; rfl
          show s.heap.IsTuple (Ts.getD j 0) _
          rw [eT]
          exact htup
      · unfold PySem.PairRel at hi
        rw [List.getElem?_map] at hi
        obtain ⟨x, hx, ex⟩ := Option.map_eq_some_iff.mp hi
        cases ex
        exact ⟨x.1, x.2.1, hx, rfl⟩
      · exact nestedKind_stays.stays (fun b o _ _ e _ => hkeep b o (Nat.ne_of_lt (Heap.lt_size e)) (by simp) e) (ents_are I g4 g3 x hx)
      · have np := I.hok.fresh (Nat.le_refl s.heap.objs.size)
        have En := ents_merge g4 (Ents.nil (K := X.K) (fa := fa) (m := m) (n := h.length) (H := H))
        obtain ⟨x1, S1⟩ := S.new (a := s.heap.objs.size) (o := .dtt (mergeT [] ps)) (u := DtO fa.w s.heap.objs.size (mergeL [] L)) np fun x => .dtt upd_same (En.mono x)
        have z : Rp X.K fa (putA m h.length s.heap.objs.size) (h ++ [DO.dtt (mergeT [] ps)]).length (upd H s.heap.objs.size (DtO fa.w s.heap.objs.size (mergeL [] L))) (.ref h.length) (.ref (putA m h.length s.heap.objs.size h.length)) := .ref (by simp)
        rw [putA_same] at z
        refine ⟨.ref s.heap.objs.size, _, I.laid (t' := tk) (o := DtO fa.w s.heap.objs.size (mergeL [] L)) (fun b o e => kp b o (by simp) e) (Nat.le_refl _) ?_, rfl, q _ _ _ x1 S1 z⟩
        rw [← hw]
        refine dt_ok (big_ne I) ?_ (dtl_merge g3 .nil) hd'
        have := mergeL_len L []
        simp only [List.length_nil] at this
        omega
    · exact (ps_bad q).elim
  · rename_i ps q1
    split at q
    · rename_i ha
      obtain ⟨L, e1, r1⟩ := S.dtt q1
      exact copy (.inl e1) r1 ha q
    · exact (ps_bad q).elim
  · rename_i ps q1
    split at q
    · rename_i ha
      obtain ⟨od, L, e1, _, r1⟩ := S.lkt q1
      exact copy (.inr ⟨od, e1⟩) r1 ha q
    · exact (ps_bad q).elim
  · exact (ps_bad q).elim
/-- d.update(d2) -/
theorem mth_update (hw : X.w = fa.w) (hu : X.A.units + 64 < cLine) : MtR X "dict.update" (rMth X.K fa .update) := by
  intro pins s σ H x xs v us Q I rx rs ⟨m, h, a, ds, S, ra, rd, q⟩
  cases ra <;> first | exact (ps_bad q).elim | skip
  rename_i k hk
  cases rd with
  | nil => exact (ps_bad q).elim
  | cons p t =>
    cases t with
    | cons _ _ => cases p <;> exact (ps_bad q).elim
    | nil =>
      cases p <;> first | exact (ps_bad q).elim | skip
      rename_i j hj
      obtain ⟨u, rfl, ru⟩ := Vals.one rs
      cases rx; cases ru
      have go : ∀ {ps qs : List (DV × DV)} {M : List (NestedKey × Addr × V)}, h[k]? = some (.dtt ps) → Rd H (m j) (DtO fa.w (m j) M) → Ents X.K fa m h.length H qs M → k ≠ j → m k ≠ m j → (ps ≠ [] ∨ apart qs = true) → ps.length + qs.length ≤ LN →
          Ps X.K fa (rV X.K fa) m h.length H (.ok .non (h.set k (.dtt (mergeT ps qs)))) Q → wpAny (model X.prog X.w) X.A (call (.builtin "dict.update") [.ref (m k), .ref (m j)]) (EP X pins σ Q) X.xe s := fun {ps qs M} q1 g3 g4 hne hne2 hap hl q => by
        obtain ⟨L, e1, r1⟩ := S.dtt q1
        obtain ⟨h1, h2, xs, D, hd⟩ := dt_is hw I (.inl e1) r1
        obtain ⟨h3, h4, ys, D2, hd2⟩ := dt_is hw I g3 g4
        have l1 : xs.length = ps.length := by rw [ents_len r1]; exact (Paired.length D).symm
        have l2 : ys.length = qs.length := by rw [ents_len g4]; exact (Paired.length D2).symm
        refine call_update_dictH (knd := nestedKind X.prog X.w) (room1 hu) hne2 h3 hd hd2 ?_ (by rw [l1, l2, sizeLine_eq]; unfold LN at hl; omega) fun h' hd' _ hs => ?_
        · rcases hap with z | z
          · refine .inl fun e => z ?_
            rw [e] at l1
            exact List.length_eq_zero_iff.mp l1.symm
          · exact .inr ⟨ents_tuples I g4 D2, apart_ok g4 D2 z hd2.nodup⟩
        · obtain ⟨x1, S1⟩ := S.write (o' := .dtt (mergeT ps qs)) (u' := DtO fa.w (m k) (mergeL L M)) q1 rfl rfl fun x => .dtt upd_same ((ents_merge g4 r1).mono x)
          refine ⟨.non, _, d_write (t' := s.toks) I (by rw [e1]; exact True.intro) hs (let ⟨q, _, _, hq, _⟩ := hd'; ⟨q, hq⟩) ?_, rfl, q m _ .non x1 S1 .non⟩
          rw [← hw]
          refine dt_ok h1 ?_ (dtl_merge D2 D) hd'
          have := mergeL_len M L
          have e1 := ents_len r1
          have e2 := ents_len g4
          rw [sizeLine_eq]
          unfold LN at hl
          omega
      unfold mth at q
      dsimp only at q
      split at q
      · rename_i ps qs q1 q2
        split at q
        · rename_i hc
          obtain ⟨M, e2, r2⟩ := S.dtt q2
          exact go q1 (.inl e2) r2 hc.1 (fun z => hc.1 (S.inj k j _ _ q1 q2 rfl rfl z)) hc.2.1 hc.2.2 q
        · exact (ps_bad q).elim
      · rename_i ps qs q1 q2
        split at q
        · rename_i hc
          obtain ⟨od, M, e2, _, r2⟩ := S.lkt q2
          exact go q1 (.inr ⟨od, e2⟩) r2 hc.1 (fun z => hc.1 (S.inj k j _ _ q1 q2 rfl rfl z)) hc.2.1 hc.2.2 q
        · exact (ps_bad q).elim
      · exact (ps_bad q).elim
end
end Lil
/-! Adq4: expressions. Own work. -/
set_option linter.all false
set_option Elab.async false
set_option maxRecDepth 100000
namespace Lil
open PySem PySem.Spec PyProof.Rows L2

section
variable (K : PySem.W.Frag) (fa : Fa) (F : Nat → List DV → Hd → Res DV)
def tE (e : E) : TE := fun t H Q => ∃ m s h, Sim K fa m h H ∧ Slots K fa m h.length H s t ∧ Ps K fa (rV K fa) m h.length H (ev F e s h) Q
def tT (e : E) : TT := fun t H Q => ∃ m s h, Sim K fa m h H ∧ Slots K fa m h.length H s t ∧ Ps K fa rEq m h.length H ((ev F e s h).bind truR) Q
def tEs (es : Es) : TA := fun t H Q => ∃ m s h, Sim K fa m h H ∧ Slots K fa m h.length H s t ∧ Ps K fa (rVs K fa) m h.length H (evs F es s h) Q
def tOe (o : Oe) : TO := fun t H Q => ∃ m s h, Sim K fa m h H ∧ Slots K fa m h.length H s t ∧ Ps K fa rEq m h.length H (evo F o s h) Q
def tCo (o : Oe) : TT := fun t H Q => ∃ m s h, Sim K fa m h H ∧ Slots K fa m h.length H s t ∧ Ps K fa rEq m h.length H (evc F o s h) Q
end

theorem _root_.L2.PE.mono {X : Cx} {e : Expr} {t t' : TE} (h : PE X e t) (i : ∀ s H Q, t' s H Q → t s H Q) : PE X e t' := ⟨fun pins s σ H Q I q => h.run pins s σ H Q I (i _ _ _ q)⟩
theorem _root_.L2.PT.mono {X : Cx} {e : Expr} {t t' : TT} (h : PT X e t) (i : ∀ s H Q, t' s H Q → t s H Q) : PT X e t' := ⟨fun pins s σ H Q I q => h.run pins s σ H Q I (i _ _ _ q)⟩
theorem _root_.L2.PW.mono {X : Cx} {e : Expr} {t t' : TT} (h : PW X e t) (i : ∀ s H Q, t' s H Q → t s H Q) : PW X e t' := ⟨fun w pins s σ H Q I q => h.run w pins s σ H Q I (i _ _ _ q)⟩
theorem _root_.L2.PA.mono {X : Cx} {e : List Expr} {t t' : TA} (h : PA X e t) (i : ∀ s H Q, t' s H Q → t s H Q) : PA X e t' := ⟨fun w pins s σ H Q I q => h.run w pins s σ H Q I (i _ _ _ q)⟩
theorem _root_.L2.PO.mono {X : Cx} {e : Option Expr} {t t' : TO} (h : PO X e t) (i : ∀ s H Q, t' s H Q → t s H Q) : PO X e t' := ⟨fun pins s σ H Q I q => h.run pins s σ H Q I (i _ _ _ q)⟩
theorem _root_.L2.PTs.mono {X : Cx} {e : List Expr} {t t' : TT} (h : PTs X e t) (i : ∀ s H Q, t' s H Q → t s H Q) : PTs X e t' := ⟨fun pins s σ H Q I q => h.run pins s σ H Q I (i _ _ _ q)⟩
theorem _root_.L2.PI.mono {X : Cx} {tg e : Expr} {t t' : TI} (h : PI X tg e t) (i : ∀ s H Q, t' s H Q → t s H Q) : PI X tg e t' := ⟨fun pins s σ H Q I q => h.run pins s σ H Q I (i _ _ _ q)⟩

section
variable {X : Cx} {fa : Fa} {F : Nat → List DV → Hd → Res DV} {a b c : Expr} {ma mb mc : E} {pos : Pos}

theorem l_lit {e : Expr} {d : DV} {v : V} (h : PE X e (tC v)) (r : ∀ m n H, Rp X.K fa m n H d v) : PE X e (tE X.K fa F (.lit d)) :=
  h.mono fun t H Q ⟨m, s, h, S, L, q⟩ => by
    rw [ev_lit] at q
    exact ps_same S (r _ _ _) q
theorem l_var {e : Expr} {i : Nat} (h : PE X e (tVar i)) : PE X e (tE X.K fa F (.var i)) :=
  h.mono fun t H Q ⟨m, s, h, S, L, q⟩ => by
    rw [ev_var] at q
    split at q
    · rename_i d e
      obtain ⟨v, h1, h2⟩ := L.at_ _ _ e
      exact ⟨v, h1, ps_same S h2 q⟩
    · exact (ps_bad q).elim
theorem l_bin {o : Operator} {o' : Bop} (ho : bopOf o = some o') (ha : PE X a (tE X.K fa F ma)) (hb : PE X b (tE X.K fa F mb)) : PE X (.BinOp a o b pos) (tE X.K fa F (.bin o' ma mb)) :=
  (pe_op (bop_ok (fa := fa) ho) ha hb).mono fun t H Q ⟨m, s, h, S, L, q⟩ => by
    rw [ev_bin] at q
    exact ⟨m, s, h, S, L, (Ps.bind (rel := rV X.K fa) q).imp fun x H1 ⟨a, h1, m1, _, x1, S1, r1, q1⟩ => ⟨m1, s, h1, S1, L.mono x1,
      (Ps.bind (rel := rV X.K fa) q1).imp fun y H2 ⟨b, h2, m2, _, x2, S2, r2, q2⟩ => ⟨m2, h2, a, b, S2, Rp.mono x2 r1, r2, q2⟩⟩⟩
theorem l_neg (ha : PE X a (tE X.K fa F ma)) : PE X (.UnaryOp .USub a pos) (tE X.K fa F (.neg ma)) :=
  (pe_un un_neg ha).mono fun t H Q ⟨m, s, h, S, L, q⟩ => by
    rw [ev_neg] at q
    refine ⟨m, s, h, S, L, (Ps.bind (rel := rV X.K fa) q).imp fun x H1 ⟨a, h1, m1, _, x1, S1, r1, q1⟩ => ?_⟩
    cases r1 <;> first | exact (ps_bad q1).elim | skip
    exact ⟨_, rfl, ps_same S1 (.int _) q1⟩
/-- a value's truth, asked -/
theorem tru_go {m : Nat → Addr} {h : Hd} {H : Hp} {x : DV} {v : V} {K : PySem.W.Frag} {γ δ : Type} {rel : Rel γ δ} {Q : δ → Hp → Prop} {f : Bool → Hd → Res γ} (S : Sim K fa m h H) (r : Rp K fa m h.length H x v)
    (q : Ps K fa rel m h.length H ((truR x h).bind f) Q) : ∃ k, TruV K v H k ∧ tru h x = some k ∧ Ps K fa rel m h.length H (f k h) Q := by
  unfold truR at q
  cases z : tru h x with
  | none => rw [z] at q; exact (ps_bad q).elim
  | some k =>
    rw [z] at q
    exact ⟨k, tru_read S r z, rfl, q⟩
theorem tru_end {m : Nat → Addr} {h : Hd} {H : Hp} {x : DV} {v : V} {K : PySem.W.Frag} {Q : Bool → Hp → Prop} (S : Sim K fa m h H) (r : Rp K fa m h.length H x v)
    (q : Ps K fa rEq m h.length H (truR x h) Q) : ∃ k, TruV K v H k ∧ Q k H := by
  unfold truR at q
  cases z : tru h x with
  | none => rw [z] at q; exact (ps_bad q).elim
  | some k =>
    rw [z] at q
    exact ⟨k, tru_read S r z, q m H k (Xt.refl _ _ _) S rfl⟩
theorem l_nt (ha : PE X a (tE X.K fa F ma)) : PE X (.UnaryOp .Not a pos) (tE X.K fa F (.nt ma)) :=
  (pe_notT ha).mono fun t H Q ⟨m, s, h, S, L, q⟩ => by
    rw [ev_nt] at q
    refine ⟨m, s, h, S, L, (Ps.bind (rel := rV X.K fa) q).imp fun x H1 ⟨a, h1, m1, _, x1, S1, r1, q1⟩ => ?_⟩
    obtain ⟨k, h2, _, q2⟩ := tru_go S1 r1 q1
    exact ⟨k, h2, ps_same S1 (.bl _) q2⟩
theorem cop_go {m : Nat → Addr} {h : Hd} {H : Hp} {o : Cop} {x y : DV} {v u : V} {K : PySem.W.Frag} {Q : VK} (S : Sim K fa m h H) (r : Rp K fa m h.length H x v) (r' : Rp K fa m h.length H y u)
    (q : Ps K fa (rV K fa) m h.length H (litB (cop o x y h) h) Q) : rCop K fa o v u H Q := by
  unfold litB at q
  cases z : cop o x y h with
  | none => rw [z] at q; exact (ps_bad q).elim
  | some k =>
    rw [z] at q
    exact ⟨m, h, x, y, k, S, r, r', z, ps_same S (.bl _) q⟩
theorem l_cmp {o : CmpOp} {o' : Cop} (ho : copOf o = some o') (hw : X.w = fa.w) (hu : X.A.units + 64 < cLine) (hm : behindInMarks o b = false) (ha : PE X a (tE X.K fa F ma)) (hb : PE X b (tE X.K fa F mb)) :
    PE X (.Compare a [o] [b] pos) (tE X.K fa F (.cmp o' ma mb)) :=
  (pe_cmpR (cop_ok (fa := fa) ho hw hu) ha hb hm).mono fun t H Q ⟨m, s, h, S, L, q⟩ => by
    rw [ev_cmp] at q
    exact ⟨m, s, h, S, L, (Ps.bind (rel := rV X.K fa) q).imp fun x H1 ⟨a, h1, m1, _, x1, S1, r1, q1⟩ => ⟨m1, s, h1, S1, L.mono x1,
      (Ps.bind (rel := rV X.K fa) q1).imp fun y H2 ⟨b, h2, m2, _, x2, S2, r2, q2⟩ => cop_go S2 (Rp.mono x2 r1) r2 q2⟩⟩
theorem bl_of {K : PySem.W.Frag} {m : Nat → Addr} {n : Nat} {H : Hp} {b : Bool} {v : V} (r : Rp K fa m n H (.bl b) v) : v = .bl b := by cases r; rfl
theorem l_cmpT {o : CmpOp} {o' : Cop} (ho : copOf o = some o') (hw : X.w = fa.w) (hu : X.A.units + 64 < cLine) (hm : behindInMarks o b = false) (ha : PE X a (tE X.K fa F ma)) (hb : PE X b (tE X.K fa F mb)) :
    PT X (.Compare a [o] [b] pos) (tT X.K fa F (.cmp o' ma mb)) :=
  (pt_cmpR (cop_ok (fa := fa) ho hw hu) ha hb hm).mono fun t H Q ⟨m, s, h, S, L, q⟩ => by
    rw [ev_cmp] at q
    have q0 : Ps X.K fa rEq m h.length H ((ev F ma s h).bind fun x h1 => (ev F mb s h1).bind fun y h2 => (litB (cop o' x y h2) h2).bind truR) Q := by
      cases z : ev F ma s h with
      | ok x h1 =>
        rw [z] at q
        dsimp only [Res.bind] at q ⊢
        cases z2 : ev F mb s h1 with
        | ok y h2 => rw [z2] at q; exact q
        | exc => rw [z2] at q; exact q
        | bad => rw [z2] at q; exact q
      | exc => rw [z] at q; exact q
      | bad => rw [z] at q; exact q
    refine ⟨m, s, h, S, L, (Ps.bind (rel := rV X.K fa) q0).imp fun x H1 ⟨a, h1, m1, _, x1, S1, r1, q1⟩ => ⟨m1, s, h1, S1, L.mono x1,
      (Ps.bind (rel := rV X.K fa) q1).imp fun y H2 ⟨b, h2, m2, _, x2, S2, r2, q2⟩ => ?_⟩⟩
    cases z : cop o' a b h2 with
    | none => rw [z] at q2; exact (ps_bad q2).elim
    | some k =>
      rw [z] at q2
      exact ⟨m2, h2, a, b, k, S2, Rp.mono x2 r1, r2, z, k, rfl, q2 m2 H2 k (Xt.refl _ _ _) S2 rfl⟩
theorem l_chn {o o2 : CmpOp} {o' o2' : Cop} (ho : copOf o = some o') (ho2 : copOf o2 = some o2') (hw : X.w = fa.w) (hu : X.A.units + 64 < cLine) (hm : lastMarks [o, o2] [b, c] = false) (ha : PE X a (tE X.K fa F ma)) (hb : PE X b (tE X.K fa F mb)) (hc : PE X c (tE X.K fa F mc)) :
    PE X (.Compare a [o, o2] [b, c] pos) (tE X.K fa F (.chn o' o2' ma mb mc)) :=
  (pe_chain (cop_ok (fa := fa) ho hw hu) (cop_ok (fa := fa) ho2 hw hu) ha hb hc hm).mono fun t H Q ⟨m, s, h, S, L, q⟩ => by
    rw [ev_chn] at q
    refine ⟨m, s, h, S, L, (Ps.bind (rel := rV X.K fa) q).imp fun x H1 ⟨a, h1, m1, _, x1, S1, r1, q1⟩ => ⟨m1, s, h1, S1, L.mono x1,
      (Ps.bind (rel := rV X.K fa) q1).imp fun y H2 ⟨b, h2, m2, _, x2, S2, r2, q2⟩ => ?_⟩⟩
    cases z : cop o' a b h2 with
    | none => rw [z] at q2; exact (ps_bad q2).elim
    | some k =>
      rw [z] at q2
      refine ⟨m2, h2, a, b, k, S2, Rp.mono x2 r1, r2, z, k, rfl, ?_⟩
      cases k with
      | false => rw [if_neg Bool.false_ne_true]; exact ps_same S2 (.bl _) q2
      | true =>
        rw [if_pos rfl]
        exact ⟨m2, s, h2, S2, (L.mono x1).mono x2, (Ps.bind (rel := rV X.K fa) q2).imp fun w H3 ⟨c, h3, m3, _, x3, S3, r3, q3⟩ => cop_go S3 (Rp.mono x3 r2) r3 q3⟩
theorem l_chnT {o o2 : CmpOp} {o' o2' : Cop} (ho : copOf o = some o') (ho2 : copOf o2 = some o2') (hw : X.w = fa.w) (hu : X.A.units + 64 < cLine) (hm : lastMarks [o, o2] [b, c] = false) (ha : PE X a (tE X.K fa F ma)) (hb : PE X b (tE X.K fa F mb)) (hc : PE X c (tE X.K fa F mc)) :
    PT X (.Compare a [o, o2] [b, c] pos) (tT X.K fa F (.chn o' o2' ma mb mc)) :=
  (pt_chain (cop_ok (fa := fa) ho hw hu) (cop_ok (fa := fa) ho2 hw hu) ha hb hc hm).mono fun t H Q ⟨m, s, h, S, L, q⟩ => by
    rw [ev_chn] at q
    have q0 : Ps X.K fa rEq m h.length H ((ev F ma s h).bind fun x h1 => (ev F mb s h1).bind fun y h2 => (match cop o' x y h2 with
        | some true => (ev F mc s h2).bind fun z h3 => (litB (cop o2' y z h3) h3).bind truR
        | some false => .ok false h2
        | none => .bad)) Q := by
      cases z : ev F ma s h with
      | ok x h1 =>
        rw [z] at q
        dsimp only [Res.bind] at q ⊢
        cases z2 : ev F mb s h1 with
        | ok y h2 =>
          rw [z2] at q
          dsimp only at q ⊢
          cases z3 : cop o' x y h2 with
          | none => rw [z3] at q; exact q
          | some k =>
            rw [z3] at q
            cases k with
            | false => exact q
            | true =>
              dsimp only at q ⊢
              cases z4 : ev F mc s h2 with
              | ok w h3 => rw [z4] at q; exact q
              | exc => rw [z4] at q; exact q
              | bad => rw [z4] at q; exact q
        | exc => rw [z2] at q; exact q
        | bad => rw [z2] at q; exact q
      | exc => rw [z] at q; exact q
      | bad => rw [z] at q; exact q
    refine ⟨m, s, h, S, L, (Ps.bind (rel := rV X.K fa) q0).imp fun x H1 ⟨a, h1, m1, _, x1, S1, r1, q1⟩ => ⟨m1, s, h1, S1, L.mono x1,
      (Ps.bind (rel := rV X.K fa) q1).imp fun y H2 ⟨b, h2, m2, _, x2, S2, r2, q2⟩ => ?_⟩⟩
    cases z : cop o' a b h2 with
    | none => rw [z] at q2; exact (ps_bad q2).elim
    | some k =>
      rw [z] at q2
      refine ⟨m2, h2, a, b, k, S2, Rp.mono x2 r1, r2, z, k, rfl, ?_⟩
      cases k with
      | false => rw [if_neg Bool.false_ne_true]; exact ⟨false, rfl, q2 m2 H2 false (Xt.refl _ _ _) S2 rfl⟩
      | true =>
        rw [if_pos rfl]
        refine ⟨m2, s, h2, S2, (L.mono x1).mono x2, (Ps.bind (rel := rV X.K fa) q2).imp fun w H3 ⟨c, h3, m3, _, x3, S3, r3, q3⟩ => ?_⟩
        cases z5 : cop o2' b c h3 with
        | none => rw [z5] at q3; exact (ps_bad q3).elim
        | some k2 =>
          rw [z5] at q3
          exact ⟨m3, h3, b, c, k2, S3, Rp.mono x3 r2, r3, z5, k2, rfl, q3 m3 H3 k2 (Xt.refl _ _ _) S3 rfl⟩
theorem non_of {K : PySem.W.Frag} {m : Nat → Addr} {n : Nat} {H : Hp} {x : DV} {v : V} (r : Rp K fa m n H x v) : isNon x = decide (v = .non) := by
  cases r <;> simp [isNon]
theorem l_isn {j pos'} (ha : PE X a (tE X.K fa F ma)) : PE X (.Compare a [.Is] [.Constant .none j pos'] pos) (tE X.K fa F (.isn ma)) :=
  (pe_cmp (pc_isN ha)).mono fun t H Q ⟨m, s, h, S, L, q⟩ => by
    rw [ev_isn] at q
    refine ⟨m, s, h, S, L, (Ps.bind (rel := rV X.K fa) q).imp fun x H1 ⟨a, h1, m1, _, x1, S1, r1, q1⟩ => ?_⟩
    rw [non_of r1] at q1
    exact ps_same S1 (.bl _) q1
theorem l_nsn {j pos'} (ha : PE X a (tE X.K fa F ma)) : PE X (.Compare a [.IsNot] [.Constant .none j pos'] pos) (tE X.K fa F (.nsn ma)) :=
  (pe_cmp (pc_notN ha)).mono fun t H Q ⟨m, s, h, S, L, q⟩ => by
    rw [ev_nsn] at q
    refine ⟨m, s, h, S, L, (Ps.bind (rel := rV X.K fa) q).imp fun x H1 ⟨a, h1, m1, _, x1, S1, r1, q1⟩ => ?_⟩
    rw [non_of r1] at q1
    exact ps_same S1 (.bl _) q1
theorem l_isnT {j pos'} (ha : PE X a (tE X.K fa F ma)) : PT X (.Compare a [.Is] [.Constant .none j pos'] pos) (tT X.K fa F (.isn ma)) :=
  (pt_cmp (pc_isN ha)).mono fun t H Q ⟨m, s, h, S, L, q⟩ => by
    rw [ev_isn] at q
    have q0 : Ps X.K fa rEq m h.length H ((ev F ma s h).bind fun x h1 => .ok (isNon x) h1) Q := by
      cases z : ev F ma s h with
      | ok x h1 => rw [z] at q; exact q
      | exc => rw [z] at q; exact q
      | bad => rw [z] at q; exact q
    refine ⟨m, s, h, S, L, (Ps.bind (rel := rV X.K fa) q0).imp fun x H1 ⟨a, h1, m1, _, x1, S1, r1, q1⟩ => ?_⟩
    rw [non_of r1] at q1
    exact ⟨_, rfl, q1 m1 H1 _ (Xt.refl _ _ _) S1 rfl⟩
theorem l_nsnT {j pos'} (ha : PE X a (tE X.K fa F ma)) : PT X (.Compare a [.IsNot] [.Constant .none j pos'] pos) (tT X.K fa F (.nsn ma)) :=
  (pt_cmp (pc_notN ha)).mono fun t H Q ⟨m, s, h, S, L, q⟩ => by
    rw [ev_nsn] at q
    have q0 : Ps X.K fa rEq m h.length H ((ev F ma s h).bind fun x h1 => .ok (!isNon x) h1) Q := by
      cases z : ev F ma s h with
      | ok x h1 => rw [z] at q; exact q
      | exc => rw [z] at q; exact q
      | bad => rw [z] at q; exact q
    refine ⟨m, s, h, S, L, (Ps.bind (rel := rV X.K fa) q0).imp fun x H1 ⟨a, h1, m1, _, x1, S1, r1, q1⟩ => ?_⟩
    rw [non_of r1] at q1
    exact ⟨_, rfl, q1 m1 H1 _ (Xt.refl _ _ _) S1 rfl⟩
/-- any other expression as a test -/
theorem l_tru (ha : PE X a (tE X.K fa F ma)) (he : ∀ whole, isTrue a X.env whole = (do let v ← whole; standAt a.pos; holding [v] (truthy v))) : PT X a (tT X.K fa F ma) :=
  (pt_truth ha he).mono fun t H Q ⟨m, s, h, S, L, q⟩ =>
    ⟨m, s, h, S, L, (Ps.bind (rel := rV X.K fa) q).imp fun x H1 ⟨a, h1, m1, _, x1, S1, r1, q1⟩ => tru_end S1 r1 q1⟩
theorem l_ntT (ha : PT X a (tT X.K fa F ma)) : PT X (.UnaryOp .Not a pos) (tT X.K fa F (.nt ma)) :=
  (pt_not ha).mono fun t H Q ⟨m, s, h, S, L, q⟩ => by
    rw [ev_nt] at q
    refine ⟨m, s, h, S, L, ?_⟩
    cases z : ev F ma s h with
    | ok x h1 =>
      rw [z] at q
      dsimp only [Res.bind] at q ⊢
      cases z2 : truR x h1 with
      | ok k h2 =>
        rw [z2] at q
        exact fun m' H' b xx S' e => by
          have eb : b = k := e
          subst eb
          exact q m' H' (!b) xx S' rfl
      | exc => rw [z2] at q; exact q
      | bad => rw [z2] at q; exact q
    | exc => rw [z] at q; exact q
    | bad => rw [z] at q; exact q
theorem l_and1 {rest : List Expr} (ha : PE X a (tE X.K fa F ma)) (hb : PE X (.BoolOp .And (b :: rest) pos) (tE X.K fa F mb)) : PE X (.BoolOp .And (a :: b :: rest) pos) (tE X.K fa F (.and ma mb)) :=
  (pe_andT ha hb).mono fun t H Q ⟨m, s, h, S, L, q⟩ => by
    rw [ev_and] at q
    refine ⟨m, s, h, S, L, (Ps.bind (rel := rV X.K fa) q).imp fun x H1 ⟨a, h1, m1, _, x1, S1, r1, q1⟩ => ?_⟩
    obtain ⟨k, h2, _, q2⟩ := tru_go S1 r1 q1
    refine ⟨k, h2, ?_⟩
    cases k with
    | true => rw [if_pos rfl]; exact ⟨m1, s, h1, S1, L.mono x1, q2⟩
    | false => rw [if_neg Bool.false_ne_true]; exact ps_same S1 r1 q2
theorem l_or1 {rest : List Expr} (ha : PE X a (tE X.K fa F ma)) (hb : PE X (.BoolOp .Or (b :: rest) pos) (tE X.K fa F mb)) : PE X (.BoolOp .Or (a :: b :: rest) pos) (tE X.K fa F (.or ma mb)) :=
  (pe_orT ha hb).mono fun t H Q ⟨m, s, h, S, L, q⟩ => by
    rw [ev_or] at q
    refine ⟨m, s, h, S, L, (Ps.bind (rel := rV X.K fa) q).imp fun x H1 ⟨a, h1, m1, _, x1, S1, r1, q1⟩ => ?_⟩
    obtain ⟨k, h2, _, q2⟩ := tru_go S1 r1 q1
    refine ⟨k, h2, ?_⟩
    cases k with
    | true => rw [if_pos rfl]; exact ps_same S1 r1 q2
    | false => rw [if_neg Bool.false_ne_true]; exact ⟨m1, s, h1, S1, L.mono x1, q2⟩
/-- .. as tests -/
theorem and_test {x : Res DV} {f : Hd → Res DV} {K : PySem.W.Frag} {m : Nat → Addr} {n : Nat} {H : Hp} {Q : Bool → Hp → Prop}
    (q : Ps K fa rEq m n H ((x.bind fun a h1 => (truR a h1).bind fun t h2 => if t then f h2 else .ok a h2).bind truR) Q) :
    Ps K fa rEq m n H ((x.bind truR).bind fun t h2 => if t then (f h2).bind truR else .ok false h2) Q := by
  cases x with
  | ok a h1 =>
    dsimp only [Res.bind] at q ⊢
    cases z : truR a h1 with
    | ok k h2 =>
      rw [z] at q
      obtain ⟨e1, e2⟩ := truR_ok z
      cases k with
      | true => exact q
      | false =>
        dsimp only at q ⊢
        simp only [Bool.false_eq_true, if_false] at q ⊢
        subst e1
        rw [z] at q
        exact q
    | exc => rw [z] at q; exact q
    | bad => rw [z] at q; exact q
  | exc => exact q
  | bad => exact q
theorem or_test {x : Res DV} {f : Hd → Res DV} {K : PySem.W.Frag} {m : Nat → Addr} {n : Nat} {H : Hp} {Q : Bool → Hp → Prop}
    (q : Ps K fa rEq m n H ((x.bind fun a h1 => (truR a h1).bind fun t h2 => if t then .ok a h2 else f h2).bind truR) Q) :
    Ps K fa rEq m n H ((x.bind truR).bind fun t h2 => if t then .ok true h2 else (f h2).bind truR) Q := by
  cases x with
  | ok a h1 =>
    dsimp only [Res.bind] at q ⊢
    cases z : truR a h1 with
    | ok k h2 =>
      rw [z] at q
      obtain ⟨e1, e2⟩ := truR_ok z
      cases k with
      | false => exact q
      | true =>
        dsimp only at q ⊢
        simp only [if_true] at q ⊢
        subst e1
        rw [z] at q
        exact q
    | exc => rw [z] at q; exact q
    | bad => rw [z] at q; exact q
  | exc => exact q
  | bad => exact q
theorem l_andT {rest : List Expr} (ha : PT X a (tT X.K fa F ma)) (hb : PW X (.BoolOp .And (b :: rest) pos) (tT X.K fa F mb)) : PW X (.BoolOp .And (a :: b :: rest) pos) (tT X.K fa F (.and ma mb)) :=
  (pw_and ha hb).mono fun t H Q ⟨m, s, h, S, L, q⟩ => by
    rw [ev_and] at q
    refine ⟨m, s, h, S, L, (Ps.bind (rel := rEq) (and_test q)).imp fun k H1 ⟨a, h1, m1, _, x1, S1, r1, q1⟩ => ?_⟩
    have e : k = a := r1
    subst e
    cases k with
    | true => rw [if_pos rfl]; exact ⟨m1, s, h1, S1, L.mono x1, q1⟩
    | false => rw [if_neg Bool.false_ne_true]; exact q1 m1 H1 false (Xt.refl _ _ _) S1 rfl
theorem l_orT {rest : List Expr} (ha : PT X a (tT X.K fa F ma)) (hb : PW X (.BoolOp .Or (b :: rest) pos) (tT X.K fa F mb)) : PW X (.BoolOp .Or (a :: b :: rest) pos) (tT X.K fa F (.or ma mb)) :=
  (pw_or ha hb).mono fun t H Q ⟨m, s, h, S, L, q⟩ => by
    rw [ev_or] at q
    refine ⟨m, s, h, S, L, (Ps.bind (rel := rEq) (or_test q)).imp fun k H1 ⟨a, h1, m1, _, x1, S1, r1, q1⟩ => ?_⟩
    have e : k = a := r1
    subst e
    cases k with
    | true => rw [if_pos rfl]; exact q1 m1 H1 true (Xt.refl _ _ _) S1 rfl
    | false => rw [if_neg Bool.false_ne_true]; exact ⟨m1, s, h1, S1, L.mono x1, q1⟩
theorem assoc_tru {x : Res DV} {f : Bool → Hd → Res DV} : (x.bind fun a h1 => (truR a h1).bind f) = (x.bind truR).bind f := by
  cases x <;> rfl
theorem l_ife (hc : PT X c (tT X.K fa F mc)) (ha : PE X a (tE X.K fa F ma)) (hb : PE X b (tE X.K fa F mb)) : PE X (.IfExp c a b pos) (tE X.K fa F (.ife mc ma mb)) :=
  (pe_ifExp hc ha hb).mono fun t H Q ⟨m, s, h, S, L, q⟩ => by
    rw [ev_ife, assoc_tru] at q
    refine ⟨m, s, h, S, L, (Ps.bind (rel := rEq) q).imp fun k H1 ⟨a, h1, m1, _, x1, S1, r1, q1⟩ => ?_⟩
    have e : k = a := r1
    subst e
    cases k with
    | true => rw [if_pos rfl]; exact ⟨m1, s, h1, S1, L.mono x1, q1⟩
    | false => rw [if_neg Bool.false_ne_true]; exact ⟨m1, s, h1, S1, L.mono x1, q1⟩

/-! ### lists of expressions -/
theorem star_eq {e : Expr} {es : List Expr} {env : Env} (h : isStar e = false) : starEach (e :: es) env = (false, eval e env) :: starEach es env := by
  cases e <;> first | rfl | cases h
theorem la_nil : PA X [] (tEs X.K fa F .nil) :=
  pa_nil.mono fun t H Q ⟨m, s, h, S, L, q⟩ => by
    rw [evs_nil] at q
    exact q m H [] (Xt.refl _ _ _) S .nil
theorem la_cons {e : Expr} {es : List Expr} {me : E} {mes : Es} (hs : isStar e = false) (ha : PE X e (tE X.K fa F me)) (hb : PA X es (tEs X.K fa F mes)) : PA X (e :: es) (tEs X.K fa F (.cons me mes)) :=
  (pa_cons ha hb (star_eq hs)).mono fun t H Q ⟨m, s, h, S, L, q⟩ => by
    rw [evs_cons] at q
    exact ⟨m, s, h, S, L, (Ps.bind (rel := rV X.K fa) q).imp fun x H1 ⟨a, h1, m1, _, x1, S1, r1, q1⟩ => ⟨m1, s, h1, S1, L.mono x1,
      (Ps.bind (rel := rVs X.K fa) q1).imp fun y H2 ⟨b, h2, m2, _, x2, S2, r2, q2⟩ => q2 m2 H2 _ (Xt.refl _ _ _) S2 (.cons (Rp.mono x2 r1) r2)⟩⟩
theorem l_tup {es : List Expr} {mes : Es} {k : Nat} (ha : PA X es (tEs X.K fa F mes)) : PE X (.Tuple es k pos) (tE X.K fa F (.tup mes)) :=
  (pe_tup ha).mono fun t H Q ⟨m, s, h, S, L, q⟩ => by
    rw [ev_tup] at q
    refine ⟨m, s, h, S, L, (Ps.bind (rel := rVs X.K fa) q).imp fun x H1 ⟨a, h1, m1, _, x1, S1, r1, q1⟩ => ?_⟩
    unfold mkTup at q1
    split at q1
    · rename_i hl
      exact ⟨by rw [← Rps.length r1, LN_eq]; exact hl, ps_tup S1 r1 q1⟩
    · exact (ps_bad q1).elim
theorem l_lst {es : List Expr} {mes : Es} (ha : PA X es (tEs X.K fa F mes)) : PE X (.List es pos) (tE X.K fa F (.lst mes)) :=
  (pe_lst ha).mono fun t H Q ⟨m, s, h, S, L, q⟩ => by
    rw [ev_lst] at q
    refine ⟨m, s, h, S, L, (Ps.bind (rel := rVs X.K fa) q).imp fun x H1 ⟨a, h1, m1, _, x1, S1, r1, q1⟩ => ?_⟩
    unfold mkLst at q1
    split at q1
    · rename_i hl
      exact ⟨by rw [← Rps.length r1, LN_eq]; exact hl, ps_lst S1 r1 q1⟩
    · exact (ps_bad q1).elim
theorem l_dnw : PE X (.Dict [] [] pos) (tE X.K fa F .dnw) :=
  pe_dnewK.mono fun t H Q ⟨m, s, h, S, L, q⟩ => by
    rw [ev_dnw] at q
    exact ps_dnw S q
theorem l_dnt (hw : X.w = fa.w) : PE X (.Dict [] [] pos) (tE X.K fa F .dnt) := by
  refine ⟨fun pins s σ H Q I h => ?_⟩
  obtain ⟨m, sl, hd, S, L, q⟩ := h
  rw [ev_dnt] at q
  have np := I.hok.fresh (Nat.le_refl s.heap.objs.size)
  obtain ⟨x1, S1⟩ := S.new (a := s.heap.objs.size) (o := .dtt []) (u := DtO fa.w s.heap.objs.size []) np fun x => .dtt upd_same .nil
  have z : Rp X.K fa (putA m hd.length s.heap.objs.size) (hd ++ [DO.dtt []]).length (upd H s.heap.objs.size (DtO fa.w s.heap.objs.size [])) (.ref hd.length) (.ref (putA m hd.length s.heap.objs.size hd.length)) := .ref (by simp)
  rw [putA_same] at z
  refine wpAny_Dict_empty ⟨.ref s.heap.objs.size, _, I.laid (a := s.heap.objs.size) (o := DtO fa.w s.heap.objs.size []) (t' := s.toks) (fun _ _ q => Heap.get?_push_of_some _ q) (Nat.le_refl _) ?_, rfl, q _ _ _ x1 S1 z⟩
  rw [← hw]
  exact dt_ok (xs := []) (big_ne I) (Nat.zero_le _) .nil (Heap.DictOfH.new s.heap)
/-- {k: v}, k a tuple -/
theorem l_ds1 {k v : Expr} {mk mv : E} (hw : X.w = fa.w) (hu : X.A.units + 64 < cLine) (hk : PE X k (tE X.K fa F mk)) (hv : PE X v (tE X.K fa F mv)) : PE X (.Dict [some k] [v] pos) (tE X.K fa F (.ds1 true mk mv)) := by
  refine ⟨fun pins s σ H Q I h => ?_⟩
  obtain ⟨m, sl, hd, S, L, q⟩ := h
  rw [ev_ds1] at q
  simp only [if_true] at q
  have np := I.hok.fresh (Nat.le_refl s.heap.objs.size)
  obtain ⟨x1, S1⟩ := S.new (a := s.heap.objs.size) (o := .dtt []) (u := DtO fa.w s.heap.objs.size []) np fun x => .dtt upd_same .nil
  generalize em : putA m hd.length s.heap.objs.size = m1 at x1 S1
  have em1 : m1 hd.length = s.heap.objs.size := by rw [← em]; exact putA_same
  have l1 : hd.length < (hd ++ [DO.dtt []]).length := by simp
  have I1 : Inv X pins σ (upd H s.heap.objs.size (DtO fa.w s.heap.objs.size [])) { s with heap := s.heap.push { cls := .type "dict", data := .dict #[] } } := by
    refine I.laid (a := s.heap.objs.size) (o := DtO fa.w s.heap.objs.size []) (t' := s.toks) (fun _ _ q => Heap.get?_push_of_some _ q) (Nat.le_refl _) ?_
    rw [← hw]
    exact dt_ok (xs := []) (big_ne I) (Nat.zero_le _) .nil (Heap.DictOfH.new s.heap)
  have hr : (nestedKind X.prog X.w).room X.A := by show X.A.units + 8 < cLine; omega
  rw [arm_eval_Dict, zip_pairTrees [some k] [v] X.env pos rfl rfl, dictDisplay_pairs (pairTrees [some k] [v] X.env pos) (by simp [pairTrees]) (by simp [pairTrees])]
  refine wpAny_bind (wpAny_standAt (wpAny_bind (wpAny_subDictH (knd := nestedKind X.prog X.w) (Q := fun d s' => wpAny (model X.prog X.w) X.A (pure (Value.ref d)) (EP X pins σ Q) X.xe s') hr (by simp [pairTrees]) ?_)))
  refine pairTrees_cons_walk (thn (hk.run pins _ σ _ _ I1 ⟨m1, sl, _, S1, L.mono x1, Ps.bind (rel := rV X.K fa) (q.later x1)⟩) fun u s1 ⟨x, H1, I2, r1, dk, h1, m2, _, x2, S2, rx, q1⟩ => ?_)
  refine thn (hv.run pins s1 σ H1 _ I2 ⟨m2, sl, h1, S2, (L.mono x1).mono x2, Ps.bind (rel := rV X.K fa) q1⟩) fun w s2 ⟨y, H2, I3, r2, dv, h2, m3, _, x3, S3, ry, q2⟩ => ?_
  refine pairTrees_nil_walk ?_
  have e3 : m3 hd.length = s.heap.objs.size := by rw [(x2.trans x3).eq _ l1, em1]
  split at q2
  · rename_i z0
    split at q2
    · rename_i hkk
      simp only [Bool.true_and] at hkk
      obtain ⟨L0, g1, g2⟩ := S3.dtt z0
      cases g2
      rw [e3] at g1
      obtain ⟨qa, eqa⟩ := key_ref rx hkk
      subst eqa
      cases r1
      obtain ⟨h1', h2', xs, D, hdd⟩ := dt_is hw I3 (.inl g1) (.nil (K := X.K) (fa := fa) (m := m3) (n := h2.length) (H := H2))
      cases D
      have rk := Rp.mono x3 rx
      refine ⟨[(nkOf dk, qa, w)], ⟨rfl, rfl, key_is I3 rk hkk, True.intro⟩, hdd, fun h' tk hd' hs => wpAny_pure ?_⟩
      have hw2 : H2 s.heap.objs.size = some (DtO fa.w s.heap.objs.size []) := g1
      obtain ⟨x4, S4⟩ := S3.write (o' := .dtt [(dk, dv)]) (u' := DtO fa.w s.heap.objs.size [(nkOf dk, qa, y)]) z0 rfl rfl fun x => by
        rw [e3] at x ⊢
        exact .dtt upd_same (.cons hkk (rk.mono x) (ry.mono x) .nil)
      rw [e3] at x4 S4
      have zr : Rp X.K fa m3 (h2.set hd.length (.dtt [(dk, dv)])).length (upd H2 s.heap.objs.size (DtO fa.w s.heap.objs.size [(nkOf dk, qa, y)])) (.ref hd.length) (.ref (m3 hd.length)) := .ref (by
        rw [List.length_set]
        exact Nat.lt_of_lt_of_le l1 (x2.trans x3).le)
      rw [e3] at zr
      refine ⟨.ref s.heap.objs.size, _, d_write (t' := tk) I3 (by rw [hw2]; exact True.intro) hs (let ⟨q, _, _, hq, _⟩ := hd'; ⟨q, hq⟩) ?_, rfl, q2 _ _ _ x4 S4 zr⟩
      rw [← hw]
      exact dt_ok (xs := [(nkOf dk, qa, w)]) h1' (by show 1 ≤ sizeLine; decide) (.cons ⟨rfl, rfl, r2⟩ .nil) hd'
    · exact (ps_bad q2).elim
  · exact (ps_bad q2).elim

/-! ### subscripts -/
theorem plain_ix {i : Expr} (h : isSlice i = false) : PlainIx i := by
  intro o j
  cases i <;> first | rfl | cases h
theorem l_idx {i : Expr} {mi : E} (hw : X.w = fa.w) (hu : X.A.units + 64 < cLine) (hs : isSlice i = false) (ha : PE X a (tE X.K fa F ma)) (hb : PE X i (tE X.K fa F mi)) : PE X (.Subscript a i pos) (tE X.K fa F (.idx ma mi)) :=
  (pe_ix (idx_ok (fa := fa) hw hu) ha hb (plain_ix hs)).mono fun t H Q ⟨m, s, h, S, L, q⟩ => by
    rw [ev_idx] at q
    refine ⟨m, s, h, S, L, (Ps.bind (rel := rV X.K fa) q).imp fun x H1 ⟨a, h1, m1, _, x1, S1, r1, q1⟩ => ⟨m1, s, h1, S1, L.mono x1,
      (Ps.bind (rel := rV X.K fa) q1).imp fun y H2 ⟨b, h2, m2, _, x2, S2, r2, q2⟩ => ?_⟩⟩
    unfold ofO at q2
    cases z : index a b h2 with
    | none => rw [z] at q2; exact (ps_bad q2).elim
    | some d =>
      rw [z] at q2
      exact ⟨m2, h2, a, b, d, S2, Rp.mono x2 r1, r2, z, fun v rv => ps_same S2 rv q2⟩
theorem lo_no : PO X none (tOe X.K fa F .no) :=
  po_none.mono fun t H Q ⟨m, s, h, S, L, q⟩ => by
    rw [evo_no] at q
    exact q m H none (Xt.refl _ _ _) S rfl
theorem lo_so (ha : PE X a (tE X.K fa F ma)) : PO X (some a) (tOe X.K fa F (.so ma)) :=
  (po_some ha).mono fun t H Q ⟨m, s, h, S, L, q⟩ => by
    rw [evo_so] at q
    refine ⟨m, s, h, S, L, (Ps.bind (rel := rV X.K fa) q).imp fun x H1 ⟨a, h1, m1, _, x1, S1, r1, q1⟩ => ?_⟩
    cases r1 <;> first | exact (ps_bad q1).elim | skip
    exact ⟨_, rfl, q1 m1 H1 _ (Xt.refl _ _ _) S1 rfl⟩
theorem l_slc {lo hi : Option Expr} {ml mh : Oe} {p2 : Pos} (ha : PE X a (tE X.K fa F ma)) (hl : PO X lo (tOe X.K fa F ml)) (hh : PO X hi (tOe X.K fa F mh)) :
    PE X (.Subscript a (.Slice lo hi none p2) pos) (tE X.K fa F (.slc ma ml mh)) :=
  (pe_slice (slc_ok (fa := fa)) ha hl hh).mono fun t H Q ⟨m, s, h, S, L, q⟩ => by
    rw [ev_slc] at q
    refine ⟨m, s, h, S, L, (Ps.bind (rel := rV X.K fa) q).imp fun x H1 ⟨a, h1, m1, _, x1, S1, r1, q1⟩ => ⟨m1, s, h1, S1, L.mono x1,
      (Ps.bind (rel := rEq) q1).imp fun l H2 ⟨l', h2, m2, _, x2, S2, r2, q2⟩ => ⟨m2, s, h2, S2, (L.mono x1).mono x2, (Ps.bind (rel := rEq) q2).imp fun u H3 ⟨u', h3, m3, _, x3, S3, r3, q3⟩ => ?_⟩⟩⟩
    have e1 : l = l' := r2
    have e2 : u = u' := r3
    subst e1; subst e2
    exact ⟨m3, h3, a, S3, Rp.mono x3 (Rp.mono x2 r1), q3⟩
theorem l_rev {k : Nat} {p1 p2 p3 : Pos} (ha : PE X a (tE X.K fa F ma)) : PE X (.Subscript a (.Slice none none (some (.UnaryOp .USub (.Constant (.int 1) k p1) p2)) p3) pos) (tE X.K fa F (.rev ma)) :=
  (pe_revA ha).mono fun t H Q ⟨m, s, h, S, L, q⟩ => by
    rw [ev_rev] at q
    refine ⟨m, s, h, S, L, (Ps.bind (rel := rV X.K fa) q).imp fun x H1 ⟨a, h1, m1, _, x1, S1, r1, q1⟩ => ?_⟩
    cases r1 with
    | tup ta rs => exact .inr ⟨_, _, rfl, ta, ps_tup S1 rs.reverse q1⟩
    | ref hk =>
      dsimp only at q1
      split at q1
      · rename_i q2
        obtain ⟨vs, e1, r2⟩ := S1.lst q2
        exact .inl ⟨_, vs, rfl, SqL.of e1, ps_lst S1 r2.reverse q1⟩
      · exact (ps_bad q1).elim
    | non => exact (ps_bad q1).elim
    | bl => exact (ps_bad q1).elim
    | int => exact (ps_bad q1).elim
    | str => exact (ps_bad q1).elim
    | fn => exact (ps_bad q1).elim
end
end Lil
/-! Adq5: calls, star displays, steps, methods. Own work. -/
set_option linter.all false
set_option Elab.async false
set_option maxRecDepth 100000
namespace Lil
open PySem PySem.Spec PyProof.Rows L2

section
variable {X : Cx} {fa : Fa} {F : Nat → List DV → Hd → Res DV} {a b c : Expr} {ma mb mc : E} {pos : Pos}

theorem la_star {e : Expr} {es : List Expr} {me : E} {mes : Es} {p : Pos} (ha : PE X e (tE X.K fa F me)) (hb : PA X es (tEs X.K fa F mes)) : PA X (.Starred e p :: es) (tEs X.K fa F (.str me mes)) := by
  refine ⟨fun pos pins s σ H Q I h => ?_⟩
  obtain ⟨m, sl, hd, S, L, q⟩ := h
  rw [evs_str] at q
  refine PySem.W.items_star (thn (ha.run pins s σ H _ I ⟨m, sl, hd, S, L, Ps.bind (rel := rV X.K fa) q⟩) fun v s1 ⟨x, H1, I1, r1, a, h1, m1, _, x1, S1, rx, q1⟩ => ?_)
  cases z : seqOf h1 a with
  | none => rw [z] at q1; exact (ps_bad q1).elim
  | some ds =>
    rw [z] at q1
    obtain ⟨ad, vs, ex, hsq, rs, _, _⟩ := seq_of S1 rx z
    subst ex
    cases r1
    refine StX.star_any I1 hsq.symm fun us s2 I2 rus => ?_
    exact thn (hb.run pos pins s2 σ H1 _ I2 ⟨m1, sl, h1, S1, L.mono x1, Ps.bind (rel := rVs X.K fa) q1⟩) fun ws s3 ⟨ys, H2, I3, r3, b, h2, m2, _, x2, S2, r2, q2⟩ =>
      ⟨vs ++ ys, H2, I3, rus.append r3, q2 m2 H2 _ (Xt.refl _ _ _) S2 ((Rps.mono x2 rs).append r2)⟩

/-! ### xs[::2], xs[1::2] -/
theorem evens_range : ∀ l : List α, (List.range ((l.length + 1) / 2)).filterMap (fun k => l[2 * k]?) = evens l
  | [] => by simp [evens]
  | [x] => by simp [List.range_succ, evens]
  | x :: y :: r => by
    have ih := evens_range r
    have e : ((x :: y :: r).length + 1) / 2 = (r.length + 1) / 2 + 1 := by simp only [List.length_cons]; omega
    rw [e, List.range_succ_eq_map, List.filterMap_cons, List.filterMap_map]
    have e2 : ((fun k => (x :: y :: r)[2 * k]?) ∘ Nat.succ) = fun k => r[2 * k]? := by
      funext k
      show (x :: y :: r)[2 * (k + 1)]? = r[2 * k]?
      rw [show 2 * (k + 1) = 2 * k + 1 + 1 by omega]
      simp
    rw [e2, ih]
    rfl
theorem range2 (a n : Nat) (h : a ≤ n) : sliceRange (a : Int) (n : Int) 2 = (List.range ((n - a + 1) / 2)).map fun k => a + 2 * k := by
  unfold sliceRange
  have h2 : ((2 : Int) > 0) := by decide
  simp only [h2, if_true]
  have e : ((if (a : Int) < (n : Int) then ((n : Int) - (a : Int) + 2 - 1) / 2 else 0 : Int)).toNat = (n - a + 1) / 2 := by
    split <;> omega
  rw [e]
  apply List.map_congr_left
  intro k _
  omega
theorem pick2_at (items : Array Value) (k j : Nat) : items[min k items.size + 2 * j]? = (items.toList.drop k)[2 * j]? := by
  rw [List.getElem?_drop, Array.getElem?_toList]
  by_cases h : k ≤ items.size
  · rw [Nat.min_eq_left h]
  · rw [Nat.min_eq_right (by omega), Array.getElem?_eq_none (by omega), Array.getElem?_eq_none (by omega)]
theorem pick2 (items : Array Value) (lo : Option Int) (k : Nat) (hk : (lo = none ∧ k = 0) ∨ (lo = some 1 ∧ k = 1)) : slicePick items lo none (some 2) = (evens (items.toList.drop k)).toArray := by
  unfold slicePick
  have eb : sliceBounds lo none (some 2) items.size = (((min k items.size : Nat) : Int), ((items.size : Nat) : Int), 2) := by
    have h2 : ((2 : Int) > 0) := by decide
    rcases hk with ⟨rfl, rfl⟩ | ⟨rfl, rfl⟩
    · simp [sliceBounds]
    · simp only [sliceBounds, Option.getD_some, h2, if_true]
      refine Prod.ext ?_ rfl
      simp
      omega
  rw [eb]
  show ((sliceRange ((min k items.size : Nat) : Int) ((items.size : Nat) : Int) 2).filterMap (items[·]?)).toArray = _
  rw [range2 _ _ (Nat.min_le_right _ _), List.filterMap_map]
  have e3 := evens_range (items.toList.drop k)
  rw [← e3]
  congr 1
  have el : (items.toList.drop k).length = items.size - min k items.size := by
    rw [List.length_drop, Array.length_toList]
    omega
  rw [el]
  have fc : ∀ (l : List Nat), l.filterMap ((items[·]?) ∘ fun j => min k items.size + 2 * j) = l.filterMap (fun j => (items.toList.drop k)[2 * j]?) := fun l => by
    congr 1
    funext j
    exact pick2_at items k j
  exact fc _
theorem vals_evens : ∀ {vs : List V} {us : List Value}, Vals vs us → Vals (evens vs) (evens us)
  | _, _, .nil => .nil
  | _, _, .cons a .nil => .cons a .nil
  | _, _, .cons a (.cons _ r) => .cons a (vals_evens r)
theorem l_stp {lo : Option Expr} {ol : Option Int} {k i2 : Nat} {p2 p3 : Pos} (ha : PE X a (tE X.K fa F ma))
    (hlo : ∀ pins s σ H, Inv X pins σ H s → wpAny (model X.prog X.w) X.A (evalPart lo X.env) (fun u s' => Inv X pins σ H s' ∧ IsPart u ol) X.xe s) (hk : (ol = none ∧ k = 0) ∨ (ol = some 1 ∧ k = 1))
    (hpl : ∀ o i, subscripted (.Slice lo none (some (.Constant (.int 2) i2 p2)) p3) false o i = operate [o, i] (getItem o i)) :
    PE X (.Subscript a (.Slice lo none (some (.Constant (.int 2) i2 p2)) p3) pos) (tE X.K fa F (.stp ma k)) := by
  refine ⟨fun pins s σ H Q I h => ?_⟩
  obtain ⟨m, sl, hd, S, L, q⟩ := h
  rw [ev_stp] at q
  refine Subscript_ (thn (ha.run pins s σ H _ I ⟨m, sl, hd, S, L, Ps.bind (rel := rV X.K fa) q⟩) fun v s1 ⟨x, H1, I1, r1, d, h1, m1, _, x1, S1, rx, q1⟩ => ?_)
  cases rx <;> first | exact (ps_bad q1).elim | skip
  dsimp only at q1
  split at q1
  · rename_i ds q2
    obtain ⟨xs, e1, rs⟩ := S1.lst q2
    cases r1
    have hst : PO X (some (.Constant (.int 2) i2 p2)) (tPart (tC (.int 2))) := po_some pe_int
    refine wpAny_Slice (thn (hlo pins s1 σ H1 I1) fun vl s2 ⟨I2, pl⟩ => ?_)
    refine thn (po_none.run pins s2 σ H1 (fun o H3 => o = none ∧ H3 = H1) I2 ⟨rfl, rfl⟩) fun vu s3 ⟨u, H3, I3, pu, eu, e3⟩ => ?_
    subst eu e3
    refine thn (hst.run pins s3 σ H3 (fun o H4 => o = some 2 ∧ H4 = H3) I3 ⟨2, rfl, rfl, rfl⟩) fun vs s4 ⟨o, H4, I4, ps, eo, e4⟩ => ?_
    subst eo e4
    have I5 : Inv X pins σ H4 { s4 with heap := s4.heap.push { cls := .type "slice", data := .fields #[vl, vu, vs] } } := I4.kept (t' := s4.toks) fun b ob q => Heap.get?_push_of_some _ q
    obtain ⟨its, r, ht, hz⟩ := I5.list (SqL.of e1)
    have hlen := r.length
    refine tail_any (ops := [_, .ref s4.heap.objs.size]) ht.isList.typeIs (PySem.slot_list_getitem.lookup) ?_ (hpl _ _)
    refine wpAny_getItem_list_slice ht.isList (Heap.IsSliceOf.new _ vl vu vs) pl pu ps (by decide) ?_ (by rw [List.size_toArray]; omega)
    rw [pick2 _ ol k hk]
    have rv : Vals (evens (xs.drop k)) (evens (its.drop k)) := by
      exact vals_evens (r.drop k)
    have hz2 : (evens (xs.drop k)).length ≤ sizeLine := by
      have : ∀ l : List V, (evens l).length ≤ l.length := fun l => by
        induction l using evens.induct with
        | case1 => simp [evens]
        | case2 => simp [evens]
        | case3 x y r ih => simp only [evens, List.length_cons]; omega
      have z1 := this (xs.drop k)
      rw [List.length_drop] at z1
      omega
    refine ⟨.ref _, _, I5.laid (t' := s4.toks) (o := .lst (evens (xs.drop k))) (fun b ob q => Heap.get?_push_of_some _ q) (Nat.le_refl _) ?_, rfl, ps_lst S1 ((rs.drop k).evens) q1 _ (I5.hok.fresh (Nat.le_refl _))⟩
    exact ⟨hz2, _, 0, rv, Heap.get?_push_size _ rfl⟩
  · exact (ps_bad q1).elim
end
end Lil
/-! AdqI: enumerate of tuples, walks over dicts of tuples (locked while they are walked). Own work. -/
set_option linter.all false
set_option Elab.async false
set_option maxRecDepth 100000
namespace Lil
open PySem PySem.Spec PyProof.Rows L2

set_option maxHeartbeats 1000000 in
theorem enum_new1 {v : Value} {o : Obj} {H : Heap → Prop} (B : Begins v o H) :
    Meets (Builtin.«enumerate.__new__» ⟨[.type "enumerate", v], []⟩) (fun _ R s => H s.heap ∧
      R (.ok (.ret (.ref (s.heap.push o).objs.size))) { s with heap := (s.heap.push o).push { cls := .type "enumerate", data := .fields #[.none, .bool false, .ref s.heap.objs.size, rawInt 0, .none, .none] } }) :=
  .of_wp fun prog w A R s h => by
    obtain ⟨hp, g, d, tk, os⟩ := s; obtain ⟨h1, h⟩ := h
    have hsub := sub_enumerate
    have q1 : ∀ {A' : Around} {E : Value → Shared → Prop} {Q : Value → Shared → Prop}, Q (.ref hp.objs.size) ⟨hp.push o, g, d, tk, os⟩ → wpAny (model prog w) A' (pyIter v) Q E ⟨hp, g, d, tk, os⟩ :=
      fun q => B.iter prog w _ _ ⟨hp, g, d, tk, os⟩ _ h1 q
    wp_walk using q1
    refine wpAny_stack_any fun st => wpAny_pure ?_
    split
    · rename_i c _ _ _ _ _
      cases (c == Value.type "enumerate")
      · wp_walk using q1
        exact ⟨_, rfl, h⟩
      · wp_walk using q1
        exact ⟨_, rfl, h⟩
    · wp_walk using q1
      exact ⟨_, rfl, h⟩
theorem enum_begins1 {prog : Program} {w : World} {A : Around} {E : Value → Shared → Prop} {s : Shared} {v : Value} {o : Obj} {H : Heap → Prop} {Q : Value → Shared → Prop} (B : Begins v o H) (h1 : H s.heap)
    (h : ∀ h', IsEnum h' (s.heap.objs.size + 1) s.heap.objs.size 0 .none → h'.get? s.heap.objs.size = some o → h'.objs.size = s.heap.objs.size + 2 →
      (∀ b o, s.heap.get? b = some o → h'.get? b = some o) → Q (.ref (s.heap.objs.size + 1)) { s with heap := h' }) :
    wpAny (model prog w) A (call (.type "enumerate") [v]) Q E s := by
  refine callType_new F.called_enumerate (by decide) (F.typeCall_enumerate_1 _) (F.newCall_enumerate_1 _) (fun obj => F.args_object_init_2 obj _) F.entry_enumerate_new
    (enum_new1 B) ⟨h1, ?_⟩
  have hz : (s.heap.push o).objs.size = s.heap.objs.size + 1 := Heap.size_push ..
  show _ ∧ _
  rw [hz]
  have he : IsEnum ((s.heap.push o).push { cls := .type "enumerate", data := .fields #[.none, .bool false, .ref s.heap.objs.size, rawInt 0, .none, .none] }) (s.heap.objs.size + 1) s.heap.objs.size 0 .none := by
    have := Heap.get?_push_size (s.heap.push o) (o := { cls := .type "enumerate", data := .fields #[.none, .bool false, .ref s.heap.objs.size, rawInt 0, .none, .none] }) rfl
    rw [hz] at this; exact this
  refine ⟨⟨_, he, rfl⟩, h _ he (Heap.get?_push_of_some _ (Heap.get?_push_size _ B.free)) (by rw [Heap.size_push, hz]) fun b o x => Heap.get?_push_of_some _ (Heap.get?_push_of_some _ x)⟩

/-- the tuple's items, each in a new pair -/
def IteT (K : PySem.W.Frag) (a : Addr) (xs : List V) : L2.It :=
  ⟨fun i H => SqT K H a xs ∧ i < xs.length, fun i H v H' => ∃ T x, v = .ref T ∧ H T = none ∧ H' = upd H T (.tup [.int (i : Nat), x]) ∧ xs[i]? = some x, fun i H => SqT K H a xs ∧ xs.length ≤ i⟩
theorem tup_ne_it {h : Heap} {a it : Addr} {i : Nat} {items : Array Value} (ht : h.IsTuple a items) (hit : h.IsTupleIter it a i) : a ≠ it := by
  intro e
  subst e
  obtain ⟨o, h1, _, n, h2⟩ := ht
  obtain ⟨o', h3, _, h4⟩ := hit
  rw [h1] at h3
  cases h3
  rw [h2] at h4
  cases h4
theorem turn_enumT {P : Program} {w : World} {K : PySem.W.Frag} {elts : List Expr} {kk : Nat} {tpos : Pos} (a e it : Addr) (xs : List V) :
    Turn P w K (.Tuple elts kk tpos) (IteT K a xs) [e, it] e (fun i h => (∃ old, IsEnum h e it ((i : Nat) : Int) old) ∧ h.IsTupleIter it a i ∧ e ≠ it) where
  mem := by simp
  obj := fun i h st b hb => by
    obtain ⟨⟨old, he⟩, ⟨o, ho, hc, hd⟩, _⟩ := st
    have e' : b = e ∨ b = it := by simpa using hb
    rcases e' with z | z
    · rw [z]; exact ⟨_, he, fun v q => nomatch q⟩
    · rw [z]; exact ⟨o, ho, fun v q => by rw [hd] at q; cases q⟩
  keep := fun i h h' st k => let ⟨⟨old, he⟩, hi, hne⟩ := st; ⟨⟨old, k e (by simp) _ he⟩, hi.at fun o q => k it (by simp) o q, hne⟩
  item := by
    intro X hP hw hK hc i pins s σ H E I hf st hg
    subst hP hw hK
    obtain ⟨⟨old, he⟩, hit, hne⟩ := st
    obtain ⟨hq, hlt⟩ := hg
    obtain ⟨its, rv, p, hz⟩ := I.tuple hq
    have hai : a ≠ it := tup_ne_it p hit
    have hae : e ≠ a := by
      intro z
      subst z
      obtain ⟨o, h1, _, n, h2⟩ := p
      have he' : s.heap.get? e = some _ := he
      rw [h1] at he'
      cases he'
      cases h2
    have hl := rv.length
    have hel : e < s.heap.objs.size := Heap.lt_size he
    have hil : it < s.heap.objs.size := by obtain ⟨_, q, _⟩ := hit; exact Heap.lt_size q
    have hh : X.A.in1.handled = none := I.ok.hd hc
    refine wpAny_pyNext_enum_itemD (Draws.tuple (prog := X.prog) (w := X.w) hh it a hai its.toArray) he ⟨hit, p⟩ (by simp; omega) hne (by simp [hne, hae]) fun x h' tk hP ho hst' hT hsz hk => ?_
    refine ⟨_, rfl, wpAny_letOwnedTupleGo_enum (s := { s with heap := h', toks := tk + 1 }) ho fun h'' he' sb => ?_⟩
    have hT2 : h''.get? s.heap.objs.size = some { cls := .type "tuple", data := .seq #[.int i tk, x] } := (sb.2 _ (Nat.ne_of_gt hel)).trans hT
    obtain ⟨v, hv⟩ : ∃ v, xs[i]? = some v := ⟨xs[i], List.getElem?_eq_getElem hlt⟩
    obtain ⟨u, hu, ru⟩ := rv.get hv
    have ex : x = u := by
      have hP' : its.toArray[i]? = some x := hP
      rw [List.getElem?_toArray, hu] at hP'
      exact (Option.some.inj hP').symm
    subst ex
    have new : ObjOk X.prog X.w (upd H s.heap.objs.size (.tup [.int (i : Nat), v])) h'' s.heap.objs.size (.tup [.int (i : Nat), v]) :=
      ⟨by show 2 ≤ sizeLine; decide, [.int i tk, x], .cons ⟨_, rfl⟩ (.cons ru .nil), ⟨_, hT2, rfl, _, rfl⟩⟩
    have I1 : Inv X pins σ (upd H s.heap.objs.size (.tup [.int (i : Nat), v])) { s with heap := h'', toks := tk + 1 } :=
      I.turnedNew (ch := [e, it]) (fun b ob hb q => (sb.2 b (fun z => hb (by simp [z]))).trans (hk b ob (fun z => hb (by simp [z])) (fun z => hb (by simp [z])) q)) hf (Nat.le_refl _) new
    refine ⟨.ref s.heap.objs.size, _, I1, rfl, ⟨_, v, rfl, I.hok.fresh (Nat.le_refl _), rfl, hv⟩, ⟨⟨x, ?_⟩, hst'.1.at fun o q => (sb.2 it (Ne.symm hne)).trans q, hne⟩, fun b hb => ?_⟩
    · have e1 : ((i + 1 : Nat) : Int) = (i : Int) + 1 := by omega
      rw [e1]; exact he'
    · have hb' : b < s.heap.objs.size := by
        have e' : b = e ∨ b = it := by simpa using hb
        rcases e' with z | z
        · rw [z]; exact hel
        · rw [z]; exact hil
      rw [upd_ne (Nat.ne_of_lt hb')]
      exact (hf b hb).1
  done := by
    intro X hP hw hK hc i pins s σ H E I hf st hg
    subst hP hw hK
    obtain ⟨⟨old, he⟩, hit, hne⟩ := st
    obtain ⟨hq, hle⟩ := hg
    obtain ⟨its, rv, p, hz⟩ := I.tuple hq
    have hai : a ≠ it := tup_ne_it p hit
    obtain ⟨f0, f1, f2, f3, f4, f5⟩ := hf it (by simp)
    have hl := rv.length
    have hT : s.TypeIs (.ref e) "enumerate" := ⟨_, he, rfl⟩
    unfold pyNext
    refine wpAny_bind (wpAny_attempt (wpAny_callSpecial?_slot (name := Str.ofString "__next__") hT F.slot_enumerate_next
      (wpAny_call_entry F.slot_enumerate_next hT F.entry_enumerate_next ?_ (F.args_enumerate_next_1 _))))
    show wpAny _ _ (field (.ref e) 2 >>= _) _ _ _
    refine wpAny_bind (wpAny_field he rfl (x := .ref it) rfl ?_)
    refine wpAny_bind (wpAny_nextOf_tuple_end (I.ok.hd hc) hit p (by simp; omega) fun h' x he' hx' => ?_)
    obtain ⟨o, ho, hc'⟩ := hx'
    refine wpAny_bind (wpAny_isInstance (T := "StopIteration") (b := true) ⟨o, ho, hc'⟩ isSubtype_stop ?_)
    exact wpAny_pure ⟨rfl, I.turned (t' := s.toks) (fun b o hb q => he' b o hb q) f0 f1 f3 f4 f5⟩
  self := fun A i s Q E st h => let ⟨⟨_, he⟩, _⟩ := st; wpAny_pyIter_enum he h
def iEnumA (K : PySem.W.Frag) (ta : TA) : TI := fun σ H R => ta σ H fun vs H1 => ∃ a xs, vs = [.ref a] ∧ ((SqL K H1 a xs ∧ R (Ite K a) H1) ∨ (SqT K H1 a xs ∧ R (IteT K a xs) H1))
theorem pi_enumA {X : Cx} {e : Expr} {ta : TA} {p pos tpos : Pos} {elts : List Expr} {kk : Nat} (hg : Gl X "enumerate") (hm : X.mg "enumerate" = none) (ha : PA X [e] ta) (hs : starEach [e] X.env = [(false, eval e X.env)] := by rfl) :
    PI X (.Tuple elts kk tpos) (.Call (.Name "enumerate" p) [e] [] pos) (iEnumA X.K ta) := by
  refine ⟨fun pins s σ H R I h => ?_⟩
  refine Call_ (ld_blt I hg hm boot_enumerate (PyProof.Rows.callWith_type1 (thn (ha.run pos pins s σ H _ I h) fun us s1 ⟨vs, H1, I1, r1, q1⟩ => ?_) hs rfl))
  obtain ⟨a, xs, ex, q⟩ := q1
  subst ex
  have fresh2 : ∀ b, b ∈ [s1.heap.objs.size + 1, s1.heap.objs.size] → FpOk X pins H1 b := fun b hb => by
    have e' : b = s1.heap.objs.size + 1 ∨ b = s1.heap.objs.size := by simpa using hb
    have hle : s1.heap.objs.size ≤ b := by
      rcases e' with z | z
      · rw [z]; exact Nat.le_add_right _ _
      · rw [z]; exact Nat.le_refl _
    exact I1.fpOk hle (I1.hok.fresh hle)
  cases r1 with
  | cons r rr =>
    cases rr
    cases r
    rcases q with ⟨hq, q⟩ | ⟨hq, q⟩
    · obtain ⟨its, rv, p', hz⟩ := I1.list hq
      refine call_enumerate_list p'.isList fun h' he hit hsz hk => wpAny_pyIter_enum he ?_
      have I2 : Inv X pins σ H1 { s1 with heap := h' } := I1.kept (t' := s1.toks) hk
      exact ⟨s1.heap.objs.size + 1, [s1.heap.objs.size + 1, s1.heap.objs.size], _, _, H1, rfl, I2, turn_enum a (s1.heap.objs.size + 1) s1.heap.objs.size, ⟨⟨.none, he⟩, hit, Nat.succ_ne_self _⟩, fresh2, q⟩
    · obtain ⟨its, rv, p', hz⟩ := I1.tuple hq
      refine enum_begins1 (begins_tuple a its.toArray) p' fun h' he hit hsz hk => wpAny_pyIter_enum he ?_
      have I2 : Inv X pins σ H1 { s1 with heap := h' } := I1.kept (t' := s1.toks) hk
      exact ⟨s1.heap.objs.size + 1, [s1.heap.objs.size + 1, s1.heap.objs.size], _, _, H1, rfl, I2, turn_enumT a (s1.heap.objs.size + 1) s1.heap.objs.size xs, ⟨⟨.none, he⟩, ⟨_, hit, rfl, rfl⟩, Nat.succ_ne_self _⟩, fresh2, q⟩

/-! ### the keys of a locked dict of tuples -/
section
variable {X : Cx} {pins : List (Addr × Obj)} {σ : L2.St} {H : Hp} {s : Shared} {d : Addr} {o : Obj} {w : World} {L : List (NestedKey × Addr × V)}
theorem frzD (I : Inv X pins σ H s) (h : H d = some (.frz o (DtO w d L))) :
    (d == sysModules) = false ∧ s.heap.get? d = some o ∧ o.ExactDict ∧ ∃ (es : Array DictEntry) (ep : Nat), o.data = .dict es ep ∧ es.size = L.length ∧
      ∀ (i : Nat) (p : NestedKey × Addr × V), L[i]? = some p → ∃ (en : DictEntry), es[i]? = some en ∧ en.key = .ref p.2.1 := by
  obtain ⟨hd, ⟨h1, h2, xs, o', es, ep, D, ho, hx, hdt, he, _⟩, _⟩ := I.hok d _ h
  rw [hd] at ho
  cases ho
  refine ⟨h1, hd, hx, es, ep, hdt, ?_, fun i p e => ?_⟩
  · have l1 : es.size = xs.length := by rw [← Array.length_toList, he, List.length_map]
    have l2 : L.length = xs.length := Paired.length D
    omega
  · obtain ⟨b, hb, e1, e2, _⟩ := paired_get D e
    refine ⟨⟨b.1.hash w, .ref b.2.1, b.2.2⟩, ?_, by rw [e2]⟩
    rw [← Array.getElem?_toList, he, List.getElem?_map, hb]
    rfl
end
def ItD (d : Addr) (o : Obj) (w : World) (L : List (NestedKey × Addr × V)) : L2.It :=
  ⟨fun i H => H d = some (.frz o (DtO w d L)) ∧ i < L.length, fun i H x H' => H' = H ∧ ∃ p, L[i]? = some p ∧ x = .ref p.2.1, fun i H => H d = some (.frz o (DtO w d L)) ∧ L.length ≤ i⟩
theorem turn_keysD {P : Program} {w : World} {K : PySem.W.Frag} {tg : Expr} {d : Addr} {o : Obj} {es : Array DictEntry} {ep : Nat} {w' : World} {L : List (NestedKey × Addr × V)} (it : Addr) (hod : o.data = .dict es ep) :
    Turn P w K tg (ItD d o w' L) [it] it (fun i h => h.IsKeyIter it d i L.length ep) where
  mem := by simp
  obj := fun i h st b hb => by
    have e : b = it := by simpa using hb
    subst e
    obtain ⟨oi, e, c, dd⟩ := st
    exact ⟨oi, e, fun v z => by rw [dd] at z; cases z⟩
  keep := fun i h h' st k => st.at fun oi e => k it (by simp) oi e
  item := by
    intro X hP hw hK hc i pins s σ H E I hf st hg
    subst hP hw hK
    obtain ⟨hd, hi⟩ := hg
    obtain ⟨f0, f1, f2, f3, f4, f5⟩ := hf it (by simp)
    obtain ⟨hs, hgd, hx, es', ep', hdt, hsz, ent⟩ := frzD I hd
    obtain ⟨rfl, rfl⟩ := dict_ep hod hdt
    obtain ⟨p, hkv⟩ : ∃ p, L[i]? = some p := ⟨L[i], List.getElem?_eq_getElem hi⟩
    obtain ⟨en, hen, hkey⟩ := ent i p hkv
    refine next_key_item st hgd hdt hsz hen fun h' st' sb => ?_
    have I1 : Inv X pins σ H { s with heap := h' } := I.turned (t' := s.toks) (fun b ob hb e => (sb.2 b hb).trans e) f0 f1 f3 f4 f5
    obtain ⟨oi, e, c, dd⟩ := id st'
    exact ⟨en.key, rfl, go_of (s := { s with heap := h' }) e c dd (by decide) ⟨.ref p.2.1, H, I1, hkey, ⟨rfl, p, hkv, rfl⟩, st', fun b hb => (hf b hb).1⟩⟩
  done := by
    intro X hP hw hK hc i pins s σ H E I hf st hg
    subst hP hw hK
    obtain ⟨hd, hi⟩ := hg
    obtain ⟨f0, f1, f2, f3, f4, f5⟩ := hf it (by simp)
    obtain ⟨hs, hgd, hx, es', ep', hdt, hsz, ent⟩ := frzD I hd
    obtain ⟨rfl, rfl⟩ := dict_ep hod hdt
    exact next_key_end (I.ok.hd hc) st hgd hdt hsz hi fun h' eb => ⟨rfl, I.turned (t' := s.toks) (fun b ob hb e => eb b ob hb e) f0 f1 f3 f4 f5⟩
  self := fun A i s Q E st h => wpAny_pyIter_keyiter st h
theorem iter_keysD {X : Cx} {pins : List (Addr × Obj)} {σ : L2.St} {H : Hp} {s : Shared} {d : Addr} {o : Obj} {w : World} {L : List (NestedKey × Addr × V)} {tg : Expr} {R : L2.It → Hp → Prop} (I : Inv X pins σ H s) (h : H d = some (.frz o (DtO w d L))) (q : R (ItD d o w L) H) :
    wpAny (model X.prog X.w) X.A (pyIter (.ref d)) (PIE X pins σ tg R) X.xe s := by
  obtain ⟨hs, hgd, hx, es, ep, hdt, hsz, ent⟩ := frzD I h
  refine iter_keys hs hgd hx hdt (pi_one (tk := s.toks) I _ (turn_keysD _ hdt) ⟨_, Heap.get?_push_size _ rfl, rfl, ?_⟩ q)
  rw [hsz] <;> rfl
/-- what is unlocked -/
inductive UnlH (H0 : Hp) : Hp → Hp → Prop where
  | same {H : Hp} : UnlH H0 H H
  | un {H : Hp} {d : Addr} {od : Obj} {u : HO} : H d = some (.frz od u) → (∀ o' u', H0 d ≠ some (.frz o' u')) → UnlH H0 H (upd H d u)
theorem UnlH.inv {X : Cx} {pins : List (Addr × Obj)} {σ : L2.St} {H H' : Hp} {s : Shared} (I : Inv X pins σ H s) (u : UnlH X.H_0 H H') : Inv X pins σ H' s := by
  cases u with
  | same => exact I
  | un a b => exact I.unlock a b
def unD (H0 : Hp) (D : Ends) : Ends := ⟨fun σ' H' => ∃ H'', UnlH H0 H' H'' ∧ D.nx σ' H'', fun v H' => ∃ H'', UnlH H0 H' H'' ∧ D.rt v H'', fun σ' H' => ∃ H'', UnlH H0 H' H'' ∧ D.bk σ' H'', fun σ' H' => ∃ H'', UnlH H0 H' H'' ∧ D.ct σ' H''⟩
theorem ps_unl {X : Cx} {st : Stmt} {t : TS} (h : PS X st t) : PS X st (fun D σ H => t (unD X.H_0 D) σ H) := by
  refine ⟨fun pins s σ H D I hw => ?_⟩
  refine thn (h.run pins s σ _ _ I hw) fun f s1 q => ?_
  cases f with
  | next => obtain ⟨σ', H', I2, H2, e, q⟩ := q; exact ⟨σ', _, e.inv I2, q⟩
  | brk => obtain ⟨σ', H', I2, H2, e, q⟩ := q; exact ⟨σ', _, e.inv I2, q⟩
  | cont => obtain ⟨σ', H', I2, H2, e, q⟩ := q; exact ⟨σ', _, e.inv I2, q⟩
  | ret v => obtain ⟨x, σ', H', I2, r, H2, e, q⟩ := q; exact ⟨x, σ', _, e.inv I2, r, q⟩
theorem pe_unl {X : Cx} {e : Expr} {t : TE} (h : PE X e t) : PE X e (fun σ H Q => t σ H fun v H' => ∃ H'', UnlH X.H_0 H' H'' ∧ Q v H'') := by
  refine ⟨fun pins s σ H Q I hw => ?_⟩
  refine thn (h.run pins s σ _ _ I hw) fun v s1 ⟨x, H1, I2, r, H2, e2, q⟩ => ?_
  exact ⟨x, _, e2.inv I2, r, q⟩
end Lil
/-! Adq6: calls, methods, iterators, patterns, comprehensions. Own work. -/
set_option linter.all false
set_option Elab.async false
set_option maxRecDepth 100000
namespace Lil
open PySem PySem.Spec PyProof.Rows L2

/-! ### calls of defs -/
def spOf (K : PySem.W.Frag) (fa : Fa) (P : List FD) (d i : Nat) : Sp := fun vs H Q _ => ∃ m h ds f, Sim K fa m h H ∧ Rps K fa m h.length H ds vs ∧ P[i]? = some f ∧ ds.length = f.np ∧
  Ps K fa (rV K fa) m h.length H (tab P d i ds h) Q
theorem tab_some {P : List FD} {d i : Nat} {ds : List DV} {h : Hd} (e : tab P d i ds h ≠ .bad) : ∃ f, P[i]? = some f ∧ ds.length = f.np := by
  cases d with
  | zero => exact absurd rfl e
  | succ d =>
    unfold tab at e
    cases z : P[i]? with
    | none => rw [z] at e; exact absurd rfl e
    | some f =>
      rw [z] at e
      refine ⟨f, rfl, ?_⟩
      dsimp only at e
      unfold runF at e
      split at e
      · assumption
      · exact absurd rfl e
theorem ps_nb {α β : Type} {K : PySem.W.Frag} {fa : Fa} {rel : Rel α β} {m : Nat → Addr} {n : Nat} {H : Hp} {Q : β → Hp → Prop} {r : Res α} (p : Ps K fa rel m n H r Q) : r ≠ .bad := fun e => by
  rw [e] at p
  exact p
/-- the defs keep their promises at a depth -/
structure Fok (X : Cx) (fa : Fa) (P : List FD) (d : Nat) : Prop where
  ok : ∀ i f, P[i]? = some f → ∃ fd ps, FnOk X.prog X.w X.K X.mg X.base CX0 d (fa i) fd ps (spOf X.K fa P d i) ∧ PySem.W.keepIn X.K (.ref (fa i)) = true ∧ Binds X.K fd ps []
  room : Room d X.A
  w : X.w = fa.w

section
variable {X : Cx} {fa : Fa} {P : List FD} {d : Nat} {a b c e : Expr} {es : List Expr} {ma mb mc : E} {mes : Es} {pos p : Pos} {x : Str}

theorem stars_none {env : Env} : ∀ {es : List Expr}, es.any isStar = false → (starEach es env).any (·.1) = false
  | [], _ => rfl
  | e :: es, h => by
    rw [List.any_cons, Bool.or_eq_false_iff] at h
    rw [star_eq h.1, List.any_cons]
    simpa using stars_none h.2
theorem back_any {pos : Pos} {l : List (Bool × Sem Value)} : (backTo pos l).any (·.1) = l.any (·.1) := by
  unfold backTo
  rw [List.any_map]
  rfl
theorem l_cal {i : Nat} (O : Fok X fa P d) (hg : Gl X x) (hm : X.mg x = some (.ref (fa i))) (hdb : (x == ("__debug__" : Str)) = false) (hs : (e :: es).any isStar = false) (ha : PA X (e :: es) (tEs X.K fa (tab P d) mes)) :
    PE X (.Call (.Name x p) (e :: es) [] pos) (tE X.K fa (tab P d) (.cal i mes)) := by
  rw [List.any_cons, Bool.or_eq_false_iff] at hs
  refine ⟨fun pins s σ H Q I h => ?_⟩
  obtain ⟨m, sl, hd, S, L, q⟩ := h
  rw [ev_cal] at q
  cases z : P[i]? with
  | none =>
    refine (?_ : False).elim
    cases y : evs (tab P d) mes sl hd with
    | ok ds h1 =>
      rw [y] at q
      obtain ⟨f, e1, _⟩ := tab_some (ps_nb q)
      rw [z] at e1
      cases e1
    | exc => rw [y] at q; exact q
    | bad => rw [y] at q; exact q
  | some f =>
    obtain ⟨fd, ps, F, hk, hb⟩ := O.ok i f z
    refine (pe_call (dvs := []) (E := E0) F O.room hg hm hk hb .nil pass0 ha hdb (star_eq hs.1) (by rw [back_any]; exact stars_none hs.2)).run pins s σ H Q I ?_
    refine ⟨m, sl, hd, S, L, (Ps.bind (rel := rVs X.K fa) q).imp fun vs H1 ⟨ds, h1, m1, _, x1, S1, r1, q1⟩ => ?_⟩
    obtain ⟨f', e1, e2⟩ := tab_some (ps_nb q1)
    rw [List.append_nil]
    exact ⟨m1, h1, ds, f', S1, r1, e1, e2, q1⟩
theorem l_cal0 {i : Nat} (O : Fok X fa P d) (hg : Gl X x) (hm : X.mg x = some (.ref (fa i))) (hdb : (x == ("__debug__" : Str)) = false) :
    PE X (.Call (.Name x p) [] [] pos) (tE X.K fa (tab P d) (.cal i .nil)) := by
  refine ⟨fun pins s σ H Q I h => ?_⟩
  obtain ⟨m, sl, hd, S, L, q⟩ := h
  rw [ev_cal, evs_nil] at q
  have q1 : Ps X.K fa (rV X.K fa) m hd.length H (tab P d i [] hd) Q := q
  obtain ⟨f', e1, e2⟩ := tab_some (ps_nb q1)
  obtain ⟨fd, ps, F, hk, hb⟩ := O.ok i f' e1
  exact (pe_call0 (dvs := []) (E := E0) F O.room hg hm hk hb .nil pass0 hdb).run pins s σ H Q I ⟨m, hd, [], f', S, .nil, e1, e2, q1⟩
theorem l_cav {i : Nat} (O : Fok X fa P d) (hN : X.N[i]? = some x) (hv : Vis X.env.scope x) (hdb : (x == ("__debug__" : Str)) = false) (hcd : (x == ("__classdict__" : Str)) = false) (hs : (e :: es).any isStar = false) (ha : PA X (e :: es) (tEs X.K fa (tab P d) mes)) :
    PE X (.Call (.Name x p) (e :: es) [] pos) (tE X.K fa (tab P d) (.cav i mes)) := by
  rw [List.any_cons, Bool.or_eq_false_iff] at hs
  refine ⟨fun pins s σ H Q I h => ?_⟩
  obtain ⟨m, sl, hd, S, L, q⟩ := h
  rw [ev_cav] at q
  split at q
  · rename_i j ej
    obtain ⟨v, hv2, rv⟩ := L.at_ _ _ ej
    cases rv
    cases z : P[j]? with
    | none =>
      refine (?_ : False).elim
      cases y : evs (tab P d) mes sl hd with
      | ok ds h1 =>
        rw [y] at q
        obtain ⟨f, e1, _⟩ := tab_some (ps_nb q)
        rw [z] at e1
        cases e1
      | exc => rw [y] at q; exact q
      | bad => rw [y] at q; exact q
    | some f =>
      obtain ⟨fd, ps, F, hk, hb⟩ := O.ok j f z
      refine (pe_callL (i := i) (dvs := []) (E := E0) F O.room hN hv hk hb .nil pass0 ha hdb hcd (star_eq hs.1) (by rw [back_any]; exact stars_none hs.2)).run pins s σ H Q I ⟨hv2, ?_⟩
      refine ⟨m, sl, hd, S, L, (Ps.bind (rel := rVs X.K fa) q).imp fun vs H1 ⟨ds, h1, m1, _, x1, S1, r1, q1⟩ => ?_⟩
      obtain ⟨f', e1, e2⟩ := tab_some (ps_nb q1)
      rw [List.append_nil]
      exact ⟨m1, h1, ds, f', S1, r1, e1, e2, q1⟩
  · exact (ps_bad q).elim
end

section
variable {X : Cx} {fa : Fa} {F : Nat → List DV → Hd → Res DV} {a b c : Expr} {ma mb mc : E} {pos p : Pos} {x : Str}
/-! ### built-ins -/
theorem evs_one {m : E} {s : Sl} {h h1 : Hd} {ds : List DV} (e : evs F (.cons m .nil) s h = .ok ds h1) : ∃ d, ds = [d] := by
  rw [evs_cons] at e
  cases z : ev F m s h with
  | ok d h2 => rw [z] at e; cases e; exact ⟨d, rfl⟩
  | exc => rw [z] at e; cases e
  | bad => rw [z] at e; cases e
theorem blt_arg {bl : Blt} {t : L2.St} {H : Hp} {Q : VK} (q : tE X.K fa F (.blt bl (.cons ma .nil)) t H Q) : tCB (rBlt X.K fa bl) (tEs X.K fa F (.cons ma .nil)) t H Q := by
  obtain ⟨m, s, h, S, L, q⟩ := q
  rw [ev_blt] at q
  refine ⟨m, s, h, S, L, (Ps.bind (rel := rVs X.K fa) q).imp fun vs H1 ⟨ds, h1, m1, e, x1, S1, r1, q1⟩ => ?_⟩
  obtain ⟨d, rfl⟩ := evs_one e
  obtain ⟨v, rfl, rv⟩ := Rps.one r1
  exact ⟨m1, h1, d, v, rfl, S1, rv, q1⟩
theorem l_bltF {bl : Blt} {id : String} (hc : CallR X (.builtin id) (rBlt X.K fa bl)) (hg : Gl X x) (hm : X.mg x = none) (hv : bootBuiltins x = some (.builtin id)) (hn : x ≠ "__name__") (hdb : (x == ("__debug__" : Str)) = false) (hs : isStar a = false)
    (ha : PE X a (tE X.K fa F ma)) : PE X (.Call (.Name x p) [a] [] pos) (tE X.K fa F (.blt bl (.cons ma .nil))) :=
  (pe_callB hc hg hm hv (la_cons hs ha la_nil) hn hdb (star_eq hs) rfl).mono fun t H Q q => blt_arg q
theorem l_bltT {bl : Blt} {T : String} (hc : CallR X (.type T) (rBlt X.K fa bl)) (hg : Gl X x) (hm : X.mg x = none) (hv : bootBuiltins x = some (.type T)) (hn : x ≠ "__name__") (hdb : (x == ("__debug__" : Str)) = false) (hs : isStar a = false)
    (ha : PE X a (tE X.K fa F ma)) : PE X (.Call (.Name x p) [a] [] pos) (tE X.K fa F (.blt bl (.cons ma .nil))) :=
  (pe_callTy hc hg hm hv (la_cons hs ha la_nil) hn hdb (star_eq hs) rfl).mono fun t H Q q => blt_arg q
theorem l_isi {t : Tyn} {y : Str} {p2 : Pos} (hg : Gl X x) (hm : X.mg x = none) (hv : bootBuiltins x = some (.builtin "isinstance")) (hn : x ≠ "__name__") (hdb : (x == ("__debug__" : Str)) = false)
    (hg2 : Gl X y) (hm2 : X.mg y = none) (hv2 : bootBuiltins y = some (.type (tyN t))) (hn2 : y ≠ "__name__") (hdb2 : (y == ("__debug__" : Str)) = false) (hs : isStar a = false)
    (ha : PE X a (tE X.K fa F ma)) : PE X (.Call (.Name x p) [a, .Name y p2] [] pos) (tE X.K fa F (.isi ma t)) :=
  (pe_callB (isi_ok (fa := fa) t) hg hm hv (pa_cons ha (pa_cons (pe_bltn (v := .ty (tyN t)) hg2 hm2 hv2 rfl hn2 hdb2) pa_nil) (star_eq hs)) hn hdb (star_eq hs) rfl).mono fun t' H Q ⟨m, s, h, S, L, q⟩ => by
    rw [ev_isi] at q
    refine ⟨m, s, h, S, L, (Ps.bind (rel := rV X.K fa) q).imp fun v H1 ⟨d, h1, m1, e, x1, S1, r1, q1⟩ => ?_⟩
    cases z : isTyH h1 t d with
    | none => rw [z] at q1; exact (ps_bad q1).elim
    | some k =>
      rw [z] at q1
      exact ⟨m1, h1, d, k, v, rfl, S1, r1, z, ps_same S1 (.bl _) q1⟩

/-! ### methods -/
theorem base_eq {o : Expr} {m : Str} {env : Env} {wh : Sem Value} (h : baseOk o = true) : attributeBase o m env wh = wh := by
  cases o <;> first | rfl | (cases h; done)
theorem l_mth1 {mt : Mth} (hnd : mt.isD = false) {id : String} {o : Expr} {name : Str} {apos : Pos} {mo : E} (slot : Slot "list" name id) (hty : typeOf (.builtin id) = pure (.type "method_descriptor")) (hm : MtR X id (rMth X.K fa mt)) (hb : baseOk o = true)
    (hline : (apos.endLine == pos.line) = true) (hs : isStar a = false) (ho : PE X o (tE X.K fa F mo)) (ha : PE X a (tE X.K fa F ma)) :
    PE X (.Call (.Attribute o name apos) [a] [] pos) (tE X.K fa F (.mth mt mo (.cons ma .nil))) :=
  (pe_bm PySem.F.plainAttrs_list slot hty hm ho (la_cons hs ha la_nil) (base_eq hb) (by rw [star_eq hs]; rfl) hline (star_eq hs) rfl).mono fun t H Q ⟨m, s, h, S, L, q⟩ => by
    rw [ev_mth] at q
    refine ⟨m, s, h, S, L, (Ps.bind (rel := rV X.K fa) q).imp fun v H1 ⟨d, h1, m1, e, x1, S1, r1, q1⟩ => ?_⟩
    split at q1
    · rename_i hr
      refine ⟨?_, m1, s, h1, S1, L.mono x1, (Ps.bind (rel := rVs X.K fa) q1).imp fun vs H2 ⟨ds, h2, m2, _, x2, S2, r2, q2⟩ => ⟨m2, h2, d, ds, S2, Rp.mono x2 r1, r2, q2⟩⟩
      cases r1 <;> first | (cases hr; done) | skip
      unfold recv at hr
      dsimp only at hr
      split at hr
      · rename_i q3
        obtain ⟨vs, e1, _⟩ := S1.lst q3
        exact .inl ⟨rfl, vs, SqL.of e1⟩
      · rw [hnd] at hr; cases hr
      · rw [hnd] at hr; cases hr
      · cases hr
    · exact (ps_bad q1).elim
/-- a dict's method -/
theorem l_mthD {mt : Mth} {id : String} {o : Expr} {name : Str} {apos : Pos} {mo : E} (hd : mt.isD = true) (hw : X.w = fa.w) (slot : Slot "dict" name id) (hty : typeOf (.builtin id) = pure (.type "method_descriptor")) (hm : MtR X id (rMth X.K fa mt)) (hb : baseOk o = true)
    (hline : (apos.endLine == pos.line) = true) (hs : isStar a = false) (ho : PE X o (tE X.K fa F mo)) (ha : PE X a (tE X.K fa F ma)) :
    PE X (.Call (.Attribute o name apos) [a] [] pos) (tE X.K fa F (.mth mt mo (.cons ma .nil))) := by
  refine ⟨fun pins s σ H Q I h => ?_⟩
  obtain ⟨m, sl, hp, S, L, q⟩ := h
  rw [ev_mth] at q
  refine wpAny_Call_method_late (base_eq hb) (by rw [star_eq hs]; rfl) hline rfl (thn (ho.run pins s σ H _ I ⟨m, sl, hp, S, L, Ps.bind (rel := rV X.K fa) q⟩) fun v s1 ⟨x, H1, I1, r1, d, h1, m1, e, x1, S1, rd, q1⟩ => ?_)
  split at q1
  · rename_i hr
    have hD : ∃ ps, dctT d h1 = some ps := by
      unfold recv at hr
      cases d <;> first | (cases hr; done) | skip
      dsimp only at hr
      split at hr
      · rw [hd] at hr; cases hr
      · rename_i q3; exact ⟨_, dctT_dtt q3⟩
      · rename_i q3; exact ⟨_, dctT_lkt q3⟩
      · cases hr
    obtain ⟨ps, hps⟩ := hD
    obtain ⟨ad, Ld, ev, g1, g2⟩ := dt_rd S1 rd hps
    subst ev
    cases r1
    obtain ⟨t1, t2⟩ := dt_type hw I1 g1 g2
    refine ⟨"dict", id, PySem.F.plainAttrs_dict, slot, hty, t1, t2, ?_⟩
    have hA := (la_cons hs ha la_nil).run pos pins s1 σ H1 _ I1 ⟨m1, sl, h1, S1, L.mono x1, Ps.bind (rel := rVs X.K fa) q1⟩
    rw [star_eq hs] at hA ⊢
    refine Calls.callWith_builtin rfl (Calls.evalArgs_plain ?_)
    exact thn hA fun us s2 ⟨vs, H2, I2, r2, ds, h2, m2, _, x2, S2, r3, q2⟩ => hm pins s2 σ H2 (.ref ad) vs _ us Q I2 rfl r2 ⟨m2, h2, d, ds, S2, Rp.mono x2 rd, r3, q2⟩
  · exact (ps_bad q1).elim
/-- no method of a dict is called without arguments -/
theorem l_mthD0 {mt : Mth} {o : Expr} {name : Str} {apos : Pos} {mo : E} (hd : mt.isD = true) : PE X (.Call (.Attribute o name apos) [] [] pos) (tE X.K fa F (.mth mt mo .nil)) := by
  refine ⟨fun pins s σ H Q I h => ?_⟩
  obtain ⟨m, sl, hp, S, L, q⟩ := h
  rw [ev_mth] at q
  refine (?_ : False).elim
  cases z : ev F mo sl hp with
  | exc => rw [z] at q; exact q
  | bad => rw [z] at q; exact q
  | ok x h1 =>
    rw [z] at q
    dsimp only [Res.bind] at q
    split at q
    · rw [evs_nil] at q
      have q' : Ps X.K fa (rV X.K fa) m hp.length H (mth mt x [] h1) Q := q
      have e : mth mt x [] h1 = .bad := by
        cases mt <;> first | (cases hd; done) | skip
        all_goals (cases x <;> rfl)
      rw [e] at q'
      exact q'
    · exact q
theorem l_mth0 {mt : Mth} (hnd : mt.isD = false) {id : String} {o : Expr} {name : Str} {apos : Pos} {mo : E} (slot : Slot "list" name id) (hty : typeOf (.builtin id) = pure (.type "method_descriptor")) (hm : MtR X id (rMth X.K fa mt)) (hb : baseOk o = true)
    (hline : (apos.endLine == pos.line) = true) (ho : PE X o (tE X.K fa F mo)) :
    PE X (.Call (.Attribute o name apos) [] [] pos) (tE X.K fa F (.mth mt mo .nil)) :=
  (pe_bm0 PySem.F.plainAttrs_list slot hty hm ho (base_eq hb) hline).mono fun t H Q ⟨m, s, h, S, L, q⟩ => by
    rw [ev_mth] at q
    refine ⟨m, s, h, S, L, (Ps.bind (rel := rV X.K fa) q).imp fun v H1 ⟨d, h1, m1, e, x1, S1, r1, q1⟩ => ?_⟩
    split at q1
    · rename_i hr
      refine ⟨?_, ?_⟩
      · cases r1 <;> first | (cases hr; done) | skip
        unfold recv at hr
        dsimp only at hr
        split at hr
        · rename_i q3
          obtain ⟨vs, e1, _⟩ := S1.lst q3
          exact .inl ⟨rfl, vs, SqL.of e1⟩
        · rw [hnd] at hr; cases hr
        · rw [hnd] at hr; cases hr
        · cases hr
      · rw [evs_nil] at q1
        exact ⟨m1, h1, d, [], S1, r1, .nil, q1⟩
    · exact (ps_bad q1).elim

/-! ### what is walked -/
/-- an iterator of Lil's and one of the layer's -/
def rI0 (K : PySem.W.Frag) (fa : Fa) : Rel It L2.It := fun it m n H J => ∀ m' h' H', Xt m n H m' h'.length H' → Sim K fa m' h' H' → ∀ i, match itemAt h' it i with
  | .stop => J.stop i H'
  | .item d => J.go i H' ∧ ∀ x H'', J.yld i H' x H'' → Xt m' h'.length H' m' h'.length H'' ∧ Sim K fa m' h' H'' ∧ Rp K fa m' h'.length H'' d x
  | .bad => True
/-- .. and of what is locked: it wasn't so ahead -/
def rI (K : PySem.W.Frag) (H0 Hs : Hp) (fa : Fa) : Rel It L2.It := fun it m n H J => (∀ k, it = .dk k → k < n ∧ (∀ o u, H0 (m k) ≠ some (.frz o u)) ∧ ∀ o u, Hs (m k) ≠ some (.frz o u)) ∧ rI0 K fa it m n H J
def tI (K : PySem.W.Frag) (H0 : Hp) (fa : Fa) (F : Nat → List DV → Hd → Res DV) (it : Ie) : TI := fun t H R => ∃ m s h, Sim K fa m h H ∧ Slots K fa m h.length H s t ∧ Ps K fa (rI K H0 H fa) m h.length H (evi F it s h) R
theorem ri_tup {K : PySem.W.Frag} {m : Nat → Addr} {n : Nat} {H : Hp} {ds : List DV} {ad : Addr} {vs : List V} (h : SqT K H ad vs) (r : Rps K fa m n H ds vs) : rI0 K fa (.tup ds) m n H (Itt K ad) := by
  intro m' h' H' x S i
  unfold itemAt
  have hs := x.sqt h
  cases z : ds[i]? with
  | none => exact ⟨vs, hs, by rw [← r.length]; exact List.getElem?_eq_none_iff.mp z⟩
  | some d =>
    obtain ⟨v, hv, rv⟩ := r.get z
    refine ⟨⟨vs, v, hs, hv⟩, fun y H'' ⟨e, g⟩ => ?_⟩
    subst e
    have := g vs hs
    rw [hv] at this
    cases this
    exact ⟨Xt.refl _ _ _, S, Rp.mono x rv⟩
theorem ri_lst {K : PySem.W.Frag} {m : Nat → Addr} {n : Nat} {H : Hp} {k : Nat} (hk : k < n) : rI0 K fa (.lst k) m n H (Itl K (m k)) := by
  intro m' h' H' x S i
  unfold itemAt
  rw [← x.eq k hk]
  cases z : h'[k]? with
  | none => trivial
  | some o =>
    cases o with
    | lst ds =>
      obtain ⟨vs, e1, r⟩ := S.lst z
      dsimp only
      cases y : ds[i]? with
      | none => exact ⟨vs, SqL.of e1, by rw [← r.length]; exact List.getElem?_eq_none_iff.mp y⟩
      | some d =>
        obtain ⟨v, hv, rv⟩ := r.get y
        refine ⟨⟨vs, v, SqL.of e1, hv⟩, fun y H'' ⟨e, g⟩ => ?_⟩
        subst e
        have := g vs (SqL.of e1)
        rw [hv] at this
        cases this
        exact ⟨Xt.refl _ _ _, S, rv⟩
    | fro ds =>
      obtain ⟨vs, e1, r⟩ := S.fro z
      dsimp only
      cases y : ds[i]? with
      | none => exact ⟨vs, e1.sq, by rw [← r.length]; exact List.getElem?_eq_none_iff.mp y⟩
      | some d =>
        obtain ⟨v, hv, rv⟩ := r.get y
        refine ⟨⟨vs, v, e1.sq, hv⟩, fun y H'' ⟨e, g⟩ => ?_⟩
        subst e
        have := g vs e1.sq
        rw [hv] at this
        cases this
        exact ⟨Xt.refl _ _ _, S, rv⟩
    | dct => trivial
    | dtt => trivial
    | lkk => trivial
    | lkt => trivial
    | ins => trivial
theorem ri_rng {K : PySem.W.Frag} {m : Nat → Addr} {n : Nat} {H : Hp} {lo : Int} {k : Nat} : rI0 K fa (.rng lo k) m n H (Itr lo k) := by
  intro m' h' H' x S i
  unfold itemAt
  by_cases hi : i < k
  · rw [if_pos hi]
    refine ⟨hi, fun y H'' ⟨e, g⟩ => ?_⟩
    subst e g
    exact ⟨Xt.refl _ _ _, S, .int _⟩
  · rw [if_neg hi]
    exact Nat.le_of_not_lt hi
theorem ri_str {K : PySem.W.Frag} {m : Nat → Addr} {n : Nat} {H : Hp} {z : List Nat} : rI0 K fa (.str z) m n H (Its ⟨z.toArray⟩) := by
  intro m' h' H' x S i
  unfold itemAt
  cases y : z[i]? with
  | none => exact (by simpa using y : z.toArray.size ≤ i)
  | some c =>
    refine ⟨(by simpa using (List.getElem?_eq_some_iff.mp y).1 : i < z.toArray.size), fun w H'' ⟨e, c', g1, g2⟩ => ?_⟩
    subst e
    have : z[i]? = some c' := by simpa using g1
    rw [y] at this
    cases this
    subst g2
    exact ⟨Xt.refl _ _ _, S, .str [c]⟩
/-- a pair yielded -/
theorem pair_new {K : PySem.W.Frag} {m : Nat → Addr} {h : Hd} {H : Hp} {T : Addr} {d e : DV} {x y : V} (S : Sim K fa m h H) (np : H T = none) (r1 : Rp K fa m h.length H d x) (r2 : Rp K fa m h.length H e y) :
    Xt m h.length H m h.length (upd H T (.tup [x, y])) ∧ Sim K fa m h (upd H T (.tup [x, y])) ∧ Rp K fa m h.length (upd H T (.tup [x, y])) (.tup [d, e]) (.ref T) := by
  obtain ⟨xx, S'⟩ := S.tup (a := T) (xs := [x, y]) np
  exact ⟨xx, S', .tup (SqT.of upd_same) (.cons (Rp.mono xx r1) (.cons (Rp.mono xx r2) .nil))⟩
/-- a list read at a turn -/
theorem rd_lst {K : PySem.W.Frag} {m : Nat → Addr} {h : Hd} {H : Hp} {k : Nat} (S : Sim K fa m h H) (i : Nat) : match itemAt h (.lst k) i with
      | .stop => ∃ vs, SqL K H (m k) vs ∧ vs.length ≤ i
      | .item d => ∃ vs v, SqL K H (m k) vs ∧ vs[i]? = some v ∧ Rp K fa m h.length H d v
      | .bad => True := by
  unfold itemAt
  cases z : h[k]? with
  | none => trivial
  | some o =>
    cases o with
    | lst ds =>
      obtain ⟨vs, e1, r⟩ := S.lst z
      dsimp only
      cases y : ds[i]? with
      | none => exact ⟨vs, SqL.of e1, by rw [← r.length]; exact List.getElem?_eq_none_iff.mp y⟩
      | some d =>
        obtain ⟨v, hv, rv⟩ := r.get y
        exact ⟨vs, v, SqL.of e1, hv, rv⟩
    | fro ds =>
      obtain ⟨vs, e1, r⟩ := S.fro z
      dsimp only
      cases y : ds[i]? with
      | none => exact ⟨vs, e1.sq, by rw [← r.length]; exact List.getElem?_eq_none_iff.mp y⟩
      | some d =>
        obtain ⟨v, hv, rv⟩ := r.get y
        exact ⟨vs, v, e1.sq, hv, rv⟩
    | dct => trivial
    | dtt => trivial
    | lkk => trivial
    | lkt => trivial
    | ins => trivial
theorem ri_zpL {K : PySem.W.Frag} {m : Nat → Addr} {n : Nat} {H : Hp} {k j : Nat} (hk : k < n) (hj : j < n) : rI0 K fa (.zp (.lst k) (.lst j)) m n H (Itz K (m k) (m j)) := by
  intro m' h' H' x S i
  have e1 := x.eq k hk
  have e2 := x.eq j hj
  have z1 := rd_lst (k := k) S i
  have z2 := rd_lst (k := j) S i
  rw [e1] at z1
  rw [e2] at z2
  rw [show itemAt h' (.zp (.lst k) (.lst j)) i = (match itemAt h' (.lst k) i with
    | .item x => (match itemAt h' (.lst j) i with
      | .item y => .item (.tup [x, y])
      | r => r)
    | .stop => (match itemAt h' (.lst j) i with
      | .bad => .bad
      | _ => .stop)
    | .bad => .bad) from rfl]
  cases y1 : itemAt h' (.lst k) i with
  | bad => trivial
  | stop =>
    rw [y1] at z1
    obtain ⟨xs, a1, a2⟩ := z1
    cases y2 : itemAt h' (.lst j) i with
    | bad => trivial
    | stop =>
      rw [y2] at z2
      obtain ⟨ys, b1, b2⟩ := z2
      exact ⟨xs, ys, a1, b1, .inl a2⟩
    | item d =>
      rw [y2] at z2
      obtain ⟨ys, v, b1, b2, _⟩ := z2
      exact ⟨xs, ys, a1, b1, .inl a2⟩
  | item d =>
    rw [y1] at z1
    obtain ⟨xs, v, a1, a2, a3⟩ := z1
    cases y2 : itemAt h' (.lst j) i with
    | bad => trivial
    | stop =>
      rw [y2] at z2
      obtain ⟨ys, b1, b2⟩ := z2
      exact ⟨xs, ys, a1, b1, .inr b2⟩
    | item e =>
      rw [y2] at z2
      obtain ⟨ys, u, b1, b2, b3⟩ := z2
      refine ⟨⟨xs, ys, v, u, a1, b1, a2, b2⟩, fun w H'' ⟨T, p, q, ew, np, eH, g1, g2⟩ => ?_⟩
      have g3 := g1 xs a1
      have g4 := g2 ys b1
      rw [a2] at g3
      rw [b2] at g4
      cases g3; cases g4
      subst ew eH
      exact pair_new S np a3 b3
theorem ri_zpT {K : PySem.W.Frag} {m : Nat → Addr} {n : Nat} {H : Hp} {ds es : List DV} {ad bd : Addr} {vs ws : List V} (h : SqT K H ad vs) (r : Rps K fa m n H ds vs) (h2 : SqT K H bd ws) (r2 : Rps K fa m n H es ws) :
    rI0 K fa (.zp (.tup ds) (.tup es)) m n H (RZ.ItzT K ad bd) := by
  intro m' h' H' x S i
  have hs := x.sqt h
  have hs2 := x.sqt h2
  rw [show itemAt h' (.zp (.tup ds) (.tup es)) i = (match itemAt h' (.tup ds) i with
    | .item x => (match itemAt h' (.tup es) i with
      | .item y => .item (.tup [x, y])
      | r => r)
    | .stop => (match itemAt h' (.tup es) i with
      | .bad => .bad
      | _ => .stop)
    | .bad => .bad) from rfl]
  unfold itemAt
  cases z : ds[i]? with
  | none =>
    dsimp only
    have q : vs.length ≤ i := by rw [← r.length]; exact List.getElem?_eq_none_iff.mp z
    cases z2 : es[i]? with
    | none => exact ⟨vs, ws, hs, hs2, .inl q⟩
    | some e => exact ⟨vs, ws, hs, hs2, .inl q⟩
  | some d =>
    dsimp only
    obtain ⟨v, hv, rv⟩ := r.get z
    cases z2 : es[i]? with
    | none => exact ⟨vs, ws, hs, hs2, .inr (by rw [← r2.length]; exact List.getElem?_eq_none_iff.mp z2)⟩
    | some e =>
      obtain ⟨u, hu, ru⟩ := r2.get z2
      refine ⟨⟨vs, ws, v, u, hs, hs2, hv, hu⟩, fun w H'' ⟨T, p, q, ew, np, eH, g1, g2⟩ => ?_⟩
      have g3 := g1 vs hs
      have g4 := g2 ws hs2
      rw [hv] at g3
      rw [hu] at g4
      cases g3; cases g4
      subst ew eH
      exact pair_new S np (Rp.mono x rv) (Rp.mono x ru)
theorem ri_enL {K : PySem.W.Frag} {m : Nat → Addr} {n : Nat} {H : Hp} {k : Nat} (hk : k < n) : rI0 K fa (.en (.lst k)) m n H (Ite K (m k)) := by
  intro m' h' H' x S i
  have e1 := x.eq k hk
  have z1 := rd_lst (k := k) S i
  rw [e1] at z1
  rw [show itemAt h' (.en (.lst k)) i = (match itemAt h' (.lst k) i with
    | .item x => .item (.tup [.int i, x])
    | r => r) from rfl]
  cases y1 : itemAt h' (.lst k) i with
  | bad => trivial
  | stop =>
    rw [y1] at z1
    exact z1
  | item d =>
    rw [y1] at z1
    obtain ⟨xs, v, a1, a2, a3⟩ := z1
    refine ⟨⟨xs, v, a1, a2⟩, fun w H'' ⟨T, p, ew, np, eH, g1⟩ => ?_⟩
    have g3 := g1 xs a1
    rw [a2] at g3
    cases g3
    subst ew eH
    exact pair_new S np (.int _) a3

theorem ri_enT {K : PySem.W.Frag} {m : Nat → Addr} {n : Nat} {H : Hp} {ds : List DV} {ad : Addr} {vs : List V} (h : SqT K H ad vs) (r : Rps K fa m n H ds vs) : rI0 K fa (.en (.tup ds)) m n H (IteT K ad vs) := by
  intro m' h' H' x S i
  have hs := x.sqt h
  rw [show itemAt h' (.en (.tup ds)) i = (match itemAt h' (.tup ds) i with
    | .item x => .item (.tup [.int i, x])
    | r => r) from rfl]
  unfold itemAt
  cases z : ds[i]? with
  | none => exact ⟨hs, by rw [← r.length]; exact List.getElem?_eq_none_iff.mp z⟩
  | some d =>
    obtain ⟨v, hv, rv⟩ := r.get z
    refine ⟨⟨hs, (List.getElem?_eq_some_iff.mp hv).1⟩, fun w H'' ⟨T, p, ew, np, eH, g1⟩ => ?_⟩
    rw [hv] at g1
    cases g1
    subst ew eH
    exact pair_new S np (.int _) (Rp.mono x rv)
theorem ents_at {K : PySem.W.Frag} {m : Nat → Addr} {n : Nat} {H : Hp} : ∀ {ps : List (DV × DV)} {L : List (NestedKey × Addr × V)} {i : Nat} {kv : DV × DV}, Ents K fa m n H ps L → ps[i]? = some kv → ∃ p, L[i]? = some p ∧ Rp K fa m n H kv.1 (.ref p.2.1)
  | _, _, _, _, .nil, e => by simp at e
  | _, _, 0, _, .cons a b c d, e => by simp at e; subst e; exact ⟨_, rfl, b⟩
  | _, _, i + 1, _, .cons a b c d, e => by simpa using ents_at (i := i) d (by simpa using e)
theorem ents_len2 {K : PySem.W.Frag} {m : Nat → Addr} {n : Nat} {H : Hp} : ∀ {ps : List (DV × DV)} {L : List (NestedKey × Addr × V)}, Ents K fa m n H ps L → ps.length = L.length
  | _, _, .nil => rfl
  | _, _, .cons _ _ _ t => congrArg Nat.succ (ents_len2 t)
/-- what stands at a lock is told by it -/
theorem lk_same {w : World} {a : Addr} {L L' : List (NestedKey × Addr × V)} {h : Heap} (p : DtP w a L h) (q : DtP w a L' h) : L.length = L'.length ∧ ∀ (i : Nat) (x y : NestedKey × Addr × V), L[i]? = some x → L'[i]? = some y → x.2.1 = y.2.1 := by
  obtain ⟨_, _, xs, o, es, ep, D, ho, _, hd, he, _⟩ := p
  obtain ⟨_, _, ys, o', es', ep', D', ho', _, hd', he', _⟩ := q
  rw [ho] at ho'
  cases ho'
  rw [hd] at hd'
  cases hd'
  refine ⟨?_, fun i x y hx hy => ?_⟩
  · have l1 : L.length = es.size := by rw [Paired.length D, ← Array.length_toList, he, List.length_map]
    have l2 : L'.length = es.size := by rw [Paired.length D', ← Array.length_toList, he', List.length_map]
    omega
  · obtain ⟨b, hb, _, e2, _⟩ := paired_get D hx
    obtain ⟨b', hb', _, e2', _⟩ := paired_get D' hy
    have z : (xs.map (fun x => (⟨x.1.hash w, .ref x.2.1, x.2.2⟩ : DictEntry)))[i]? = (ys.map (fun x => (⟨x.1.hash w, .ref x.2.1, x.2.2⟩ : DictEntry)))[i]? := by rw [← he, ← he']
    rw [List.getElem?_map, List.getElem?_map, hb, hb'] at z
    simp only [Option.map_some, Option.some.injEq, DictEntry.mk.injEq, Value.ref.injEq] at z
    rw [e2, e2']
    exact z.2.1
theorem dto_inj {w : World} {a : Addr} {L L' : List (NestedKey × Addr × V)} {od od' : Obj} (e : some (HO.frz od (DtO w a L)) = some (HO.frz od' (DtO w a L'))) : DtP w a L = DtP w a L' := by
  unfold DtO at e
  injection e with e
  injection e with e1 e2
  injection e2
theorem ri_lk {K : PySem.W.Frag} {m : Nat → Addr} {n : Nat} {H : Hp} {k : Nat} {od : Obj} {L : List (NestedKey × Addr × V)} (hk : k < n) (e : H (m k) = some (.frz od (DtO fa.w (m k) L))) (w : ∃ h0, DtP fa.w (m k) L h0) {it : It}
    (hit : ∀ h i, itemAt h it i = (match h[k]? with
      | some (.lkt ps) => (match ps[i]? with | some kv => .item kv.1 | none => .stop)
      | some (.lkk ps) => (match ps[i]? with | some kv => .item kv.1 | none => .stop)
      | _ => .bad)) : rI0 K fa it m n H (ItD (m k) od fa.w L) := by
  intro m' h' H' x S i
  rw [hit]
  have e' := x.all _ _ _ e
  have em := x.eq k hk
  cases z : h'[k]? with
  | none => trivial
  | some o =>
    cases o with
    | lkt ps =>
      obtain ⟨od', L', e1, _, r⟩ := S.lkt z
      rw [em, e'] at e1
      have ed := dto_inj e1
      obtain ⟨h0, p0⟩ := w
      have p1 : DtP fa.w (m k) L' h0 := by rw [← ed]; exact p0
      obtain ⟨l1, l2⟩ := lk_same p0 p1
      have l3 := ents_len2 r
      dsimp only
      cases y : ps[i]? with
      | none => exact ⟨e', by have := List.getElem?_eq_none_iff.mp y; omega⟩
      | some kv =>
        obtain ⟨p, hp, rp⟩ := ents_at r y
        have hi : i < L.length := by have := (List.getElem?_eq_some_iff.mp y).1; omega
        refine ⟨⟨e', hi⟩, fun v H'' ⟨eH, q, hq, ev⟩ => ?_⟩
        subst eH ev
        refine ⟨Xt.refl _ _ _, S, ?_⟩
        rw [l2 i q p hq hp]
        exact rp
    | lkk ps => exact (by cases S.obj k _ z)
    | lst => trivial
    | fro => trivial
    | dct => trivial
    | dtt => trivial
    | ins => trivial
theorem li_sq (ha : PE X a (tE X.K fa F ma)) {tg : Expr} : PI X tg a (tI X.K X.H_0 fa F (.sq ma)) := by
  refine ⟨fun pins s σ H R I h => ?_⟩
  obtain ⟨m, sl, hd, S, L, q⟩ := h
  rw [evi_sq] at q
  cases z : ev F ma sl hd with
  | exc => rw [z] at q; exact (show False from q).elim
  | bad => rw [z] at q; exact (show False from q).elim
  | ok d h1 =>
    rw [z] at q
    have key : ∀ Q : VK, (∀ m' H' b, Xt m hd.length H m' h1.length H' → Sim X.K fa m' h1 H' → Rp X.K fa m' h1.length H' d b → Q b H') → tE X.K fa F ma σ H Q := fun Q hq => ⟨m, sl, hd, S, L, by rw [z]; exact hq⟩
    cases d with
    | tup ds =>
      refine (pi_tup (tl := tE X.K fa F ma) ha).run pins s σ H R I (key _ fun m' H' b x S' r => ?_)
      cases r with
      | tup ta rs => exact ⟨_, rfl, ⟨_, ta⟩, q m' H' _ x S' ⟨(fun _ z => nomatch z), ri_tup ta rs⟩⟩
    | str z2 =>
      refine (pi_str (te := tE X.K fa F ma) ha).run pins s σ H R I (key _ fun m' H' b x S' r => ?_)
      cases r
      exact ⟨_, rfl, q m' H' _ x S' ⟨(fun _ z => nomatch z), ri_str⟩⟩
    | ref k =>
      dsimp only [Res.bind] at q
      split at q
      · rename_i q1
        refine (pi_list (tl := tE X.K fa F ma) ha).run pins s σ H R I (key _ fun m' H' b x S' r => ?_)
        cases r with
        | ref hk =>
          obtain ⟨vs, e1, _⟩ := S'.lst q1
          exact ⟨_, rfl, ⟨_, SqL.of e1⟩, q m' H' _ x S' ⟨(fun _ z => nomatch z), ri_lst hk⟩⟩
      · rename_i q1
        refine (pi_list (tl := tE X.K fa F ma) ha).run pins s σ H R I (key _ fun m' H' b x S' r => ?_)
        cases r with
        | ref hk =>
          obtain ⟨vs, e1, _⟩ := S'.fro q1
          exact ⟨_, rfl, ⟨_, e1.sq⟩, q m' H' _ x S' ⟨(fun _ z => nomatch z), ri_lst hk⟩⟩
      · rename_i ps q1
        refine thn (ha.run pins s σ H (fun v H' => ∃ m', Xt m hd.length H m' h1.length H' ∧ Sim X.K fa m' h1 H' ∧ Rp X.K fa m' h1.length H' (.ref k) v) I (key _ fun m' H' b x S' r => ⟨m', x, S', r⟩)) fun u s1 ⟨v, H1, I1, rv, m', x, S', r⟩ => ?_
        cases r with
        | ref hk =>
          cases rv
          obtain ⟨L, e1, r1⟩ := S'.dtt q1
          have nf := I1.nofrz e1 True.intro
          have w0 : ∃ h0, DtP fa.w (m' k) L h0 := ⟨_, (I1.hok _ _ e1).1⟩
          obtain ⟨od, I2⟩ := I1.lock e1 True.intro
          obtain ⟨x2, S2⟩ := S'.write (o' := .lkt ps) (u' := .frz od (DtO fa.w (m' k) L)) q1 rfl rfl fun x => .lkt upd_same w0 (r1.mono x)
          refine iter_keysD I2 upd_same (q m' _ _ (x.trans x2) S2 ⟨fun j ej => ?_, ?_⟩)
          · cases ej
            refine ⟨by rw [List.length_set]; exact hk, nf, fun o u z => ?_⟩
            have := x.all _ _ _ z
            rw [e1] at this
            cases this
          · exact ri_lk (by rw [List.length_set]; exact hk) upd_same w0 fun _ _ => rfl
      · rename_i ps q1
        refine thn (ha.run pins s σ H (fun v H' => ∃ m', Xt m hd.length H m' h1.length H' ∧ Sim X.K fa m' h1 H' ∧ Rp X.K fa m' h1.length H' (.ref k) v) I (key _ fun m' H' b x S' r => ⟨m', x, S', r⟩)) fun u s1 ⟨v, H1, I1, rv, m', x, S', r⟩ => ?_
        cases r with
        | ref hk =>
          cases rv
          obtain ⟨od, L, e1, w0, r1⟩ := S'.lkt q1
          exact iter_keysD I1 e1 (q m' _ _ x S' ⟨(fun j ej => nomatch ej), ri_lk hk e1 w0 fun _ _ => rfl⟩)
      · exact (ps_bad q).elim
    | non => exact (ps_bad q).elim
    | bl => exact (ps_bad q).elim
    | int => exact (ps_bad q).elim
    | fn => exact (ps_bad q).elim
theorem li_en {elts : List Expr} {kk : Nat} {tpos : Pos} (hg : Gl X "enumerate") (hm : X.mg "enumerate" = none) (hs : isStar a = false) (ha : PE X a (tE X.K fa F ma)) :
    PI X (.Tuple elts kk tpos) (.Call (.Name "enumerate" p) [a] [] pos) (tI X.K X.H_0 fa F (.en ma)) :=
  (pi_enumA hg hm (pa_cons ha pa_nil (star_eq hs)) (star_eq hs)).mono fun t H Q ⟨m, s, h, S, L, q⟩ => by
    rw [evi_en] at q
    refine ⟨m, s, h, S, L, (Ps.bind (rel := rV X.K fa) q).imp fun x H1 ⟨d, h1, m1, _, x1, S1, r1, q1⟩ => ?_⟩
    cases r1 with
    | tup ta rs => exact ⟨_, _, rfl, .inr ⟨ta, q1 m1 H1 _ (Xt.refl _ _ _) S1 ⟨(fun _ z => nomatch z), ri_enT ta rs⟩⟩⟩
    | @ref k hk =>
      dsimp only at q1
      split at q1
      · rename_i q3
        obtain ⟨vs, e1, _⟩ := S1.lst q3
        exact ⟨_, _, rfl, .inl ⟨SqL.of e1, q1 m1 H1 _ (Xt.refl _ _ _) S1 ⟨(fun _ z => nomatch z), ri_enL hk⟩⟩⟩
      · exact (ps_bad q1).elim
    | non => exact (ps_bad q1).elim
    | bl => exact (ps_bad q1).elim
    | int => exact (ps_bad q1).elim
    | str => exact (ps_bad q1).elim
    | fn => exact (ps_bad q1).elim
theorem li_r1 {tg : Expr} (hg : Gl X "range") (hm : X.mg "range" = none) (hs : isStar a = false) (ha : PE X a (tE X.K fa F ma)) : PI X tg (.Call (.Name "range" p) [a] [] pos) (tI X.K X.H_0 fa F (.r1 ma)) :=
  (pi_range1 hg hm (pa_cons ha pa_nil (star_eq hs)) (star_eq hs)).mono fun t H Q ⟨m, s, h, S, L, q⟩ => by
    rw [evi_r1] at q
    refine ⟨m, s, h, S, L, (Ps.bind (rel := rV X.K fa) q).imp fun x H1 ⟨d, h1, m1, _, x1, S1, r1, q1⟩ => ?_⟩
    cases r1 <;> first | exact (ps_bad q1).elim | skip
    dsimp only at q1
    split at q1
    · rename_i hl
      exact ⟨_, rfl, hl.1, hl.2, q1 m1 H1 _ (Xt.refl _ _ _) S1 ⟨(fun _ z => nomatch z), ri_rng⟩⟩
    · exact (ps_bad q1).elim
theorem li_r2 {tg : Expr} (hg : Gl X "range") (hm : X.mg "range" = none) (hs : isStar a = false) (hs2 : isStar b = false) (ha : PE X a (tE X.K fa F ma)) (hb : PE X b (tE X.K fa F mb)) :
    PI X tg (.Call (.Name "range" p) [a, b] [] pos) (tI X.K X.H_0 fa F (.r2 ma mb)) :=
  (pi_range2 hg hm (pa_cons ha (pa_cons hb pa_nil (star_eq hs2)) (star_eq hs)) (by rw [star_eq hs, star_eq hs2]; rfl) (star_eq hs2)).mono fun t H Q ⟨m, s, h, S, L, q⟩ => by
    rw [evi_r2] at q
    refine ⟨m, s, h, S, L, (Ps.bind (rel := rV X.K fa) q).imp fun x H1 ⟨d, h1, m1, _, x1, S1, r1, q1⟩ => ⟨m1, s, h1, S1, L.mono x1, (Ps.bind (rel := rV X.K fa) q1).imp fun y H2 ⟨e, h2, m2, _, x2, S2, r2, q2⟩ => ?_⟩⟩
    cases r1 <;> first | exact (ps_bad q2).elim | skip
    cases r2 <;> first | exact (ps_bad q2).elim | skip
    dsimp only at q2
    split at q2
    · rename_i hl
      exact ⟨_, _, rfl, ⟨hl.1.1, hl.1.2, hl.2.1, hl.2.2⟩, q2 m2 H2 _ (Xt.refl _ _ _) S2 ⟨(fun _ z => nomatch z), ri_rng⟩⟩
    · exact (ps_bad q2).elim
theorem li_zp {elts : List Expr} {kk : Nat} {tpos : Pos} (hg : Gl X "zip") (hm : X.mg "zip" = none) (hs : isStar a = false) (hs2 : isStar b = false) (ha : PE X a (tE X.K fa F ma)) (hb : PE X b (tE X.K fa F mb)) :
    PI X (.Tuple elts kk tpos) (.Call (.Name "zip" p) [a, b] [] pos) (tI X.K X.H_0 fa F (.zp ma mb)) :=
  (RZ.pi_zipA hg hm (pa_cons ha (pa_cons hb pa_nil (star_eq hs2)) (star_eq hs)) (star_eq hs) (by rw [back_any, star_eq hs2]; rfl)).mono fun t H Q ⟨m, s, h, S, L, q⟩ => by
    rw [evi_zp] at q
    refine ⟨m, s, h, S, L, (Ps.bind (rel := rV X.K fa) q).imp fun x H1 ⟨d, h1, m1, _, x1, S1, r1, q1⟩ => ⟨m1, s, h1, S1, L.mono x1, (Ps.bind (rel := rV X.K fa) q1).imp fun y H2 ⟨e, h2, m2, _, x2, S2, r2, q2⟩ => ?_⟩⟩
    cases r1 with
    | tup ta rs =>
      cases r2 with
      | tup tb rt => exact ⟨_, _, _, _, rfl, .inr ⟨x2.sqt ta, tb, q2 m2 H2 _ (Xt.refl _ _ _) S2 ⟨(fun _ z => nomatch z), ri_zpT (x2.sqt ta) (Rps.mono x2 rs) tb rt⟩⟩⟩
      | non => exact (ps_bad q2).elim
      | bl => exact (ps_bad q2).elim
      | int => exact (ps_bad q2).elim
      | str => exact (ps_bad q2).elim
      | fn => exact (ps_bad q2).elim
      | ref => exact (ps_bad q2).elim
    | @ref k hk =>
      cases r2 with
      | @ref j hj =>
        dsimp only at q2
        split at q2
        · rename_i q3 q4
          obtain ⟨vs, e1, _⟩ := S2.lst q3
          obtain ⟨ws, e2, _⟩ := S2.lst q4
          rw [← x2.eq k hk]
          exact ⟨_, _, _, _, rfl, .inl ⟨SqL.of e1, SqL.of e2, q2 m2 H2 _ (Xt.refl _ _ _) S2 ⟨(fun _ z => nomatch z), ri_zpL (Nat.lt_of_lt_of_le hk x2.le) hj⟩⟩⟩
        · exact (ps_bad q2).elim
      | tup => exact (ps_bad q2).elim
      | non => exact (ps_bad q2).elim
      | bl => exact (ps_bad q2).elim
      | int => exact (ps_bad q2).elim
      | str => exact (ps_bad q2).elim
      | fn => exact (ps_bad q2).elim
    | non => exact (ps_bad q2).elim
    | bl => exact (ps_bad q2).elim
    | int => exact (ps_bad q2).elim
    | str => exact (ps_bad q2).elim
    | fn => exact (ps_bad q2).elim
end
end Lil
/-! Adq7: patterns, comprehensions, statements. Own work. -/
set_option linter.all false
set_option Elab.async false
set_option maxRecDepth 100000
namespace Lil
open PySem PySem.Spec PyProof.Rows L2

theorem _root_.L2.PG.mono {X : Cx} {e : Expr} {t t' : TG} (h : PG X e t) (i : ∀ v s H Q, t' v s H Q → t v s H Q) : PG X e t' := ⟨fun pins s σ H v u Q I r q => h.run pins s σ H v u Q I r (i _ _ _ _ q)⟩
theorem _root_.L2.PGs.mono {X : Cx} {e : List Expr} {t t' : TGs} (h : PGs X e t) (i : ∀ v s H Q, t' v s H Q → t v s H Q) : PGs X e t' := ⟨fun pins s σ H v u Q I r q => h.run pins s σ H v u Q I r (i _ _ _ _ q)⟩
theorem _root_.L2.PS.mono {X : Cx} {e : Stmt} {t t' : TS} (h : PS X e t) (i : ∀ D s H, t' D s H → t D s H) : PS X e t' := ⟨fun pins s σ H D I q => h.run pins s σ H D I (i _ _ _ q)⟩
theorem _root_.L2.PSs.mono {X : Cx} {e : List Stmt} {t t' : TS} (h : PSs X e t) (i : ∀ D s H, t' D s H → t D s H) : PSs X e t' := ⟨fun pins s σ H D I q => h.run pins s σ H D I (i _ _ _ q)⟩

/-! ### patterns -/
mutual
def Pt.len : Pt → Nat
  | .nm _ => 1
  | .tp _ => 1
def Pts.len : Pts → Nat
  | .nil => 0
  | .cons _ ps => ps.len + 1
end
mutual
theorem bind1_len : ∀ {p : Pt} {d : DV} {s s' : Sl}, bind1 p d s = some s' → s'.length = s.length
  | .nm i, d, s, s', e => by
    simp only [bind1, Option.some.injEq] at e
    subst e
    simp
  | .tp ps, d, s, s', e => by
    simp only [bind1] at e
    split at e
    · exact bindAll_len2 e
    · cases e
theorem bindAll_len2 : ∀ {ps : Pts} {ds : List DV} {s s' : Sl}, bindAll ps ds s = some s' → s'.length = s.length
  | .nil, [], _, _, e => by simp only [bindAll, Option.some.injEq] at e; rw [e]
  | .nil, _ :: _, _, _, e => by simp [bindAll] at e
  | .cons _ _, [], _, _, e => by simp [bindAll] at e
  | .cons p ps, d :: ds, s, s', e => by
    simp only [bindAll] at e
    split at e
    · rename_i s1 e1
      rw [bindAll_len2 e, bind1_len e1]
    · cases e
end
theorem bindAll_len : ∀ {ps : Pts} {ds : List DV} {s s' : Sl}, bindAll ps ds s = some s' → ds.length = ps.len
  | .nil, [], _, _, _ => rfl
  | .nil, _ :: _, _, _, e => by simp [bindAll] at e
  | .cons _ _, [], _, _, e => by simp [bindAll] at e
  | .cons p ps, d :: ds, s, s', e => by
    simp only [bindAll] at e
    split at e
    · show ds.length + 1 = ps.len + 1
      rw [bindAll_len e]
    · cases e
section
variable (K : PySem.W.Frag) (fa : Fa)
def gP (p : Pt) : TG := fun v t H Q => ∃ m n s d s', Slots K fa m n H s t ∧ Rp K fa m n H d v ∧ bind1 p d s = some s' ∧ ∀ t', Slots K fa m n H s' t' → (∀ j : Nat, j ∉ p.sl → t'[j]? = t[j]?) → Q t' H
def gPs (ps : Pts) : TGs := fun vs t H Q => ∃ m n s ds s', Slots K fa m n H s t ∧ Rps K fa m n H ds vs ∧ bindAll ps ds s = some s' ∧ ∀ t', Slots K fa m n H s' t' → (∀ j : Nat, j ∉ ps.sl → t'[j]? = t[j]?) → Q t' H
end
section
variable {X : Cx} {fa : Fa} {F : Nat → List DV → Hd → Res DV} {pos : Pos}
theorem lp_nm {i : Nat} {x : Str} (hN : X.N.Nodup) (hi : X.N[i]? = some x) (hx : Loc X.env.scope x) (hf : X.fn x = true ∨ X.env.scope.names.lookup x = some .local) : PG X (.Name x pos) (gP X.K fa (.nm i)) :=
  (pg_name hN hi hx hf).mono fun v t H Q ⟨m, n, s, d, s', L, r, e, q⟩ => by
    simp only [bind1, Option.some.injEq] at e
    subst e
    refine q _ (L.set i r) fun j hj => ?_
    rw [List.getElem?_set_ne]
    intro z
    exact hj (by simp [Pt.sl, z])
theorem lps_nil : PGs X [] (gPs X.K fa .nil) :=
  pgs_nil.mono fun vs t H Q ⟨m, n, s, ds, s', L, r, e, q⟩ => by
    cases r with
    | nil =>
      simp only [bindAll, Option.some.injEq] at e
      subst e
      exact ⟨rfl, q t L fun _ _ => rfl⟩
    | cons => simp [bindAll] at e
theorem each_eq {e : Expr} {es : List Expr} {env : Env} (h : isStar e = false) : assignEach (e :: es) env = (false, assign e env) :: assignEach es env := by
  cases e <;> first | rfl | cases h
theorem lps_cons {e : Expr} {es : List Expr} {p : Pt} {ps : Pts} (hs : isStar e = false) (h1 : PG X e (gP X.K fa p)) (h2 : PGs X es (gPs X.K fa ps)) : PGs X (e :: es) (gPs X.K fa (.cons p ps)) :=
  (pgs_cons h1 h2 (by rw [each_eq hs]; rfl)).mono fun vs t H Q ⟨m, n, s, ds, s', L, r, e, q⟩ => by
    cases r with
    | nil => simp [bindAll] at e
    | cons a b =>
      simp only [bindAll] at e
      split at e
      · rename_i s1 e1
        refine ⟨_, _, rfl, m, n, s, _, s1, L, a, e1, fun t1 L1 o1 => ⟨m, n, s1, _, s', L1, b, e, fun t' L' o' => q t' L' fun j hj => ?_⟩⟩
        simp only [Pts.sl, List.mem_append, not_or] at hj
        exact (o' j hj.2).trans (o1 j hj.1)
      · cases e
theorem each_len {env : Env} : ∀ {es : List Expr}, (assignEach es env).length = es.length
  | [] => rfl
  | e :: es => by
    have ih := each_len (env := env) (es := es)
    cases e <;> exact congrArg Nat.succ ih
theorem each_none {env : Env} : ∀ {es : List Expr}, es.any isStar = false → (assignEach es env).findIdx? (·.1) = none
  | [], _ => rfl
  | e :: es, h => by
    rw [List.any_cons, Bool.or_eq_false_iff] at h
    rw [each_eq h.1, List.findIdx?_cons]
    simp [each_none h.2]
theorem lp_tp {es : List Expr} {ps : Pts} {k : Nat} (hc : X.calm = true) (hs : es.any isStar = false) (hl : ps.len = es.length) (h : PGs X es (gPs X.K fa ps)) : PG X (.Tuple es k pos) (gP X.K fa (.tp ps)) :=
  (pg_tup hc h rfl (each_none hs)).mono fun v t H Q ⟨m, n, s, d, s', L, r, e, q⟩ => by
    cases r with
    | tup ta rs =>
      simp only [bind1] at e
      refine ⟨_, _, rfl, ta, ?_, m, n, s, _, s', L, rs, e, q⟩
      rw [each_len, ← hl, ← bindAll_len e, rs.length]
    | non => simp [bind1] at e
    | bl => simp [bind1] at e
    | int => simp [bind1] at e
    | str => simp [bind1] at e
    | ref => simp [bind1] at e
    | fn => simp [bind1] at e
end

/-! ### locks -/
section
variable {K : PySem.W.Frag} {H0 H H1 : Hp} {fa : Fa} {m m1 : Nat → Addr} {n n1 : Nat} {it : It}
/-- what the end of a walk does to the locked dict -/
theorem unlk_ok (x1 : Xt m n H m1 n1 H1) (lk : ∀ k, it = .dk k → k < n1 ∧ (∀ o u, H0 (m1 k) ≠ some (.frz o u)) ∧ ∀ o u, H (m1 k) ≠ some (.frz o u)) {m' : Nat → Addr} {h' : Hd} {H' : Hp} (x : Xt m1 n1 H1 m' h'.length H') (S : Sim K fa m' h' H') :
    ∃ H'', UnlH H0 H' H'' ∧ Xt m n H m' (unlk it h').length H'' ∧ Sim K fa m' (unlk it h') H'' ∧ Xw m' h'.length H' m' (unlk it h').length H'' := by
  have triv : unlk it h' = h' → ∃ H'', UnlH H0 H' H'' ∧ Xt m n H m' (unlk it h').length H'' ∧ Sim K fa m' (unlk it h') H'' ∧ Xw m' h'.length H' m' (unlk it h').length H'' := fun e => by
    rw [e]
    exact ⟨H', .same, x1.trans x, S, (Xt.refl _ _ _).w⟩
  cases it with
  | dk k =>
    obtain ⟨l1, l2, l3⟩ := lk k rfl
    cases z : h'[k]? with
    | none => exact triv (by unfold unlk; dsimp only; rw [z])
    | some o =>
      cases o with
      | lkt ps =>
        obtain ⟨od, L, e1, _, r⟩ := S.lkt z
        have em := x.eq k l1
        have e : unlk (.dk k) h' = h'.set k (.dtt ps) := by unfold unlk; dsimp only; rw [z]
        rw [e, List.length_set]
        refine ⟨_, .un e1 (by rw [em]; exact l2), (x1.trans x).unlk e1 (by rw [em]; exact l3), S.unlk z e1 r, Xw.unlk e1 _⟩
      | lkk ps => exact (by cases S.obj k _ z)
      | lst => exact triv (by unfold unlk; dsimp only; rw [z])
      | fro => exact triv (by unfold unlk; dsimp only; rw [z])
      | dct => exact triv (by unfold unlk; dsimp only; rw [z])
      | dtt => exact triv (by unfold unlk; dsimp only; rw [z])
      | ins => exact triv (by unfold unlk; dsimp only; rw [z])
  | _ => exact triv rfl
theorem ps_aft {r : Res DV} {Q : VK} (x1 : Xt m n H m1 n1 H1) (lk : ∀ k, it = .dk k → k < n1 ∧ (∀ o u, H0 (m1 k) ≠ some (.frz o u)) ∧ ∀ o u, H (m1 k) ≠ some (.frz o u)) (q : Ps K fa (rV K fa) m n H (r.aft (unlk it)) Q) :
    Ps K fa (rV K fa) m1 n1 H1 r fun v H' => ∃ H'', UnlH H0 H' H'' ∧ Q v H'' := by
  cases r with
  | ok a h' =>
    intro m' H' b x S rv
    obtain ⟨H'', u, x2, S2, w⟩ := unlk_ok x1 lk x S
    exact ⟨H'', u, q m' H'' b x2 S2 (Rp.monoW w rv)⟩
  | exc => exact q
  | bad => exact q
end
/-! ### comprehensions -/
theorem wipe_eq {t t' : L2.St} {vs sl : List Nat} (hl : t'.length = t.length) (hsub : ∀ j ∈ sl, j ∈ vs) (h : ∀ j : Nat, j ∉ sl → t'[j]? = (wipe t vs)[j]?) : wipe t' vs = wipe t vs := by
  have inn : ∀ {t : L2.St} {vs : List Nat} {j : Nat}, j ∈ vs → j < t.length → (wipe t vs)[j]? = some none := by
    intro t vs
    induction vs with
    | nil => intro j hj; simp at hj
    | cons v vs ih =>
      intro j hj hlt
      unfold wipe
      by_cases e : v = j
      · subst e
        exact List.getElem?_set_self (by rw [wipe_length]; exact hlt)
      · rw [List.getElem?_set_ne e]
        exact ih ((List.mem_cons.mp hj).resolve_left (Ne.symm e)) hlt
  apply List.ext_getElem?
  intro j
  by_cases hj : j ∈ vs
  · by_cases hlt : j < t.length
    · rw [inn hj (by omega), inn hj hlt]
    · rw [List.getElem?_eq_none (by rw [wipe_length]; omega), List.getElem?_eq_none (by rw [wipe_length]; omega)]
  · rw [wipe_out hj]
    exact h j fun z => hj (hsub j z)
section
variable {X : Cx} {fa : Fa} {F : Nat → List DV → Hd → Res DV} {pos : Pos}
theorem lc_read {me : E} {p : Pt} {mi : Ie} {mc : Oe} {vs : List Nat} {t : L2.St} {H : Hp} {Q : VK} (hsub : ∀ j ∈ p.sl, j ∈ vs)
    (q : tE X.K fa F (.lc me p mi mc vs) t H Q) : tLc (tI X.K X.H_0 fa F mi) (gP X.K fa p) (tCo X.K fa F mc) (tE X.K fa F me) vs t H (fun v H' => ∃ H'', UnlH X.H_0 H' H'' ∧ Q v H'') := by
  obtain ⟨m, s, h, S, L, q⟩ := q
  rw [ev_lc] at q
  refine ⟨m, s, h, S, L, (Ps.bindK (rel := rI X.K X.H_0 H fa) q).imp fun J H1 ⟨it, h1, m1, _, x1, S1, ⟨lk, rJ⟩, q0⟩ => ?_⟩
  have q1 := ps_aft x1 lk q0
  intro D nD
  obtain ⟨x2, S2⟩ := S1.new (a := D) (o := .lst []) (u := .lst []) nD fun _ => .lst upd_same .nil
  generalize hm2 : putA m1 h1.length D = m2 at x2 S2
  have eD : m2 h1.length = D := by rw [← hm2]; exact putA_same
  have l2 : h1.length < (h1 ++ [DO.lst []]).length := by simp
  refine ⟨fun i k H3 => ∃ m3 h3, Xt m2 (h1 ++ [DO.lst []]).length (upd H1 D (.lst [])) m3 h3.length H3 ∧ Sim X.K fa m3 h3 H3 ∧ Ps X.K fa (rV X.K fa) m3 h3.length H3 (loopC it (fun d h2 => match bind1 p d (wip s vs) with
        | some s2 => (evc F mc s2 h2).bind fun t h3 => if t then (ev F me s2 h3).bind fun v h4 => .ok (some v) h4 else .ok none h3
        | none => .bad) h1.length k i h3) (fun v H' => ∃ H'', UnlH X.H_0 H' H'' ∧ Q v H''),
    ⟨FUEL, m2, _, Xt.refl _ _ _, S2, q1.later x2⟩, ?_⟩
  rintro i k H3 ⟨m3, h3, x3, S3, q3⟩
  cases k with
  | zero => exact (ps_bad q3).elim
  | succ k =>
    unfold loopC at q3
    have rj := rJ m3 h3 H3 (x2.trans x3) S3 i
    have en : m3 h1.length = D := (x3.eq _ l2).trans eD
    cases y : itemAt h3 it i with
    | bad => rw [y] at q3; exact (ps_bad q3).elim
    | stop =>
      rw [y] at q3 rj
      refine .inl ⟨rj, ?_⟩
      have z : Rp X.K fa m3 h3.length H3 (.ref h1.length) (.ref (m3 h1.length)) := .ref (Nat.lt_of_lt_of_le l2 x3.le)
      rw [en] at z
      exact ps_same S3 z q3
    | item d =>
      rw [y] at q3 rj
      dsimp only at q3
      refine .inr ⟨rj.1, fun H4 => ∃ m4 h4, Xt m2 (h1 ++ [DO.lst []]).length (upd H1 D (.lst [])) m4 h4.length H4 ∧ Sim X.K fa m4 h4 H4 ∧ Ps X.K fa (rV X.K fa) m4 h4.length H4 (loopC it (fun d h2 => match bind1 p d (wip s vs) with
        | some s2 => (evc F mc s2 h2).bind fun t h3 => if t then (ev F me s2 h3).bind fun v h4 => .ok (some v) h4 else .ok none h3
        | none => .bad) h1.length k (i + 1) h4) (fun v H' => ∃ H'', UnlH X.H_0 H' H'' ∧ Q v H''), fun H' n => ⟨k, Nat.lt_succ_self _, n⟩, fun x H4 yl => ?_⟩
      obtain ⟨x4, S4, r4⟩ := rj.2 x H4 yl
      have L4 : Slots X.K fa m3 h3.length H4 s t := (((L.mono x1).mono x2).mono x3).mono x4
      cases z : bind1 p d (wip s vs) with
      | none => rw [z] at q3; exact (ps_bad q3).elim
      | some s2 =>
        rw [z] at q3
        dsimp only at q3
        refine ⟨m3, h3.length, wip s vs, d, s2, L4.wip vs, r4, z, fun t' L' o' => ⟨wipe_eq ?_ hsub o', ?_⟩⟩
        · have e1 := L'.len
          have e2 : s2.length = (wip s vs).length := bind1_len z
          have e3 := (L4.wip vs).len
          rw [wipe_length] at e3
          omega
        · refine ⟨m3, s2, h3, S4, L', ?_⟩
          cases y1 : evc F mc s2 h3 with
          | exc => rw [y1] at q3; exact (ps_bad q3).elim
          | bad => rw [y1] at q3; exact (ps_bad q3).elim
          | ok b h5 =>
            rw [y1] at q3
            intro m5 H5 b' x5 S5 eb
            have eb' : b' = b := eb
            subst eb'
            cases b' with
            | false =>
              rw [if_neg Bool.false_ne_true]
              exact ⟨m5, h5, (x3.trans x4).trans x5, S5, q3.later (x4.trans x5)⟩
            | true =>
              rw [if_pos rfl]
              refine ⟨m5, s2, h5, S5, L'.mono x5, ?_⟩
              dsimp only [Res.bind] at q3
              simp only [if_true] at q3
              cases y2 : ev F me s2 h5 with
              | exc => rw [y2] at q3; exact (ps_bad q3).elim
              | bad => rw [y2] at q3; exact (ps_bad q3).elim
              | ok v h6 =>
                rw [y2] at q3
                intro m6 H6 w x6 S6 r6
                dsimp only at q3
                split at q3
                · rename_i ds q4
                  split at q3
                  · rename_i hl
                    have x36 := ((x3.trans x4).trans x5).trans x6
                    obtain ⟨acc, e1, ra⟩ := S6.lst q4
                    have en6 : m6 h1.length = D := (x36.eq _ l2).trans eD
                    obtain ⟨x7, S7⟩ := S6.write (o' := .lst (ds ++ [v])) (u' := .lst (acc ++ [w])) q4 rfl rfl fun x => .lst upd_same (Rps.snoc (Rps.mono x ra) (Rp.mono x r6))
                    rw [en6] at e1 x7 S7
                    refine ⟨acc, e1, by rw [← Rps.length ra, LN_eq]; exact hl, m6, _, x36.trans x7, S7, ?_⟩
                    exact q3.later (((x4.trans x5).trans x6).trans x7)
                  · exact (ps_bad q3).elim
                · exact (ps_bad q3).elim
end
end Lil
/-! Adq8: statements. Own work. -/
set_option linter.all false
set_option Elab.async false
set_option maxRecDepth 100000
namespace Lil
open PySem PySem.Spec PyProof.Rows L2

section
variable (K : PySem.W.Frag) (fa : Fa)
def Fp (m : Nat → Addr) (n : Nat) (H : Hp) (r : Fl) (D : Ends) : Prop :=
  match r with
  | .nx s h => ∀ m' H' t, Xt m n H m' h.length H' → Sim K fa m' h H' → Slots K fa m' h.length H' s t → D.nx t H'
  | .rt v h => ∀ m' H' w, Xt m n H m' h.length H' → Sim K fa m' h H' → Rp K fa m' h.length H' v w → D.rt w H'
  | .bk s h => ∀ m' H' t, Xt m n H m' h.length H' → Sim K fa m' h H' → Slots K fa m' h.length H' s t → D.bk t H'
  | .ct s h => ∀ m' H' t, Xt m n H m' h.length H' → Sim K fa m' h H' → Slots K fa m' h.length H' s t → D.ct t H'
  | _ => False
def tS (F : Nat → List DV → Hd → Res DV) (st : S) : TS := fun D t H => ∃ m s h, Sim K fa m h H ∧ Slots K fa m h.length H s t ∧ Fp K fa m h.length H (evS F st s h) D
def tB (F : Nat → List DV → Hd → Res DV) (st : Ss) : TS := fun D t H => ∃ m s h, Sim K fa m h H ∧ Slots K fa m h.length H s t ∧ Fp K fa m h.length H (evB F st s h) D
def gT (F : Nat → List DV → Hd → Res DV) (g : Tg) : TG := fun v t H Q => ∃ m s h d, Sim K fa m h H ∧ Slots K fa m h.length H s t ∧ Rp K fa m h.length H d v ∧ Ps K fa (rSl K fa) m h.length H (asg F g d s h) Q
def gTs (F : Nat → List DV → Hd → Res DV) (g : Tgs) : TGs := fun v t H Q => ∃ m s h d, Sim K fa m h H ∧ Slots K fa m h.length H s t ∧ Rps K fa m h.length H d v ∧ Ps K fa (rSl K fa) m h.length H (asgs F g d s h) Q
end
theorem fp_bad {K : PySem.W.Frag} {fa : Fa} {m : Nat → Addr} {n : Nat} {H : Hp} {D : Ends} (p : Fp K fa m n H .bad D) : False := p
section
variable {K : PySem.W.Frag} {fa : Fa} {m m1 : Nat → Addr} {n n1 : Nat} {H H1 : Hp} {D D' : Ends}
theorem Fp.later {r : Fl} (p : Fp K fa m n H r D) (x : Xt m n H m1 n1 H1) : Fp K fa m1 n1 H1 r D := by
  cases r with
  | nx => exact fun m' H' t y s l => p m' H' t (x.trans y) s l
  | rt => exact fun m' H' t y s l => p m' H' t (x.trans y) s l
  | bk => exact fun m' H' t y s l => p m' H' t (x.trans y) s l
  | ct => exact fun m' H' t y s l => p m' H' t (x.trans y) s l
  | exc => exact p
  | bad => exact p
theorem Fp.bind {α β : Type} {rel : Rel α β} {r : Res α} {f : α → Hd → Fl} (p : Fp K fa m n H (r.fl f) D) :
    Ps K fa rel m n H r fun b H1 => ∃ a h1 m1, r = .ok a h1 ∧ Xt m n H m1 h1.length H1 ∧ Sim K fa m1 h1 H1 ∧ rel a m1 h1.length H1 b ∧ Fp K fa m1 h1.length H1 (f a h1) D := by
  cases r with
  | ok a h' => exact fun m' H' b x s q => ⟨a, h', m', rfl, x, s, q, p.later x⟩
  | exc => exact p
  | bad => exact p
theorem Fp.bindK {α β : Type} {rel : Rel α β} {r : Res α} {f : α → Hd → Fl} (p : Fp K fa m n H (r.fl f) D) :
    Ps K fa rel m n H r fun b H1 => ∃ a h1 m1, r = .ok a h1 ∧ Xt m n H m1 h1.length H1 ∧ Sim K fa m1 h1 H1 ∧ rel a m1 h1.length H1 b ∧ Fp K fa m n H (f a h1) D := by
  cases r with
  | ok a h' => exact fun m' H' b x s q => ⟨a, h', m', rfl, x, s, q, p⟩
  | exc => exact p
  | bad => exact p
theorem fp_aft {H0 : Hp} {it : It} {r : Fl} (x1 : Xt m n H m1 n1 H1) (lk : ∀ k, it = .dk k → k < n1 ∧ (∀ o u, H0 (m1 k) ≠ some (.frz o u)) ∧ ∀ o u, H (m1 k) ≠ some (.frz o u)) (q : Fp K fa m n H (r.aft (unlk it)) D) : Fp K fa m1 n1 H1 r (unD H0 D) := by
  cases r with
  | nx s h' =>
    intro m' H' b x S L
    obtain ⟨H'', u, x2, S2, w⟩ := unlk_ok x1 lk x S
    exact ⟨H'', u, q m' H'' b x2 S2 (L.monoW w)⟩
  | rt v h' =>
    intro m' H' b x S L
    obtain ⟨H'', u, x2, S2, w⟩ := unlk_ok x1 lk x S
    exact ⟨H'', u, q m' H'' b x2 S2 (L.monoW w)⟩
  | bk s h' =>
    intro m' H' b x S L
    obtain ⟨H'', u, x2, S2, w⟩ := unlk_ok x1 lk x S
    exact ⟨H'', u, q m' H'' b x2 S2 (L.monoW w)⟩
  | ct s h' =>
    intro m' H' b x S L
    obtain ⟨H'', u, x2, S2, w⟩ := unlk_ok x1 lk x S
    exact ⟨H'', u, q m' H'' b x2 S2 (L.monoW w)⟩
  | exc => exact q
  | bad => exact q
theorem Fp.imp {r : Fl} (p : Fp K fa m n H r D) (h1 : ∀ t H, D.nx t H → D'.nx t H) (h2 : ∀ v H, D.rt v H → D'.rt v H) (h3 : ∀ t H, D.bk t H → D'.bk t H) (h4 : ∀ t H, D.ct t H → D'.ct t H) : Fp K fa m n H r D' := by
  cases r with
  | nx => exact fun m' H' t y s l => h1 _ _ (p m' H' t y s l)
  | rt => exact fun m' H' t y s l => h2 _ _ (p m' H' t y s l)
  | bk => exact fun m' H' t y s l => h3 _ _ (p m' H' t y s l)
  | ct => exact fun m' H' t y s l => h4 _ _ (p m' H' t y s l)
  | exc => exact p
  | bad => exact p
end

section
variable {X : Cx} {fa : Fa} {F : Nat → List DV → Hd → Res DV} {a b c e : Expr} {ma mb mc me : E} {pos : Pos}
/-! ### targets -/
theorem lt_nm {i : Nat} {x : Str} (hN : X.N.Nodup) (hi : X.N[i]? = some x) (hx : Loc X.env.scope x) (hf : X.fn x = true ∨ X.env.scope.names.lookup x = some .local) : PG X (.Name x pos) (gT X.K fa F (.pt (.nm i))) :=
  (pg_name hN hi hx hf).mono fun v t H Q ⟨m, s, h, d, S, L, r, q⟩ => by
    simp only [asg, bind1] at q
    exact q m H _ (Xt.refl _ _ _) S (L.set i r)
theorem lts_nil : PGs X [] (gTs X.K fa F .nil) :=
  pgs_nil.mono fun vs t H Q ⟨m, s, h, ds, S, L, r, q⟩ => by
    cases r with
    | nil =>
      simp only [asgs] at q
      exact ⟨rfl, q m H t (Xt.refl _ _ _) S L⟩
    | cons => simp only [asgs] at q; exact (ps_bad q).elim
theorem lts_cons {es : List Expr} {g : Tg} {gs : Tgs} (hs : isStar e = false) (h1 : PG X e (gT X.K fa F g)) (h2 : PGs X es (gTs X.K fa F gs)) : PGs X (e :: es) (gTs X.K fa F (.cons g gs)) :=
  (pgs_cons h1 h2 (by rw [each_eq hs]; rfl)).mono fun vs t H Q ⟨m, s, h, ds, S, L, r, q⟩ => by
    cases r with
    | nil => simp only [asgs] at q; exact (ps_bad q).elim
    | cons a b =>
      simp only [asgs] at q
      exact ⟨_, _, rfl, m, s, h, _, S, L, a, (Ps.bind (rel := rSl X.K fa) q).imp fun t1 H1 ⟨s1, h1, m1, _, x1, S1, L1, q1⟩ => ⟨m1, s1, h1, _, S1, L1, Rps.mono x1 b, q1⟩⟩
def Tgs.len : Tgs → Nat
  | .nil => 0
  | .cons _ g => g.len + 1
theorem asgs_len {gs : Tgs} : ∀ {ds : List DV} {s : Sl} {h : Hd}, asgs F gs ds s h ≠ .bad → (∀ c f h', asgs F gs ds s h ≠ .exc c f h') → ds.length = gs.len := by
  induction gs using Tgs.rec (motive_1 := fun _ => True) with
  | nil =>
    intro ds s h n1 n2
    cases ds with
    | nil => rfl
    | cons => simp [asgs] at n1
  | cons g gs _ ih =>
    intro ds s h n1 n2
    cases ds with
    | nil => simp [asgs] at n1
    | cons d ds =>
      simp only [asgs] at n1 n2
      show ds.length + 1 = gs.len + 1
      cases y : asg F g d s h with
      | ok s1 h1 =>
        rw [y] at n1 n2
        rw [ih (s := s1) (h := h1) n1 n2]
      | exc c f h' => rw [y] at n2; exact absurd rfl (n2 c f h')
      | bad => rw [y] at n1; exact absurd rfl n1
  | pt => trivial
  | sub => trivial
  | tp => trivial
theorem ps_ne {α β : Type} {K : PySem.W.Frag} {rel : Rel α β} {m : Nat → Addr} {n : Nat} {H : Hp} {Q : β → Hp → Prop} {r : Res α} (p : Ps K fa rel m n H r Q) : ∀ c f h', r ≠ .exc c f h' := fun c f h' e => by
  rw [e] at p
  exact p
theorem lt_tp {es : List Expr} {gs : Tgs} {k : Nat} (hc : X.calm = true) (hs : es.any isStar = false) (hl : gs.len = es.length) (h : PGs X es (gTs X.K fa F gs)) : PG X (.Tuple es k pos) (gT X.K fa F (.tp gs)) :=
  (pg_tup hc h rfl (each_none hs)).mono fun v t H Q ⟨m, s, h, d, S, L, r, q⟩ => by
    cases r with
    | tup ta rs =>
      simp only [asg] at q
      refine ⟨_, _, rfl, ta, ?_, m, s, h, _, S, L, rs, q⟩
      rw [each_len, ← hl, ← asgs_len (ps_nb q) (ps_ne q), rs.length]
    | non => simp only [asg] at q; exact (ps_bad q).elim
    | bl => simp only [asg] at q; exact (ps_bad q).elim
    | int => simp only [asg] at q; exact (ps_bad q).elim
    | str => simp only [asg] at q; exact (ps_bad q).elim
    | ref => simp only [asg] at q; exact (ps_bad q).elim
    | fn => simp only [asg] at q; exact (ps_bad q).elim
theorem lt_sub {o i : Expr} {mo mi : E} (hw : X.w = fa.w) (hu : X.A.units + 64 < cLine) (hi : isSlice i = false) (ho : PE X o (tE X.K fa F mo)) (hj : PE X i (tE X.K fa F mi)) : PG X (.Subscript o i pos) (gT X.K fa F (.sub mo mi)) :=
  (pg_sub ho hj (sto_ok (fa := fa) hw hu) (by intro v; cases i <;> first | rfl | cases hi)).mono fun v t H Q ⟨m, s, h, d, S, L, r, q⟩ => by
    simp only [asg] at q
    refine ⟨m, s, h, S, L, (Ps.bind (rel := rV X.K fa) q).imp fun x H1 ⟨a, h1, m1, _, x1, S1, r1, q1⟩ => ⟨m1, s, h1, S1, L.mono x1,
      (Ps.bind (rel := rV X.K fa) q1).imp fun y H2 ⟨b, h2, m2, _, x2, S2, r2, q2⟩ => ?_⟩⟩
    cases z : store a b d h2 with
    | none => rw [z] at q2; exact (ps_bad q2).elim
    | some h3 =>
      rw [z] at q2
      exact ⟨m2, h2, a, b, d, h3, S2, Rp.mono x2 r1, r2, Rp.mono x2 (Rp.mono x1 r), z, fun H' x3 S3 => q2 m2 H' t x3 S3 (((L.mono x1).mono x2).mono x3)⟩

/-! ### statements -/
theorem ls_asg {tg : Expr} {g : Tg} (hs : swapsWithSole [tg] e pos.line X.env = pure false) (hw : swappedStores [tg] e X.env = pure none) (h1 : isStar tg = false) (he : PE X e (tE X.K fa F me)) (hg : PG X tg (gT X.K fa F g)) :
    PS X (.Assign [tg] e pos) (tS X.K fa F (.asg g me)) :=
  (ps_asg he hg hs hw (by rw [each_eq h1]; rfl)).mono fun D t H ⟨m, s, h, S, L, q⟩ => by
    rw [evS_asg] at q
    exact ⟨m, s, h, S, L, (Fp.bind (rel := rV X.K fa) q).imp fun x H1 ⟨a, h1, m1, _, x1, S1, r1, q1⟩ => ⟨m1, s, h1, a, S1, L.mono x1, r1,
      (Fp.bind (rel := rSl X.K fa) q1).imp fun t1 H2 ⟨s1, h2, m2, _, x2, S2, L2, q2⟩ => q2 m2 H2 t1 (Xt.refl _ _ _) S2 L2⟩⟩
theorem ls_setLc {i : Nat} {y : Str} {py spos : Pos} {elt tg iter : Expr} {ifs : List Expr} {scope : Scope} {own : List (Str × Nat)} {p : Pt} {mi : Ie} {mo : Oe}
    (hc : X.calm = true) (hN : X.N.Nodup) (hy : X.N[i]? = some y) (hyl : X.env.scope.names.lookup y = some .local)
    (hsw : swapsWith (.ListComp elt [⟨tg, iter, ifs, 0⟩] scope pos) (some (.Name y py)) spos.line X.env = pure true) (hi : PI X tg iter (tI X.K X.H_0 fa F mi)) (ok : BlkOk X.N X.env.scope scope own)
    (hg : ∀ (s : Shared) (H : Hp) (C : Addr) (cl : List (Str × Addr)) (fp : List Addr), PG (X.blk s H scope (compEnvC scope cl C X.env) fp) tg (gP X.K fa p))
    (ht : ∀ (s : Shared) (H : Hp) (C : Addr) (cl : List (Str × Addr)) (fp : List Addr), PTs (X.blk s H scope (compEnvC scope cl C X.env) fp) ifs (tCo X.K fa F mo))
    (he : ∀ (s : Shared) (H : Hp) (C : Addr) (cl : List (Str × Addr)) (fp : List Addr), PE (X.blk s H scope (compEnvC scope cl C X.env) fp) elt (tE X.K fa F me)) (hs : ∀ x, foldedSetIterable iter X.env x = pure x)
    (hsub : ∀ j ∈ p.sl, j ∈ own.map (·.2)) :
    PS X (.Assign [.Name y py] (.ListComp elt [⟨tg, iter, ifs, 0⟩] scope pos) spos) (tS X.K fa F (.asg (.pt (.nm i)) (.lc me p mi mo (own.map (·.2))))) :=
  (ps_unl (ps_setLc hc hN hy hyl hsw hi ok hg ht he hs)).mono fun D t H ⟨m, s, h, S, L, q⟩ => by
    rw [evS_asg] at q
    refine lc_read (Q := fun x H1 => gName i x t H1 D.nx) hsub ⟨m, s, h, S, L, (Fp.bind (rel := rV X.K fa) q).imp fun x H1 ⟨a, h1, m1, _, x1, S1, r1, q1⟩ => ?_⟩
    simp only [asg, bind1, Res.fl] at q1
    exact q1 m1 H1 _ (Xt.refl _ _ _) S1 ((L.mono x1).set i r1)
theorem ls_par2 {i j : Nat} {x y : Str} {px py pt : Pos} {kt k2 : Nat} {pt2 : Pos} {mes : Es} (hc : X.calm = true) (hN : X.N.Nodup) (hi : X.N[i]? = some x) (hj : X.N[j]? = some y) (hij : i ≠ j)
    (hx : X.env.scope.names.lookup x = some .local) (hy : X.env.scope.names.lookup y = some .local) (ha : PA X [a, b] (tEs X.K fa F mes))
    (hw : swappedStores [.Tuple [.Name x px, .Name y py] kt pt] (.Tuple [a, b] k2 pt2) X.env = pure (some [x, y])) :
    PS X (.Assign [.Tuple [.Name x px, .Name y py] kt pt] (.Tuple [a, b] k2 pt2) pos) (tS X.K fa F (.par [i, j] mes)) :=
  (ps_par hc hN hi hj hij hx hy ha hw).mono fun D t H ⟨m, s, h, S, L, q⟩ => by
    rw [evS_par] at q
    refine ⟨m, s, h, S, L, (Fp.bind (rel := rVs X.K fa) q).imp fun vs H1 ⟨ds, h1, m1, _, x1, S1, r1, q1⟩ => ?_⟩
    cases r1 with
    | nil => exact (fp_bad q1).elim
    | cons p1 t1 =>
      cases t1 with
      | nil => exact (fp_bad q1).elim
      | cons p2 t2 =>
        cases t2 with
        | cons => exact (fp_bad q1).elim
        | nil => exact ⟨_, _, rfl, q1 m1 H1 _ (Xt.refl _ _ _) S1 (((L.mono x1).set i p1).set j p2)⟩
theorem ls_par3 {i j l : Nat} {x y z : Str} {px py pz pt : Pos} {kt k2 : Nat} {pt2 : Pos} {mes : Es} (hc : X.calm = true) (hN : X.N.Nodup) (hi : X.N[i]? = some x) (hj : X.N[j]? = some y) (hl : X.N[l]? = some z) (hij : i ≠ j) (hil : i ≠ l) (hjl : j ≠ l)
    (hx : X.env.scope.names.lookup x = some .local) (hy : X.env.scope.names.lookup y = some .local) (hz : X.env.scope.names.lookup z = some .local) (ha : PA X [a, b, c] (tEs X.K fa F mes))
    (hw : swappedStores [.Tuple [.Name x px, .Name y py, .Name z pz] kt pt] (.Tuple [a, b, c] k2 pt2) X.env = pure (some [x, y, z])) :
    PS X (.Assign [.Tuple [.Name x px, .Name y py, .Name z pz] kt pt] (.Tuple [a, b, c] k2 pt2) pos) (tS X.K fa F (.par [i, j, l] mes)) :=
  (ps_par3 hc hN hi hj hl hij hil hjl hx hy hz ha hw).mono fun D t H ⟨m, s, h, S, L, q⟩ => by
    rw [evS_par] at q
    refine ⟨m, s, h, S, L, (Fp.bind (rel := rVs X.K fa) q).imp fun vs H1 ⟨ds, h1, m1, _, x1, S1, r1, q1⟩ => ?_⟩
    cases r1 with
    | nil => exact (fp_bad q1).elim
    | cons p1 t1 =>
      cases t1 with
      | nil => exact (fp_bad q1).elim
      | cons p2 t2 =>
        cases t2 with
        | nil => exact (fp_bad q1).elim
        | cons p3 t3 =>
          cases t3 with
          | cons => exact (fp_bad q1).elim
          | nil => exact ⟨_, _, _, rfl, q1 m1 H1 _ (Xt.refl _ _ _) S1 ((((L.mono x1).set i p1).set j p2).set l p3)⟩
/-- x op= y -/
def rIop (K : PySem.W.Frag) (fa : Fa) (o : Bop) : R2 := fun x y H Q => ∃ m h a b, Sim K fa m h H ∧ Rp K fa m h.length H a x ∧ Rp K fa m h.length H b y ∧ Ps K fa (rV K fa) m h.length H (iop o a b h) Q
theorem iop_okk {o : Operator} {o' : Bop} (e : bopOf o = some o') (hp : o' ≠ .pow ∧ o' ≠ .fdiv) : OpR X (inplaceOp o) (rIop X.K fa o') := by
  intro pins s σ H x y v u Q I rx ry ⟨m, h, a, b, S, ra, rb, q⟩
  have q' : Ps X.K fa (rV X.K fa) m h.length H (bop o' a b h) Q := by
    cases a <;> first | exact q | exact (ps_bad q).elim
  have na : ∀ k, a ≠ .ref k := fun k z => by
    subst z
    exact ps_bad q
  have nt : ∀ k, a ≠ .tup k := fun k z => by
    subst z
    exact ps_bad q
  clear q
  cases o <;> (first | (cases e; done) | (injection e with e; subst e))
  · cases a <;> first | exact absurd rfl (na _) | exact absurd rfl (nt _) | skip
    all_goals (cases b <;> first | exact (ps_bad q').elim | skip)
    · cases ra; cases rb
      exact iop_add pins s σ H _ _ v u Q I rx ry ⟨_, _, rfl, rfl, ps_same S (.int _) q'⟩
    · rename_i i j
      cases ra; cases rb
      unfold bop at q'
      dsimp only at q'
      split at q'
      · rename_i hl
        refine iop_add_str pins s σ H _ _ v u Q I rx ry ⟨_, _, rfl, rfl, ?_, ?_⟩
        · rw [LN_eq]; exact hl
        · have z := ps_same S (.str _) q'
          have e2 : ((⟨i.toArray⟩ : Str) ++ ⟨j.toArray⟩) = ⟨(i ++ j).toArray⟩ := by
            show Str.append _ _ = _
            unfold Str.append
            simp
          rw [e2]
          exact z
      · exact (ps_bad q').elim
  · cases a <;> cases b <;> first | exact (ps_bad q').elim | skip
    cases ra; cases rb
    exact iop_sub pins s σ H _ _ v u Q I rx ry ⟨_, _, rfl, rfl, ps_same S (.int _) q'⟩
  · cases a <;> cases b <;> first | exact (ps_bad q').elim | skip
    cases ra; cases rb
    unfold bop at q'
    dsimp only at q'
    split at q'
    · rename_i hl
      unfold okMul at hl
      have hl' := of_decide_eq_true hl
      exact iop_mul pins s σ H _ _ v u Q I rx ry ⟨_, _, rfl, rfl, hl', ps_same S (.int _) q'⟩
    · exact (ps_bad q').elim
  · cases a <;> cases b <;> first | exact (ps_bad q').elim | skip
    cases ra; cases rb
    unfold bop at q'
    dsimp only at q'
    split at q'
    · rename_i hl
      exact iop_mod pins s σ H _ _ v u Q I rx ry ⟨_, _, rfl, rfl, hl, ps_same S (.int _) q'⟩
    · exact (ps_bad q').elim
  · exact absurd rfl hp.1
  · exact absurd rfl hp.2
theorem ls_aug {o : Operator} {o' : Bop} {i : Nat} {x : Str} {pos' : Pos} (ho : bopOf o = some o') (hp : o' ≠ .pow ∧ o' ≠ .fdiv) (hN : X.N.Nodup) (hi : X.N[i]? = some x) (hx : Loc X.env.scope x) (hf : X.fn x = true ∨ X.env.scope.names.lookup x = some .local)
    (he : PE X e (tE X.K fa F me)) : PS X (.AugAssign (.Name x pos') o e pos) (tS X.K fa F (.aug i o' me)) := by
  have hip : PIp X o (rIop X.K fa o') := iop_okk ho hp
  refine (ps_aug hN hi hx he hip hf).mono fun D t H ⟨m, s, h, S, L, q⟩ => ?_
  rw [evS_aug] at q
  split at q
  · rename_i d ed
    obtain ⟨v, hv, rv⟩ := L.at_ _ _ ed
    refine ⟨v, hv, m, s, h, S, L, (Fp.bind (rel := rV X.K fa) q).imp fun y H1 ⟨b, h1, m1, _, x1, S1, r1, q1⟩ => ⟨m1, h1, d, b, S1, Rp.mono x1 rv, r1,
      (Fp.bind (rel := rV X.K fa) q1).imp fun z H2 ⟨c, h2, m2, _, x2, S2, r2, q2⟩ => q2 m2 H2 _ (Xt.refl _ _ _) S2 (((L.mono x1).mono x2).set i r2)⟩⟩
  · exact (fp_bad q).elim
theorem ls_exp (hs : swapsWith e none pos.line X.env = pure false) (he : PE X e (tE X.K fa F me)) : PS X (.Expr e pos) (tS X.K fa F (.exp me)) :=
  (ps_expr he hs).mono fun D t H ⟨m, s, h, S, L, q⟩ => by
    rw [evS_exp] at q
    exact ⟨m, s, h, S, L, (Fp.bind (rel := rV X.K fa) q).imp fun x H1 ⟨a, h1, m1, _, x1, S1, r1, q1⟩ => q1 m1 H1 t (Xt.refl _ _ _) S1 (L.mono x1)⟩
theorem ls_ret (he : PE X e (tE X.K fa F me)) : PS X (.Return (some e) pos) (tS X.K fa F (.ret me)) :=
  (ps_ret he).mono fun D t H ⟨m, s, h, S, L, q⟩ => by
    rw [evS_ret] at q
    exact ⟨m, s, h, S, L, (Fp.bind (rel := rV X.K fa) q).imp fun x H1 ⟨a, h1, m1, _, x1, S1, r1, q1⟩ => q1 m1 H1 x (Xt.refl _ _ _) S1 r1⟩
theorem ls_retN : PS X (.Return none pos) (tS X.K fa F (.ret (.lit .non))) :=
  ps_retN.mono fun D t H ⟨m, s, h, S, L, q⟩ => by
    rw [evS_ret, ev_lit] at q
    exact q m H _ (Xt.refl _ _ _) S .non
theorem ls_if {xs ys : List Stmt} {mx my : Ss} (hc : PT X c (tT X.K fa F mc)) (ha : PSs X xs (tB X.K fa F mx)) (hb : PSs X ys (tB X.K fa F my)) : PS X (.If c xs ys pos) (tS X.K fa F (.ift mc mx my)) :=
  (ps_if hc ha hb).mono fun D t H ⟨m, s, h, S, L, q⟩ => by
    rw [evS_ift] at q
    refine ⟨m, s, h, S, L, (Fp.bind (rel := rEq) q).imp fun k H1 ⟨a, h1, m1, _, x1, S1, r1, q1⟩ => ?_⟩
    have e : k = a := r1
    subst e
    cases k with
    | true => rw [if_pos rfl]; exact ⟨m1, s, h1, S1, L.mono x1, q1⟩
    | false => rw [if_neg Bool.false_ne_true]; exact ⟨m1, s, h1, S1, L.mono x1, q1⟩
theorem ls_brk : PS X (.Break pos) (tS X.K fa F .brk) :=
  ps_break.mono fun D t H ⟨m, s, h, S, L, q⟩ => q m H t (Xt.refl _ _ _) S L
theorem ls_cnt : PS X (.Continue pos) (tS X.K fa F .cnt) :=
  ps_continue.mono fun D t H ⟨m, s, h, S, L, q⟩ => q m H t (Xt.refl _ _ _) S L
theorem ls_pas : PS X (.Pass pos) (tS X.K fa F .pas) :=
  ps_pass.mono fun D t H ⟨m, s, h, S, L, q⟩ => q m H t (Xt.refl _ _ _) S L
theorem lb_nil : PSs X [] (tB X.K fa F .nil) :=
  pss_nil.mono fun D t H ⟨m, s, h, S, L, q⟩ => q m H t (Xt.refl _ _ _) S L
theorem lb_cons {st : Stmt} {r : List Stmt} {ms : S} {mr : Ss} (h1 : PS X st (tS X.K fa F ms)) (h2 : PSs X r (tB X.K fa F mr)) : PSs X (st :: r) (tB X.K fa F (.cons ms mr)) :=
  (pss_cons h1 h2).mono fun D t H ⟨m, s, h, S, L, q⟩ => by
    rw [evB_cons] at q
    refine ⟨m, s, h, S, L, ?_⟩
    cases z : evS F ms s h with
    | nx s1 h1 =>
      rw [z] at q
      exact fun m' H' t' x S' L' => ⟨m', s1, h1, S', L', q.later x⟩
    | rt => rw [z] at q; exact q
    | bk => rw [z] at q; exact q
    | ct => rw [z] at q; exact q
    | exc => rw [z] at q; exact q
    | bad => rw [z] at q; exact q
/-- while -/
theorem ls_wh {body : List Stmt} {mb : Ss} (hx : X.xe = fun _ _ => False) (hc : PT X c (tT X.K fa F mc)) (hb : PSs X body (tB X.K fa F mb)) : PS X (.While c body [] pos) (tS X.K fa F (.wh mc mb)) :=
  (ps_while (by rw [hx]; exact PassesOwn.never) hc hb).mono fun D t H ⟨m, s, h, S, L, q⟩ => by
    rw [evS_wh] at q
    refine ⟨fun k t H => ∃ m s h, Sim X.K fa m h H ∧ Slots X.K fa m h.length H s t ∧ Fp X.K fa m h.length H (loopW (fun s1 h1 => (ev F mc s1 h1).bind truR) (fun s1 h1 => evB F mb s1 h1) k s h) D, ⟨FUEL, m, s, h, S, L, q⟩, ?_⟩
    rintro k t H ⟨m, s, h, S, L, q⟩
    cases k with
    | zero => exact (fp_bad q).elim
    | succ k =>
      unfold loopW at q
      refine ⟨m, s, h, S, L, ?_⟩
      cases y : (ev F mc s h).bind truR with
      | exc => rw [y] at q; exact q
      | bad => rw [y] at q; exact q
      | ok b h1 =>
        rw [y] at q
        intro m1 H1 b' x1 S1 eb
        have eb' : b' = b := eb
        subst eb'
        cases b' with
        | false =>
          rw [if_neg Bool.false_ne_true]
          exact q m1 H1 t x1 S1 (L.mono x1)
        | true =>
          rw [if_pos rfl]
          refine ⟨fun t' H' => ∃ m s h, Sim X.K fa m h H' ∧ Slots X.K fa m h.length H' s t' ∧ Fp X.K fa m h.length H' (loopW (fun s1 h1 => (ev F mc s1 h1).bind truR) (fun s1 h1 => evB F mb s1 h1) k s h) D, fun t' H' n => ⟨k, Nat.lt_succ_self _, n⟩, m1, s, h1, S1, L.mono x1, ?_⟩
          have q1 := q.later x1
          dsimp only at q1
          cases z : evB F mb s h1 with
          | nx s2 h2 => rw [z] at q1; exact fun m2 H2 t2 x2 S2 L2 => ⟨m2, s2, h2, S2, L2, q1.later x2⟩
          | ct s2 h2 => rw [z] at q1; exact fun m2 H2 t2 x2 S2 L2 => ⟨m2, s2, h2, S2, L2, q1.later x2⟩
          | bk s2 h2 => rw [z] at q1; exact q1
          | rt => rw [z] at q1; exact q1
          | exc => rw [z] at q1; exact q1
          | bad => rw [z] at q1; exact q1
/-- for -/
theorem ls_fo {tg iter : Expr} {body : List Stmt} {p : Pt} {mi : Ie} {mb : Ss} (hx : X.xe = fun _ _ => False) (hc : X.calm = true) (hs : ∀ x, foldedSetIterable iter X.env x = pure x)
    (hi : PI X tg iter (tI X.K X.H_0 fa F mi)) (hg : PG X tg (gP X.K fa p)) (hb : PSs X body (tB X.K fa F mb)) : PS X (.For tg iter body [] pos) (tS X.K fa F (.fo p mi mb)) :=
  (ps_unl (ps_for (by rw [hx]; exact PassesOwn.never) hc hi hg hb hs)).mono fun D0 t H ⟨m, s, h, S, L, q⟩ => by
    rw [evS_fo] at q
    refine ⟨m, s, h, S, L, (Fp.bindK (rel := rI X.K X.H_0 H fa) q).imp fun J H1 ⟨it, h1, m1, _, x1, S1, ⟨lk, rJ⟩, q0⟩ => ?_⟩
    have q1 := fp_aft x1 lk q0
    generalize unD X.H_0 D0 = D at q1
    refine ⟨fun i k t H => ∃ m s h, Xt m1 h1.length H1 m h.length H ∧ Sim X.K fa m h H ∧ Slots X.K fa m h.length H s t ∧ Fp X.K fa m h.length H (loopF it (fun d s2 h2 => match bind1 p d s2 with
      | some s3 => evB F mb s3 h2
      | none => .bad) k i s h) D, ⟨FUEL, m1, s, h1, Xt.refl _ _ _, S1, L.mono x1, q1⟩, ?_⟩
    rintro i k t H ⟨m3, s3, h3, x3, S3, L3, q3⟩
    cases k with
    | zero => exact (fp_bad q3).elim
    | succ k =>
      unfold loopF at q3
      have rj := rJ m3 h3 H x3 S3 i
      cases y : itemAt h3 it i with
      | bad => rw [y] at q3; exact (fp_bad q3).elim
      | stop =>
        rw [y] at q3 rj
        exact .inl ⟨rj, q3 m3 H t (Xt.refl _ _ _) S3 L3⟩
      | item d =>
        rw [y] at q3 rj
        dsimp only at q3
        refine .inr ⟨rj.1, fun t H => ∃ m s h, Xt m1 h1.length H1 m h.length H ∧ Sim X.K fa m h H ∧ Slots X.K fa m h.length H s t ∧ Fp X.K fa m h.length H (loopF it (fun d s2 h2 => match bind1 p d s2 with
          | some s3 => evB F mb s3 h2
          | none => .bad) k (i + 1) s h) D, fun t' H' n => ⟨k, Nat.lt_succ_self _, n⟩, fun x H4 yl => ?_⟩
        obtain ⟨x4, S4, r4⟩ := rj.2 x H4 yl
        cases z : bind1 p d s3 with
        | none => rw [z] at q3; exact (fp_bad q3).elim
        | some s5 =>
          rw [z] at q3
          dsimp only at q3
          refine ⟨m3, h3.length, s3, d, s5, L3.mono x4, r4, z, fun t' L' _ => ⟨m3, s5, h3, S4, L', ?_⟩⟩
          have q4 := q3.later x4
          cases w : evB F mb s5 h3 with
          | nx s6 h6 => rw [w] at q4; exact fun m6 H6 t6 x6 S6 L6 => ⟨m6, s6, h6, (x3.trans x4).trans x6, S6, L6, q4.later x6⟩
          | ct s6 h6 => rw [w] at q4; exact fun m6 H6 t6 x6 S6 L6 => ⟨m6, s6, h6, (x3.trans x4).trans x6, S6, L6, q4.later x6⟩
          | bk s6 h6 => rw [w] at q4; exact q4
          | rt => rw [w] at q4; exact q4
          | exc => rw [w] at q4; exact q4
          | bad => rw [w] at q4; exact q4
end
end Lil
/-! Adq9: what is translated is kept. Own work. -/
set_option linter.all false
set_option Elab.async false
set_option maxRecDepth 100000
set_option maxHeartbeats 1000000
namespace Lil
open PySem PySem.Spec PyProof.Rows L2

def BN : List Str := ["len", "list", "tuple", "any", "all", "min", "max", "sum", "abs", "int", "sorted", "range", "zip", "enumerate", "isinstance", "bool", "str", "dict"]
structure Cok (P : List FD) (fa : Fa) (d : Nat) (c : Cc) (X : Cx) : Prop where
  N : X.N = c.N
  nd : X.N.Nodup
  sc : X.env.scope = c.sc
  calm : X.calm = true
  xe : X.xe = fun _ _ => False
  fok : Fok X fa P d
  fns : ∀ x i, c.fn x = some i → X.mg x = some (.ref (fa i))
  cons : ∀ x dv, c.tp.cons.lookup x = some dv → ∃ u v, X.mg x = some u ∧ RelV v u ∧ ∀ m n H, Rp X.K fa m n H dv v
  bn : ∀ x ∈ BN, X.mg x = none
  may : ∀ x i, c.put x = some i → X.fn x = true ∨ X.env.scope.names.lookup x = some .local

theorem swapped_env (t : List Expr) (e : Expr) (env : Env) : swappedStores t e env = swappedStores t e (envP env.scope) := rfl
theorem swaps_env (e : Expr) (t : Option Expr) (l : Nat) (env : Env) : swapsWith e t l env = swapsWith e t l (envP env.scope) := rfl
theorem purOf_eq {α : Type} {x : Sem α} {a : α} (h : purOf x = some a) : x = pure a := by
  cases x <;> first | (cases h; rfl) | (cases h; done)

section
variable {P : List FD} {fa : Fa} {d : Nat} {c : Cc} {X : Cx}
theorem slot_some {x : Str} {i : Nat} (h : c.slot x = some i) : c.N[i]? = some x ∧ noDbg x = true ∧ (c.sc.names.lookup x = some .local ∨ c.sc.names.lookup x = some .cell ∨ c.sc.names.lookup x = some .free) := by
  unfold Cc.slot at h
  split at h
  · rename_i e
    split at h
    · rename_i z; cases h; exact ⟨z.1, z.2, .inl e⟩
    · cases h
  · rename_i e
    split at h
    · rename_i z; cases h; exact ⟨z.1, z.2, .inr (.inl e)⟩
    · cases h
  · rename_i e
    split at h
    · rename_i z; cases h; exact ⟨z.1, z.2, .inr (.inr e)⟩
    · cases h
  · cases h
theorem put_some {x : Str} {i : Nat} (h : c.put x = some i) : c.N[i]? = some x ∧ c.may x = true ∧ (c.sc.names.lookup x = some .local ∨ c.sc.names.lookup x = some .cell) := by
  unfold Cc.put at h
  split at h
  · rename_i e
    split at h
    · rename_i z; cases h; exact ⟨z.1, z.2, .inl e⟩
    · cases h
  · rename_i e
    split at h
    · rename_i z; cases h; exact ⟨z.1, z.2, .inr e⟩
    · cases h
  · cases h
theorem dbg_of {x : Str} (h : noDbg x = true) : (x == ("__debug__" : Str)) = false ∧ (x == ("__classdict__" : Str)) = false := by
  unfold noDbg at h
  simp only [Bool.and_eq_true, Bool.not_eq_true'] at h
  exact h
theorem glob_some {x : Str} (h : c.glob x = true) : c.sc.names.lookup x = some .globalImplicit ∧ noDbg x = true := by
  unfold Cc.glob at h
  rw [Bool.and_eq_true] at h
  exact ⟨by simpa using h.1, h.2⟩
theorem Cok.gl (C : Cok P fa d c X) {x : Str} (h : c.glob x = true) : Gl X x := by
  show X.env.scope.names.lookup x = some .globalImplicit
  rw [C.sc]
  exact (glob_some h).1
theorem Cok.vis (C : Cok P fa d c X) {x : Str} {i : Nat} (h : c.slot x = some i) : X.N[i]? = some x ∧ Vis X.env.scope x := by
  obtain ⟨h1, _, h3⟩ := slot_some h
  rw [C.N]
  refine ⟨h1, ?_⟩
  unfold Vis
  rw [C.sc]
  exact h3
theorem Cok.loc (C : Cok P fa d c X) {x : Str} {i : Nat} (h : c.put x = some i) : X.N[i]? = some x ∧ Loc X.env.scope x := by
  obtain ⟨h1, _, h3⟩ := put_some h
  rw [C.N]
  refine ⟨h1, ?_⟩
  unfold L2.Loc
  rw [C.sc]
  exact h3
theorem blt_some {x : Str} {b : String} (h : c.blt x b = true) : x = Str.ofString b ∧ c.glob x = true := by
  unfold Cc.blt at h
  rw [Bool.and_eq_true] at h
  exact ⟨by simpa using h.1, h.2⟩
theorem Cok.hu (C : Cok P fa d c X) : X.A.units + 64 < cLine := C.fok.room.units
theorem Cok.hu1 (C : Cok P fa d c X) : X.A.units + 1 < cLine := by have := C.hu; omega

theorem get_idx {x : Str} : ∀ {l : List Str}, x ∈ l → l[l.idxOf x]? = some x
  | a :: l, h => by
    rw [List.idxOf_cons]
    by_cases e : a = x
    · subst e; simp
    · have e2 : (a == x) = false := beq_eq_false_iff_ne.mpr e
      rw [e2]
      simpa using get_idx ((List.mem_cons.mp h).resolve_left (Ne.symm e))
/-- a comprehension's block -/
theorem blk_ok {scope : Scope} (h : blkB c.N c.sc scope = true) (hN : c.N.Nodup) : BlkOk c.N c.sc scope (ownOf c.N scope) := by
  unfold blkB at h
  rw [Bool.and_eq_true, Bool.and_eq_true] at h
  obtain ⟨⟨h1, h2⟩, h3⟩ := h
  have un : ∀ y ∈ scope.names, scope.names.lookup y.1 = some y.2 := fun y hy => of_decide_eq_true (List.all_eq_true.mp h2 y hy)
  refine ⟨of_decide_eq_true h1, un, fun p hp => ?_, fun y hy e => ?_, fun y hy e => ?_⟩
  · unfold ownOf at hp
    obtain ⟨y, hy, e⟩ := List.mem_filterMap.mp hp
    split at e
    · rename_i hc
      rw [Bool.and_eq_true] at hc
      cases e
      exact of_decide_eq_true hc.2
    · cases e
  · have z := List.all_eq_true.mp h3 y hy
    rw [if_pos e] at z
    exact of_decide_eq_true z
  · by_cases hm : y.1 ∈ c.N
    · left
      unfold ownOf
      rw [List.map_filterMap]
      refine List.mem_filterMap.mpr ⟨y, hy, ?_⟩
      have e1 : c.N[c.N.idxOf y.1]? = some y.1 := get_idx hm
      have e2 : ((y.2 == NameKind.local || y.2 == NameKind.cell) && decide (c.N[c.N.idxOf y.1]? = some y.1)) = true := by
        rw [Bool.and_eq_true]
        refine ⟨?_, decide_eq_true e1⟩
        rcases e with e | e <;> rw [e] <;> rfl
      rw [if_pos e2]
      rfl
    · exact .inr hm
theorem Cok.blk (C : Cok P fa d c X) {scope : Scope} (h : blkB c.N c.sc scope = true) (s : Shared) (H : Hp) (C' : Addr) (cl : List (Str × Addr)) (fp : List Addr) :
    Cok P fa d { c with sc := L2.relS scope c.sc, st := some ((ownOf c.N scope).map (·.1)) } (X.blk s H scope (compEnvC scope cl C' X.env) fp) := by
  have B := blk_ok h (by rw [← C.N]; exact C.nd)
  have hs : (compEnvC scope cl C' X.env).scope = L2.relS scope c.sc := by
    show L2.relS scope X.env.scope = _
    rw [C.sc]
  refine ⟨C.N, C.nd, hs, C.calm, rfl, ⟨C.fok.ok, C.fok.room, C.fok.w⟩, C.fns, C.cons, C.bn, fun x i hp => ?_⟩
  obtain ⟨h1, h2, h3⟩ := put_some hp
  have hm : x ∈ (ownOf c.N scope).map (·.1) := by
    have h2' : ((ownOf c.N scope).map (·.1)).contains x = true := h2
    simpa using h2'
  obtain ⟨p, hp2, ex⟩ := List.mem_map.mp hm
  unfold ownOf at hp2
  obtain ⟨y, hy, e⟩ := List.mem_filterMap.mp hp2
  split at e
  · rename_i hc
    rw [Bool.and_eq_true, Bool.or_eq_true] at hc
    cases e
    have ex' : y.1 = x := ex
    have lk := B.uniq y hy
    rw [ex'] at lk
    rcases hc.1 with k | k
    · right
      have k' : y.2 = .local := by simpa using k
      rw [k'] at lk
      show (compEnvC scope cl C' X.env).scope.names.lookup x = some .local
      rw [hs]
      exact lookup_relS_keep (by decide) lk
    · left
      have k' : y.2 = .cell := by simpa using k
      rw [k'] at lk
      show (scope.names.lookup x == some .cell) = true
      rw [lk]
      rfl
  · cases e
end

/-! ### patterns -/
structure OkP (P : List FD) (fa : Fa) (n : Nat) : Prop where
  p : ∀ {d : Nat} {c : Cc} {X : Cx} {e : Expr} {p : Pt}, Cok P fa d c X → trP n c e = some p → PG X e (gP X.K fa p)
  ps : ∀ {d : Nat} {c : Cc} {X : Cx} {es : List Expr} {ps : Pts}, Cok P fa d c X → trPs n c es = some ps → PGs X es (gPs X.K fa ps) ∧ es.any isStar = false ∧ ps.len = es.length
theorem okP (P : List FD) (fa : Fa) : ∀ n, OkP P fa n
  | 0 => ⟨fun _ h => by simp [trP] at h, fun _ h => by simp [trPs] at h⟩
  | n + 1 => by
    have ih := okP P fa n
    refine ⟨fun {d c X e p} C h => ?_, fun {d c X es ps} C h => ?_⟩
    · cases e <;> first | (simp [trP] at h; done) | skip
      · simp only [trP] at h
        obtain ⟨i, h1, h2⟩ := Option.map_eq_some_iff.mp h
        subst h2
        obtain ⟨g1, g2⟩ := C.loc h1
        exact lp_nm C.nd g1 g2 (C.may _ _ h1)
      · simp only [trP] at h
        obtain ⟨ps, h1, h2⟩ := Option.map_eq_some_iff.mp h
        subst h2
        obtain ⟨g1, g2, g3⟩ := ih.ps C h1
        exact lp_tp C.calm g2 g3 g1
    · cases es with
      | nil => simp only [trPs] at h; cases h; exact ⟨lps_nil, rfl, rfl⟩
      | cons e es =>
        simp only [trPs] at h
        split at h
        · rename_i p ps h1 h2
          split at h
          · cases h
          · rename_i hs
            cases h
            obtain ⟨g1, g2, g3⟩ := ih.ps C h2
            have hs' : isStar e = false := by simpa using hs
            exact ⟨lps_cons hs' (ih.p C h1) g1, by rw [List.any_cons, hs', g2]; rfl, by show ps.len + 1 = es.length + 1; rw [g3]⟩
        · cases h

/-! ### expressions -/
structure OkE (P : List FD) (fa : Fa) (n : Nat) : Prop where
  e : ∀ {d : Nat} {c : Cc} {X : Cx} {e : Expr} {m : E}, Cok P fa d c X → trE n c e = some m → PE X e (tE X.K fa (tab P d) m)
  t : ∀ {d : Nat} {c : Cc} {X : Cx} {e : Expr} {m : E}, Cok P fa d c X → trT n c e = some m → PT X e (tT X.K fa (tab P d) m)
  es : ∀ {d : Nat} {c : Cc} {X : Cx} {es : List Expr} {m : Es}, Cok P fa d c X → trEs n c es = some m → PA X es (tEs X.K fa (tab P d) m)
  a : ∀ {d : Nat} {c : Cc} {X : Cx} {es : List Expr} {m : E} {pos : Pos}, Cok P fa d c X → trA n c es = some m → PE X (.BoolOp .And es pos) (tE X.K fa (tab P d) m)
  o : ∀ {d : Nat} {c : Cc} {X : Cx} {es : List Expr} {m : E} {pos : Pos}, Cok P fa d c X → trO n c es = some m → PE X (.BoolOp .Or es pos) (tE X.K fa (tab P d) m)
  ta : ∀ {d : Nat} {c : Cc} {X : Cx} {es : List Expr} {m : E} {pos : Pos}, Cok P fa d c X → trTA n c es = some m → PW X (.BoolOp .And es pos) (tT X.K fa (tab P d) m)
  to : ∀ {d : Nat} {c : Cc} {X : Cx} {es : List Expr} {m : E} {pos : Pos}, Cok P fa d c X → trTO n c es = some m → PW X (.BoolOp .Or es pos) (tT X.K fa (tab P d) m)
  oe : ∀ {d : Nat} {c : Cc} {X : Cx} {e : Option Expr} {m : Oe}, Cok P fa d c X → trOe n c e = some m → PO X e (tOe X.K fa (tab P d) m)
  ifs : ∀ {d : Nat} {c : Cc} {X : Cx} {es : List Expr} {m : Oe}, Cok P fa d c X → trIf n c es = some m → PTs X es (tCo X.K fa (tab P d) m)
  i : ∀ {d : Nat} {c : Cc} {X : Cx} {tg e : Expr} {m : Ie}, Cok P fa d c X → trI n c tg e = some m → PI X tg e (tI X.K X.H_0 fa (tab P d) m) ∧ ∀ x, foldedSetIterable e X.env x = pure x

section
variable {P : List FD} {fa : Fa} {n d : Nat} {c : Cc} {X : Cx}
theorem set_no {e : Expr} {env : Env} (h : isSet e = false) : ∀ x, foldedSetIterable e env x = pure x := by
  intro x
  cases e <;> first | rfl | cases h
theorem bn_mem {X : Cx} {b : String} (h : ∀ x ∈ BN, X.mg x = none) (hb : Str.ofString b ∈ BN) : X.mg (Str.ofString b) = none := h _ hb
/-- one-place built-ins -/
theorem ok_blt1 {x : Str} {b : Blt} {a : Expr} {ma : E} {pos p : Pos} (C : Cok P fa d c X) (h : blt1 c x pos.line = some b) (hs : isStar a = false) (ha : PE X a (tE X.K fa (tab P d) ma)) :
    PE X (.Call (.Name x p) [a] [] pos) (tE X.K fa (tab P d) (.blt b (.cons ma .nil))) := by
  have F : ∀ {id : String} {bl : Blt} {y : String}, c.blt x y = true → Str.ofString y ∈ BN → bootBuiltins (Str.ofString y) = some (.builtin id) → (Str.ofString y) ≠ "__name__" → CallR X (.builtin id) (rBlt X.K fa bl) →
      PE X (.Call (.Name x p) [a] [] pos) (tE X.K fa (tab P d) (.blt bl (.cons ma .nil))) := fun {id bl y} hx hm hv hn hc => by
    obtain ⟨e1, e2⟩ := blt_some hx
    have dg := (dbg_of (glob_some e2).2).1
    have gl := C.gl e2
    subst e1
    exact l_bltF hc gl (C.bn _ hm) hv hn dg hs ha
  have T : ∀ {id : String} {bl : Blt} {y : String}, c.blt x y = true → Str.ofString y ∈ BN → bootBuiltins (Str.ofString y) = some (.type id) → (Str.ofString y) ≠ "__name__" → CallR X (.type id) (rBlt X.K fa bl) →
      PE X (.Call (.Name x p) [a] [] pos) (tE X.K fa (tab P d) (.blt bl (.cons ma .nil))) := fun {id bl y} hx hm hv hn hc => by
    obtain ⟨e1, e2⟩ := blt_some hx
    have dg := (dbg_of (glob_some e2).2).1
    have gl := C.gl e2
    subst e1
    exact l_bltT hc gl (C.bn _ hm) hv hn dg hs ha
  unfold blt1 at h
  split at h
  · rename_i b' hb
    cases h
    have h := hb
    clear hb
    unfold blt1a at h
    split at h
    · rename_i z; cases h; exact F z (by decide +kernel) boot_len (by decide +kernel) (blt_len C.fok.w)
    split at h
    · rename_i z; cases h; exact T z (by decide +kernel) boot_list (by decide +kernel) blt_list
    split at h
    · rename_i z; cases h; exact T z (by decide +kernel) boot_tuple (by decide +kernel) blt_tuple
    split at h
    · rename_i z; cases h; exact F z (by decide +kernel) boot_any (by decide +kernel) (blt_any C.calm)
    split at h
    · rename_i z; cases h; exact F z (by decide +kernel) boot_all (by decide +kernel) (blt_all C.calm)
    split at h
    · rename_i z; cases h; exact F z (by decide +kernel) boot_min (by decide +kernel) (blt_min C.calm)
    split at h
    · rename_i z; cases h; exact F z (by decide +kernel) boot_max (by decide +kernel) (blt_max C.calm)
    split at h
    · rename_i z; cases h; exact F z (by decide +kernel) boot_sum (by decide +kernel) (blt_sum C.calm)
    split at h
    · rename_i z; cases h; exact F z (by decide +kernel) boot_abs (by decide +kernel) blt_abs
    split at h
    · rename_i z; cases h; exact T z (by decide +kernel) boot_int (by decide +kernel) blt_int
    split at h
    · rename_i z; cases h; exact F z (by decide +kernel) boot_sorted (by decide +kernel) (blt_sorted C.calm C.hu C.fok.w)
    cases h
  · unfold blt1b at h
    split at h
    · rename_i z
      split at h
      · cases h; exact T z (by decide +kernel) boot_dict (by decide +kernel) (blt_dictt C.fok.w C.hu C.calm)
      · cases h
    · cases h
theorem tyn_ok {y : Str} {t : Tyn} (h : tynOf c y = some t) : c.blt y (tyN t) = true ∧ Str.ofString (tyN t) ∈ BN ∧ bootBuiltins (Str.ofString (tyN t)) = some (.type (tyN t)) ∧ Str.ofString (tyN t) ≠ "__name__" := by
  unfold tynOf at h
  split at h
  · rename_i z; cases h; exact ⟨z, by decide +kernel, boot_int, by decide +kernel⟩
  split at h
  · rename_i z; cases h; exact ⟨z, by decide +kernel, boot_bool, by decide +kernel⟩
  split at h
  · rename_i z; cases h; exact ⟨z, by decide +kernel, boot_str, by decide +kernel⟩
  split at h
  · rename_i z; cases h; exact ⟨z, by decide +kernel, boot_tuple, by decide +kernel⟩
  cases h
theorem ok_const {k : Const} {j : Nat} {pos : Pos} {m : E} (h : trE (n + 1) c (.Constant k j pos) = some m) : PE X (.Constant k j pos) (tE X.K fa (tab P d) m) := by
  cases k <;> (simp only [trE] at h) <;> first | (cases h; done) | (injection h with h; subst h)
  · exact l_lit pe_non fun _ _ _ => .non
  · exact l_lit pe_bl fun _ _ _ => .bl _
  · exact l_lit pe_int fun _ _ _ => .int _
  · rename_i s
    refine l_lit pe_str fun _ _ _ => ?_
    have z : Rp X.K fa ‹_› ‹_› ‹_› (.str s.cps.toList) (.str ⟨s.cps.toList.toArray⟩) := .str _
    simpa using z
theorem ok_name {x : Str} {pos : Pos} {m : E} (C : Cok P fa d c X) (h : trE (n + 1) c (.Name x pos) = some m) : PE X (.Name x pos) (tE X.K fa (tab P d) m) := by
  simp only [trE] at h
  split at h
  · rename_i i e
    cases h
    obtain ⟨g1, g2⟩ := C.vis e
    obtain ⟨_, g3, _⟩ := slot_some e
    exact l_var (pe_var g1 g2 (dbg_of g3).1 (dbg_of g3).2)
  · split at h
    · rename_i hg
      have dg := (dbg_of (glob_some hg).2).1
      split at h
      · rename_i dv e
        cases h
        obtain ⟨u, v, e1, e2, e3⟩ := C.cons _ _ e
        exact l_lit (pe_glob (C.gl hg) e1 e2 dg) fun m n H => e3 m n H
      · obtain ⟨i, e1, e2⟩ := Option.map_eq_some_iff.mp h
        subst e2
        exact l_lit (v := .ref (fa i)) (pe_glob (C.gl hg) (C.fns _ _ e1) rfl dg) fun _ _ _ => .fn i
    · cases h
end
end Lil
/-! Adq10: what is translated is kept: the induction. Own work. -/
set_option linter.all false
set_option Elab.async false
set_option maxRecDepth 100000
set_option maxHeartbeats 2000000
namespace Lil
open PySem PySem.Spec PyProof.Rows L2

section
variable {P : List FD} {fa : Fa} {n d : Nat} {c : Cc} {X : Cx}

theorem ok_cmp (ih : OkE P fa n) {a : Expr} {ops : List CmpOp} {bs : List Expr} {pos : Pos} {m : E} (C : Cok P fa d c X) (h : trE (n + 1) c (.Compare a ops bs pos) = some m) :
    PE X (.Compare a ops bs pos) (tE X.K fa (tab P d) m) ∧ PT X (.Compare a ops bs pos) (tT X.K fa (tab P d) m) := by
  simp only [trE] at h
  split at h
  · obtain ⟨ma, h1, h2⟩ := Option.map_eq_some_iff.mp h
    subst h2
    exact ⟨l_isn (ih.e C h1), l_isnT (ih.e C h1)⟩
  · obtain ⟨ma, h1, h2⟩ := Option.map_eq_some_iff.mp h
    subst h2
    exact ⟨l_nsn (ih.e C h1), l_nsnT (ih.e C h1)⟩
  · split at h
    · rename_i h1 h2 h3
      split at h
      · cases h
      · rename_i hm
        cases h
        have hm' := Bool.eq_false_iff.mpr hm
        exact ⟨l_cmp h1 C.fok.w C.hu hm' (ih.e C h2) (ih.e C h3), l_cmpT h1 C.fok.w C.hu hm' (ih.e C h2) (ih.e C h3)⟩
    · cases h
  · split at h
    · rename_i h1 h2 h3 h4 h5
      split at h
      · cases h
      · rename_i hm
        cases h
        have hm' := Bool.eq_false_iff.mpr hm
        exact ⟨l_chn h1 h2 C.fok.w C.hu hm' (ih.e C h3) (ih.e C h4) (ih.e C h5), l_chnT h1 h2 C.fok.w C.hu hm' (ih.e C h3) (ih.e C h4) (ih.e C h5)⟩
    · cases h
  · cases h
theorem st1 {a : Expr} (h : [a].any isStar = false) : isStar a = false := by simpa using h
theorem st2 {a b : Expr} (h : [a, b].any isStar = false) : isStar a = false ∧ isStar b = false := by simpa using h
theorem part1 {X : Cx} {k : Nat} {p : Pos} : ∀ pins s σ H, L2.Inv X pins σ H s → wpAny (model X.prog X.w) X.A (evalPart (some (.Constant (.int 1) k p)) X.env) (fun u s' => L2.Inv X pins σ H s' ∧ IsPart u (some 1)) X.xe s := fun pins s σ H I =>
  thn ((po_some (pe_int (i := 1) (j := k) (pos := p))).run pins s σ H (fun o H' => o = some 1 ∧ H' = H) I ⟨1, rfl, rfl, rfl⟩) fun u s' ⟨o, H', I', pt, e1, e2⟩ => by
    subst e1 e2
    exact ⟨I', pt⟩
theorem part0 {X : Cx} : ∀ pins s σ H, L2.Inv X pins σ H s → wpAny (model X.prog X.w) X.A (evalPart none X.env) (fun u s' => L2.Inv X pins σ H s' ∧ IsPart u none) X.xe s := fun pins s σ H I =>
  thn (po_none.run pins s σ H (fun o H' => o = none ∧ H' = H) I ⟨rfl, rfl⟩) fun u s' ⟨o, H', I', pt, e1, e2⟩ => by
    subst e1 e2
    exact ⟨I', pt⟩
theorem ok_sub (ih : OkE P fa n) {a i : Expr} {pos : Pos} {m : E} (C : Cok P fa d c X) (h : trE (n + 1) c (.Subscript a i pos) = some m) : PE X (.Subscript a i pos) (tE X.K fa (tab P d) m) := by
  simp only [trE] at h
  split at h
  · split at h
    · rename_i h1 h2 h3
      cases h
      exact l_slc (ih.e C h1) (ih.oe C h2) (ih.oe C h3)
    · cases h
  · obtain ⟨ma, h1, h2⟩ := Option.map_eq_some_iff.mp h
    subst h2
    exact l_rev (ih.e C h1)
  · obtain ⟨ma, h1, h2⟩ := Option.map_eq_some_iff.mp h
    subst h2
    exact l_stp (ih.e C h1) part0 (.inl ⟨rfl, rfl⟩) fun _ _ => rfl
  · obtain ⟨ma, h1, h2⟩ := Option.map_eq_some_iff.mp h
    subst h2
    exact l_stp (ih.e C h1) part1 (.inr ⟨rfl, rfl⟩) fun _ _ => rfl
  · split at h
    · cases h
    · rename_i hs
      split at h
      · rename_i h1 h2
        cases h
        exact l_idx C.fok.w C.hu (Bool.eq_false_iff.mpr hs) (ih.e C h1) (ih.e C h2)
      · cases h
theorem ok_mth (hw : X.w = fa.w) (hu : X.A.units + 64 < cLine) {m : Str} {mt : Mth} (h : mthOf m = some mt) : ∃ id, ((mt.isD = false ∧ Slot "list" m id) ∨ (mt.isD = true ∧ Slot "dict" m id)) ∧ typeOf (.builtin id) = pure (.type "method_descriptor") ∧ MtR X id (rMth X.K fa mt) := by
  unfold mthOf at h
  split at h
  · rename_i e; cases h; subst e
    exact ⟨_, .inl ⟨rfl, PySem.F.slot_list_append⟩, PySem.F.type_list_append, mth_append⟩
  split at h
  · rename_i e; cases h; subst e
    exact ⟨_, .inl ⟨rfl, PySem.F.slot_list_extend⟩, PySem.F.type_list_extend, mth_extend⟩
  split at h
  · rename_i e; cases h; subst e
    exact ⟨_, .inl ⟨rfl, PySem.F.slot_list_pop⟩, PySem.F.type_list_pop, mth_pop⟩
  split at h
  · rename_i e; cases h; subst e
    exact ⟨_, .inr ⟨rfl, PySem.F.slot_dict_update⟩, PySem.F.type_dict_update, mth_update hw hu⟩
  cases h
theorem ok_call (ih : OkE P fa n) {f : Expr} {args : List Expr} {kws : List Keyword} {pos : Pos} {m : E} (C : Cok P fa d c X) (h : trE (n + 1) c (.Call f args kws pos) = some m) : PE X (.Call f args kws pos) (tE X.K fa (tab P d) m) := by
  simp only [trE] at h
  split at h
  · split at h
    · cases h
    · rename_i hst
      have hst := Bool.eq_false_iff.mpr hst
      split at h
      · rename_i x p
        split at h
        · rename_i i e
          split at h
          · cases h
          · rename_i hne
            obtain ⟨es, h1, h2⟩ := Option.map_eq_some_iff.mp h
            subst h2
            obtain ⟨g1, g2⟩ := C.vis e
            obtain ⟨_, g3, _⟩ := slot_some e
            cases args with
            | nil => exact absurd rfl hne
            | cons a as => exact l_cav C.fok g1 g2 (dbg_of g3).1 (dbg_of g3).2 hst (ih.es C h1)
        · split at h
          · rename_i hg
            have dg := (dbg_of (glob_some hg).2).1
            split at h
            · rename_i i e
              obtain ⟨es, h1, h2⟩ := Option.map_eq_some_iff.mp h
              subst h2
              cases args with
              | nil =>
                cases n with
                | zero => simp [trEs] at h1
                | succ n =>
                  simp only [trEs] at h1
                  cases h1
                  exact l_cal0 C.fok (C.gl hg) (C.fns _ _ e) dg
              | cons a as => exact l_cal C.fok (C.gl hg) (C.fns _ _ e) dg hst (ih.es C h1)
            · split at h
              · rename_i a
                split at h
                · rename_i h1 h2
                  cases h
                  exact ok_blt1 C h1 (st1 hst) (ih.e C h2)
                · cases h
              · rename_i a t tp
                split at h
                · rename_i hi
                  split at h
                  · rename_i h1 h2
                    cases h
                    obtain ⟨e1, e2⟩ := blt_some hi
                    obtain ⟨t1, t2, t3, t4⟩ := tyn_ok h2
                    obtain ⟨e3, e4⟩ := blt_some t1
                    have dg2 := (dbg_of (glob_some e4).2).1
                    have gl := C.gl e2
                    have gl2 := C.gl e4
                    subst e1
                    subst e3
                    exact l_isi gl (C.bn _ (by decide +kernel)) boot_isinstance (by decide +kernel) dg gl2 (C.bn _ t2) t3 t4 dg2 (st2 hst).1 (ih.e C h1)
                  · cases h
                · cases h
              · cases h
          · cases h
      · rename_i o mn apos
        split at h
        · rename_i h1 h2
          split at h
          · rename_i hb
            rw [Bool.and_eq_true] at hb
            obtain ⟨id, s1, s2, s3⟩ := ok_mth (fa := fa) C.fok.w C.hu h1
            split at h
            · cases h
              rcases s1 with ⟨sd, s1⟩ | ⟨sd, s1⟩
              · exact l_mth0 sd s1 s2 s3 hb.1 hb.2 (ih.e C h2)
              · exact l_mthD0 sd
            · rename_i a
              obtain ⟨ma, g1, g2⟩ := Option.map_eq_some_iff.mp h
              subst g2
              rcases s1 with ⟨sd, s1⟩ | ⟨sd, s1⟩
              · exact l_mth1 sd s1 s2 s3 hb.1 hb.2 (st1 hst) (ih.e C h2) (ih.e C g1)
              · exact l_mthD sd C.fok.w s1 s2 s3 hb.1 hb.2 (st1 hst) (ih.e C h2) (ih.e C g1)
            · cases h
          · cases h
        · cases h
      · cases h
  · cases h
/-- a comprehension's parts -/
theorem ok_lc (ih : OkE P fa n) {elt tg iter : Expr} {ifs : List Expr} {scope : Scope} {pos : Pos} {m : E} (C : Cok P fa d c X) (h : trE (n + 1) c (.ListComp elt [⟨tg, iter, ifs, 0⟩] scope pos) = some m) :
    ∃ me p mi mo, m = .lc me p mi mo ((ownOf c.N scope).map (·.2)) ∧ PI X tg iter (tI X.K X.H_0 fa (tab P d) mi) ∧ BlkOk X.N X.env.scope scope (ownOf c.N scope) ∧
      (∀ (s : Shared) (H : Hp) (C' : Addr) (cl : List (Str × Addr)) (fp : List Addr), PG (X.blk s H scope (compEnvC scope cl C' X.env) fp) tg (gP X.K fa p)) ∧
      (∀ (s : Shared) (H : Hp) (C' : Addr) (cl : List (Str × Addr)) (fp : List Addr), PTs (X.blk s H scope (compEnvC scope cl C' X.env) fp) ifs (tCo X.K fa (tab P d) mo)) ∧
      (∀ (s : Shared) (H : Hp) (C' : Addr) (cl : List (Str × Addr)) (fp : List Addr), PE (X.blk s H scope (compEnvC scope cl C' X.env) fp) elt (tE X.K fa (tab P d) me)) ∧ (∀ x, foldedSetIterable iter X.env x = pure x) ∧
      ∀ j ∈ p.sl, j ∈ (ownOf c.N scope).map (·.2) := by
  simp only [trE] at h
  split at h
  · rename_i hb
    split at h
    · rename_i it p e' cond h1 h2 h3 h4
      split at h
      · rename_i hall
        cases h
        have B := blk_ok hb (by rw [← C.N]; exact C.nd)
        rw [← C.N, ← C.sc] at B
        obtain ⟨i1, i2⟩ := ih.i C h1
        refine ⟨e', p, it, cond, rfl, i1, by rw [C.N] at B; rw [C.N]; exact B, fun s H C' cl fp => (okP P fa n).p (C.blk hb s H C' cl fp) h2, fun s H C' cl fp => ih.ifs (C.blk hb s H C' cl fp) h4,
          fun s H C' cl fp => ih.e (C.blk hb s H C' cl fp) h3, i2, fun j hj => ?_⟩
        have z := List.all_eq_true.mp hall j hj
        obtain ⟨q, hq, e⟩ := List.any_eq_true.mp z
        exact List.mem_map.mpr ⟨q, hq, by simpa using e⟩
      · cases h
    · cases h
  · cases h
end

theorem okE (P : List FD) (fa : Fa) : ∀ n, OkE P fa n
  | 0 => ⟨fun _ h => by simp [trE] at h, fun _ h => by simp [trT] at h, fun _ h => by simp [trEs] at h, fun _ h => by simp [trA] at h, fun _ h => by simp [trO] at h, fun _ h => by simp [trTA] at h, fun _ h => by simp [trTO] at h,
      fun _ h => by simp [trOe] at h, fun _ h => by simp [trIf] at h, fun _ h => by simp [trI] at h⟩
  | n + 1 => by
    have ih := okE P fa n
    refine ⟨fun {d c X e m} C h => ?_, fun {d c X e m} C h => ?_, fun {d c X es m} C h => ?_, fun {d c X es m pos} C h => ?_, fun {d c X es m pos} C h => ?_, fun {d c X es m pos} C h => ?_, fun {d c X es m pos} C h => ?_,
      fun {d c X e m} C h => ?_, fun {d c X es m} C h => ?_, fun {d c X tg e m} C h => ?_⟩
    · -- an expression
      cases e with
      | Constant k j pos => exact ok_const h
      | Name x pos => exact ok_name C h
      | BinOp a o b pos =>
        simp only [trE] at h
        split at h
        · rename_i h1 h2 h3
          cases h
          exact l_bin h1 (ih.e C h2) (ih.e C h3)
        · cases h
      | UnaryOp o a pos =>
        simp only [trE] at h
        split at h
        · obtain ⟨ma, h1, h2⟩ := Option.map_eq_some_iff.mp h
          subst h2
          exact l_neg (ih.e C h1)
        · obtain ⟨ma, h1, h2⟩ := Option.map_eq_some_iff.mp h
          subst h2
          exact l_nt (ih.e C h1)
        · cases h
      | BoolOp o vs pos =>
        simp only [trE] at h
        cases o with
        | And => exact ih.a C h
        | Or => exact ih.o C h
      | IfExp t a b pos =>
        simp only [trE] at h
        split at h
        · rename_i h1 h2 h3
          cases h
          exact l_ife (ih.t C h1) (ih.e C h2) (ih.e C h3)
        · cases h
      | Compare a ops bs pos => exact (ok_cmp ih C h).1
      | Tuple es k pos =>
        simp only [trE] at h
        obtain ⟨ma, h1, h2⟩ := Option.map_eq_some_iff.mp h
        subst h2
        exact l_tup (ih.es C h1)
      | List es pos =>
        simp only [trE] at h
        obtain ⟨ma, h1, h2⟩ := Option.map_eq_some_iff.mp h
        subst h2
        exact l_lst (ih.es C h1)
      | Dict ks vs pos =>
        simp only [trE] at h
        split at h
        · split at h
          · cases h; exact l_dnt C.fok.w
          · cases h; exact l_dnw
        · split at h
          · rename_i h1 h2
            split at h
            · cases h; exact l_ds1 C.fok.w C.hu (ih.e C h1) (ih.e C h2)
            · cases h
          · cases h
        · cases h
      | Subscript a i pos => exact ok_sub ih C h
      | Call f args kws pos => exact ok_call ih C h
      | ListComp elt gs scope pos =>
        have hg : ∃ tg iter ifs, gs = [⟨tg, iter, ifs, 0⟩] := by
          simp only [trE] at h
          split at h
          · exact ⟨_, _, _, rfl⟩
          · cases h
        obtain ⟨tg, iter, ifs, rfl⟩ := hg
        obtain ⟨me, p, mi, mo, rfl, i1, B, g1, g2, g3, g4, g5⟩ := ok_lc ih C h
        exact (pe_unl (pe_lc C.calm C.nd i1 B g1 g2 g3 g4)).mono fun t H Q q => lc_read g5 q
      | _ => simp [trE] at h
    · -- a test
      have other : ∀ {m : E}, trE n c e = some m → (∀ whole, isTrue e X.env whole = (do let v ← whole; standAt e.pos; holding [v] (truthy v))) → PT X e (tT X.K fa (tab P d) m) := fun h1 he => l_tru (ih.e C h1) he
      cases e with
      | UnaryOp o a pos =>
        cases o with
        | Not =>
          simp only [trT] at h
          obtain ⟨ma, h1, h2⟩ := Option.map_eq_some_iff.mp h
          subst h2
          exact l_ntT (ih.t C h1)
        | _ =>
          simp only [trT] at h
          exact other h fun _ => rfl
      | BoolOp o vs pos =>
        simp only [trT] at h
        cases o with
        | And => exact (ih.ta C h).pt
        | Or => exact (ih.to C h).pt
      | IfExp t a b pos => simp [trT] at h
      | Compare a ops bs pos =>
        simp only [trT] at h
        cases n with
        | zero => simp [trE] at h
        | succ n => exact (ok_cmp (okE P fa n) C h).2
      | _ =>
        simp only [trT] at h
        exact other h fun _ => rfl
    · -- expressions
      cases es with
      | nil => simp only [trEs] at h; cases h; exact la_nil
      | cons e es =>
        have key : isStar e = false → (∃ a as, trE n c e = some a ∧ trEs n c es = some as ∧ m = .cons a as) → PA X (e :: es) (tEs X.K fa (tab P d) m) := fun hs ⟨a, as, h1, h2, h3⟩ => by
          subst h3
          exact la_cons hs (ih.e C h1) (ih.es C h2)
        by_cases hs : isStar e = true
        · cases e <;> first | (cases hs; done) | skip
          simp only [trEs] at h
          split at h
          · rename_i h1 h2
            cases h
            exact la_star (ih.e C h1) (ih.es C h2)
          · cases h
        · have hs' := Bool.eq_false_iff.mpr hs
          refine key hs' ?_
          cases e <;> first | exact absurd rfl hs | skip
          all_goals
            simp only [trEs] at h
            split at h
            · rename_i h1 h2
              split at h
              · cases h
              · cases h
                exact ⟨_, _, h1, h2, rfl⟩
            · cases h
    · -- and
      match es, h with
      | [], h => simp [trA] at h
      | [e], h => simp only [trA] at h; exact pe_one (ih.e C h)
      | e :: e2 :: es, h =>
        simp only [trA] at h
        split at h
        · rename_i h1 h2
          cases h
          exact l_and1 (ih.e C h1) (ih.a C h2)
        · cases h
    · match es, h with
      | [], h => simp [trO] at h
      | [e], h => simp only [trO] at h; exact pe_one (ih.e C h)
      | e :: e2 :: es, h =>
        simp only [trO] at h
        split at h
        · rename_i h1 h2
          cases h
          exact l_or1 (ih.e C h1) (ih.o C h2)
        · cases h
    · match es, h with
      | [], h => simp [trTA] at h
      | [e], h => simp only [trTA] at h; exact pw_and1 (ih.t C h)
      | e :: e2 :: es, h =>
        simp only [trTA] at h
        split at h
        · rename_i h1 h2
          cases h
          exact l_andT (ih.t C h1) (ih.ta C h2)
        · cases h
    · match es, h with
      | [], h => simp [trTO] at h
      | [e], h => simp only [trTO] at h; exact pw_or1 (ih.t C h)
      | e :: e2 :: es, h =>
        simp only [trTO] at h
        split at h
        · rename_i h1 h2
          cases h
          exact l_orT (ih.t C h1) (ih.to C h2)
        · cases h
    · cases e with
      | none => simp only [trOe] at h; cases h; exact lo_no
      | some e =>
        simp only [trOe] at h
        obtain ⟨ma, h1, h2⟩ := Option.map_eq_some_iff.mp h
        subst h2
        exact lo_so (ih.e C h1)
    · match es, h with
      | [], h =>
        simp only [trIf] at h
        cases h
        exact pts_nil.mono fun t H Q ⟨m, s, h, S, L, q⟩ => q m H true (Xt.refl _ _ _) S rfl
      | [e], h =>
        simp only [trIf] at h
        obtain ⟨ma, h1, h2⟩ := Option.map_eq_some_iff.mp h
        subst h2
        exact (pts_one (ih.t C h1)).mono fun t H Q q => q
      | _ :: _ :: _, h => simp [trIf] at h
    · -- what is walked
      have plain : ∀ {m : Ie}, isSet e = false → (trE n c e).map Ie.sq = some m → PI X tg e (tI X.K X.H_0 fa (tab P d) m) ∧ ∀ x, foldedSetIterable e X.env x = pure x := fun hs h => by
        obtain ⟨ma, h1, h2⟩ := Option.map_eq_some_iff.mp h
        subst h2
        exact ⟨li_sq (ih.e C h1), set_no hs⟩
      cases e with
      | Call f args kws pos =>
        simp only [trI] at h
        refine ⟨?_, set_no rfl⟩
        split at h
        · rename_i x p
          split at h
          · cases h
          · rename_i hst
            have hst := Bool.eq_false_iff.mpr hst
            split at h
            · rename_i hx
              obtain ⟨e1, e2⟩ := blt_some hx
              have gl := C.gl e2
              subst e1
              split at h
              · rename_i a
                obtain ⟨ma, h1, h2⟩ := Option.map_eq_some_iff.mp h
                subst h2
                exact li_r1 gl (C.bn _ (by decide +kernel)) (by simpa using hst) (ih.e C h1)
              · rename_i a b
                split at h
                · rename_i h1 h2
                  cases h
                  exact li_r2 gl (C.bn _ (by decide +kernel)) (st2 hst).1 (st2 hst).2 (ih.e C h1) (ih.e C h2)
                · cases h
              · cases h
            · split at h
              · rename_i hx
                obtain ⟨e1, e2⟩ := blt_some hx
                have gl := C.gl e2
                subst e1
                split at h
                · rename_i a b
                  split at h
                  · rename_i h1 h2
                    split at h
                    · cases h
                    · rename_i ht
                      cases h
                      cases tg <;> first | exact absurd rfl ht | skip
                      exact li_zp gl (C.bn _ (by decide +kernel)) (st2 hst).1 (st2 hst).2 (ih.e C h1) (ih.e C h2)
                  · cases h
                · cases h
              · split at h
                · rename_i hx
                  obtain ⟨e1, e2⟩ := blt_some hx
                  have gl := C.gl e2
                  subst e1
                  split at h
                  · rename_i a
                    split at h
                    · cases h
                    · rename_i ht
                      obtain ⟨ma, h1, h2⟩ := Option.map_eq_some_iff.mp h
                      subst h2
                      cases tg <;> first | exact absurd rfl ht | skip
                      exact li_en gl (C.bn _ (by decide +kernel)) (st1 hst) (ih.e C h1)
                  · cases h
                · exact (plain rfl h).1
        · exact (plain rfl h).1
      | Set es k pos => simp [trI, isSet] at h
      | _ =>
        simp only [trI, isSet] at h
        exact plain rfl (by simpa using h)
end Lil
/-! Adq11: statements, defs, a law's end. Own work. -/
set_option linter.all false
set_option Elab.async false
set_option maxRecDepth 100000
set_option maxHeartbeats 2000000
namespace Lil
open PySem PySem.Spec PyProof.Rows L2

structure OkT (P : List FD) (fa : Fa) (n : Nat) : Prop where
  t : ∀ {d : Nat} {c : Cc} {X : Cx} {e : Expr} {g : Tg}, Cok P fa d c X → trTg n c e = some g → PG X e (gT X.K fa (tab P d) g) ∧ isStar e = false
  ts : ∀ {d : Nat} {c : Cc} {X : Cx} {es : List Expr} {g : Tgs}, Cok P fa d c X → trTgs n c es = some g → PGs X es (gTs X.K fa (tab P d) g) ∧ es.any isStar = false ∧ g.len = es.length
theorem okT (P : List FD) (fa : Fa) : ∀ n, OkT P fa n
  | 0 => ⟨fun _ h => by simp [trTg] at h, fun _ h => by simp [trTgs] at h⟩
  | n + 1 => by
    have ih := okT P fa n
    refine ⟨fun {d c X e g} C h => ?_, fun {d c X es g} C h => ?_⟩
    · cases e with
      | Name x pos =>
        simp only [trTg] at h
        obtain ⟨i, h1, h2⟩ := Option.map_eq_some_iff.mp h
        subst h2
        obtain ⟨g1, g2⟩ := C.loc h1
        exact ⟨lt_nm C.nd g1 g2 (C.may _ _ h1), rfl⟩
      | Tuple es k pos =>
        simp only [trTg] at h
        obtain ⟨i, h1, h2⟩ := Option.map_eq_some_iff.mp h
        subst h2
        obtain ⟨g1, g2, g3⟩ := ih.ts C h1
        exact ⟨lt_tp C.calm g2 g3 g1, rfl⟩
      | Subscript o i pos =>
        simp only [trTg] at h
        split at h
        · cases h
        · rename_i hs
          split at h
          · rename_i h1 h2
            cases h
            exact ⟨lt_sub C.fok.w C.hu (Bool.eq_false_iff.mpr hs) ((okE P fa n).e C h1) ((okE P fa n).e C h2), rfl⟩
          · cases h
      | _ => simp [trTg] at h
    · cases es with
      | nil => simp only [trTgs] at h; cases h; exact ⟨lts_nil, rfl, rfl⟩
      | cons e es =>
        simp only [trTgs] at h
        split at h
        · rename_i h1 h2
          split at h
          · cases h
          · cases h
            obtain ⟨a1, a2⟩ := ih.t C h1
            obtain ⟨g1, g2, g3⟩ := ih.ts C h2
            exact ⟨lts_cons a2 a1 g1, by rw [List.any_cons, a2, g2]; rfl, by show _ + 1 = es.length + 1; rw [g3]⟩
        · cases h

section
variable {P : List FD} {fa : Fa} {n d : Nat} {c : Cc} {X : Cx}
theorem locs_cons {t : Expr} {ts : List Expr} {is : List Nat} (h : locs c (t :: ts) = some is) : ∃ x p i is', t = .Name x p ∧ is = i :: is' ∧ c.sc.names.lookup x = some .local ∧ c.put x = some i ∧ locs c ts = some is' := by
  cases t <;> first | (simp [locs] at h; done) | skip
  simp only [locs] at h
  split at h
  · rename_i hl
    split at h
    · rename_i h1 h2
      cases h
      exact ⟨_, _, _, _, rfl, rfl, hl, h1, h2⟩
    · cases h
  · cases h
theorem locs_nil {ts : List Expr} (h : locs c ts = some []) : ts = [] := by
  cases ts with
  | nil => rfl
  | cons t ts =>
    obtain ⟨_, _, _, _, _, e, _⟩ := locs_cons h
    cases e
theorem swap_none {e : Expr} {l : Nat} {env : Env} (h : isComp e = false) : swapsWith e none l env = pure false := by
  cases e <;> first | rfl | cases h
theorem swap_true {e tg : Expr} {l : Nat} {env : Env} (h : purOf (swapsWith e (some tg) l env) = some true) (hL : ∀ elt gs sc pos, e = .SetComp elt gs sc pos → False) (hD : ∀ k v gs sc pos, e = .DictComp k v gs sc pos → False) :
    ∃ elt gs sc pos y py, e = .ListComp elt gs sc pos ∧ tg = .Name y py ∧ env.kindOf y = some .local := by
  cases e <;> first | (cases h; done) | skip
  · cases tg <;> first | (cases h; done) | skip
    rename_i y py
    refine ⟨_, _, _, _, _, _, rfl, rfl, ?_⟩
    have h' := Option.some.inj (show some _ = some true from h)
    simp only [Bool.and_eq_true] at h'
    simpa using h'.1.1.2
  · exact (hL _ _ _ _ rfl).elim
  · exact (hD _ _ _ _ _ rfl).elim

structure OkS (P : List FD) (fa : Fa) (n : Nat) : Prop where
  s : ∀ {d : Nat} {c : Cc} {X : Cx} {e : Stmt} {m : S}, Cok P fa d c X → trS n c e = some m → PS X e (tS X.K fa (tab P d) m)
  b : ∀ {d : Nat} {c : Cc} {X : Cx} {es : List Stmt} {m : Ss}, Cok P fa d c X → trB n c es = some m → PSs X es (tB X.K fa (tab P d) m)

theorem ok_asg {tgs : List Expr} {e : Expr} {pos : Pos} {m : S} (C : Cok P fa d c X) (h : trS (n + 1) c (.Assign tgs e pos) = some m) : PS X (.Assign tgs e pos) (tS X.K fa (tab P d) m) := by
  simp only [trS] at h
  split at h
  · rename_i tg
    split at h
    · rename_i hsw
      split at h
      · rename_i b t e' h1 h2 h3
        cases h
        have hw : swappedStores [tg] e X.env = pure none := by
          rw [swapped_env, C.sc]
          exact purOf_eq hsw
        obtain ⟨g1, g2⟩ := (okT P fa n).t C h2
        cases b with
        | false =>
          refine ls_asg ?_ hw g2 ((okE P fa n).e C h3) g1
          show swapsWith e (some tg) pos.line X.env = pure false
          rw [swaps_env, C.sc]
          exact purOf_eq h1
        | true =>
          cases n with
          | zero => simp [trE] at h3
          | succ n =>
            obtain ⟨elt, gs, sc, lp, y, py, rfl, rfl, hk⟩ := swap_true h1 (fun elt gs sc pos e => by subst e; simp [trE] at h3) (fun k v gs sc pos e => by subst e; simp [trE] at h3)
            have hg : ∃ tg iter ifs, gs = [⟨tg, iter, ifs, 0⟩] := by
              simp only [trE] at h3
              split at h3
              · exact ⟨_, _, _, rfl⟩
              · cases h3
            obtain ⟨tg, iter, ifs, rfl⟩ := hg
            obtain ⟨me, p, mi, mo, rfl, i1, B, q1, q2, q3, q4, q5⟩ := ok_lc (okE P fa n) C h3
            simp only [trTg] at h2
            obtain ⟨i, k1, k2⟩ := Option.map_eq_some_iff.mp h2
            subst k2
            obtain ⟨l1, _⟩ := C.loc k1
            refine ls_setLc C.calm C.nd l1 (by rw [C.sc]; exact hk) ?_ i1 B q1 q2 q3 q4 q5
            rw [swaps_env, C.sc]
            exact purOf_eq h1
      · cases h
    · rename_i xs hsw
      have hw : swappedStores [tg] e X.env = pure (some xs) := by
        rw [swapped_env, C.sc]
        exact purOf_eq hsw
      split at h
      · rename_i ts k1 p1 vs k2 p2
        split at h
        · rename_i is es h1 h2
          split at h
          · rename_i hc
            cases h
            obtain ⟨e1, e2, e3, e4⟩ := hc
            subst e1
            have ha := (okE P fa n).es C h2
            have lk : ∀ {x : Str}, c.sc.names.lookup x = some .local → X.env.scope.names.lookup x = some .local := fun hx => by rw [C.sc]; exact hx
            rcases e4 with e4 | e4
            · match is, e4 with
              | [i, j], _ =>
                match ts, h1, e3 with
                | t :: ts', h1, e3 =>
                  obtain ⟨x, px, i', is', rfl, ei, lx, ux, h1'⟩ := locs_cons h1
                  cases ei
                  match ts', h1', e3 with
                  | t :: ts'', h1', e3 =>
                    obtain ⟨y, py, j', is'', rfl, ej, ly, uy, h1''⟩ := locs_cons h1'
                    cases ej
                    have := locs_nil h1''
                    subst this
                    match vs, e3, ha with
                    | [a, b], _, ha =>
                      have hij : i ≠ j := by
                        intro z
                        subst z
                        simp [nodupN] at e2
                      exact ls_par2 C.calm C.nd (C.loc ux).1 (C.loc uy).1 hij (lk lx) (lk ly) ha hw
            · match is, e4 with
              | [i, j, l], _ =>
                match ts, h1, e3 with
                | t :: ts', h1, e3 =>
                  obtain ⟨x, px, i', is', rfl, ei, lx, ux, h1'⟩ := locs_cons h1
                  cases ei
                  match ts', h1', e3 with
                  | t :: ts'', h1', e3 =>
                    obtain ⟨y, py, j', is'', rfl, ej, ly, uy, h1''⟩ := locs_cons h1'
                    cases ej
                    match ts'', h1'', e3 with
                    | t :: ts3, h1'', e3 =>
                      obtain ⟨z, pz, l', is3, rfl, el, lz, uz, h13⟩ := locs_cons h1''
                      cases el
                      have := locs_nil h13
                      subst this
                      match vs, e3, ha with
                      | [a, b, c'], _, ha =>
                        simp only [nodupN, Bool.and_eq_true, Bool.not_eq_true', List.contains_cons, List.contains_nil, Bool.or_eq_false_iff, beq_eq_false_iff_ne] at e2
                        exact ls_par3 C.calm C.nd (C.loc ux).1 (C.loc uy).1 (C.loc uz).1 e2.1.1 e2.1.2.1 e2.2.1.1 (lk lx) (lk ly) (lk lz) ha hw
          · cases h
        · cases h
      · cases h
    · cases h
  · cases h
theorem okS (P : List FD) (fa : Fa) : ∀ n, OkS P fa n
  | 0 => ⟨fun _ h => by simp [trS] at h, fun _ h => by simp [trB] at h⟩
  | n + 1 => by
    have ih := okS P fa n
    have ie := okE P fa n
    refine ⟨fun {d c X e m} C h => ?_, fun {d c X es m} C h => ?_⟩
    · cases e with
      | Assign tgs e pos => exact ok_asg C h
      | AugAssign tg o e pos =>
        simp only [trS] at h
        split at h
        · split at h
          · rename_i h1 h2 h3
            split at h
            · cases h
            · rename_i hp
              cases h
              obtain ⟨g1, g2⟩ := C.loc h1
              exact ls_aug h2 (not_or.mp hp) C.nd g1 g2 (C.may _ _ h1) (ie.e C h3)
          · cases h
        · cases h
      | Expr e pos =>
        simp only [trS] at h
        split at h
        · cases h
        · rename_i hc
          obtain ⟨ma, h1, h2⟩ := Option.map_eq_some_iff.mp h
          subst h2
          exact ls_exp (swap_none (Bool.eq_false_iff.mpr hc)) (ie.e C h1)
      | Return v pos =>
        simp only [trS] at h
        cases v with
        | none => cases h; exact ls_retN
        | some e =>
          obtain ⟨ma, h1, h2⟩ := Option.map_eq_some_iff.mp h
          subst h2
          exact ls_ret (ie.e C h1)
      | If t a b pos =>
        simp only [trS] at h
        split at h
        · rename_i h1 h2 h3
          cases h
          exact ls_if (ie.t C h1) (ih.b C h2) (ih.b C h3)
        · cases h
      | For tg iter body els pos =>
        simp only [trS] at h
        split at h
        · split at h
          · rename_i h1 h2 h3
            cases h
            obtain ⟨i1, i2⟩ := ie.i C h2
            exact ls_fo C.xe C.calm i2 i1 ((okP P fa n).p C h1) (ih.b C h3)
          · cases h
        · cases h
      | While t body els pos =>
        simp only [trS] at h
        split at h
        · split at h
          · rename_i h1 h2
            cases h
            exact ls_wh C.xe (ie.t C h1) (ih.b C h2)
          · cases h
        · cases h
      | Break pos => simp only [trS] at h; cases h; exact ls_brk
      | Continue pos => simp only [trS] at h; cases h; exact ls_cnt
      | Pass pos => simp only [trS] at h; cases h; exact ls_pas
      | _ => simp [trS] at h
    · cases es with
      | nil => simp only [trB] at h; cases h; exact lb_nil
      | cons s ss =>
        simp only [trB] at h
        split at h
        · rename_i h1 h2
          cases h
          exact lb_cons (ih.s C h1) (ih.b C h2)
        · cases h
end

/-! ### defs -/
/-- a def of the text and its body in Lil -/
structure Def1 (K : PySem.W.Frag) (tp : Tp) (f : Addr) (fd : FuncData) (ps : List Str) (x : FD) : Prop where
  ex : ∃ (nm qual : Str) (st : Stmt) (N : List Str) (n : Nat), FnScope N ps (defScope st) ∧ trB n ⟨N, defScope st, tp, none⟩ (defBody st) = some x.body ∧ x.np = ps.length ∧ x.ns = N.length ∧
    Fun K nm qual st f fd ∧ Binds K fd ps []
structure TopF (K : PySem.W.Frag) (mg : Str → Option Value) (fa : Fa) (fdt : Nat → FuncData) (pss : Nat → List Str) (P : List FD) (tp : Tp) : Prop where
  defs : ∀ i x, P[i]? = some x → Def1 K tp (fa i) (fdt i) (pss i) x
  fns : ∀ i x, tp.fns[i]? = some x → mg x = some (.ref (fa i))
  cons : ∀ x dv, tp.cons.lookup x = some dv → ∃ u v, mg x = some u ∧ RelV v u ∧ ∀ m n H, Rp K fa m n H dv v
  bn : ∀ x ∈ BN, mg x = none
section
variable {prog : Program} {w : World} {K : PySem.W.Frag} {mg : Str → Option Value} {base : Heap} {fa : Fa} {fdt : Nat → FuncData} {pss : Nat → List Str} {P : List FD} {tp : Tp}
theorem defs_ok (hwf : w = fa.w) (T : TopF K mg fa fdt pss P tp) :
    ∀ d i x, P[i]? = some x → FnOk prog w K mg base CX0 d (fa i) (fdt i) (pss i) (spOf K fa P d i) ∧ PySem.W.keepIn K (.ref (fa i)) = true ∧ Binds K (fdt i) (pss i) []
  | 0, i, x, e => by
    obtain ⟨nm, qual, st, N, n, h1, h2, h3, h4, h5, h6⟩ := (T.defs i x e).ex
    refine ⟨⟨fun vs H Q E h => ?_, fun A outer s H args us vs Q E hr e0 hb r h => ?_⟩, h5.kp, h6⟩
    · obtain ⟨_, _, _, _, _, _, _, _, q⟩ := h
      exact (ps_bad q).elim
    · obtain ⟨_, _, _, _, _, _, _, _, q⟩ := h
      exact (ps_bad q).elim
  | d + 1, i, x, e => by
    have ih := defs_ok hwf T d
    obtain ⟨nm, qual, st, N, n, h1, h2, h3, h4, h5, h6⟩ := (T.defs i x e).ex
    refine ⟨h5.ok h1 (fun vs H Q E h => ?_) (fun cdv A outer s H vs Q E hr h => ?_), h5.kp, h6⟩
    · obtain ⟨_, _, ds, f, _, r, e1, e2, _⟩ := h
      rw [e] at e1
      cases e1
      rw [← r.length, e2, h3]
    · obtain ⟨m, hh, ds, f, S, r, e1, e2, q⟩ := h
      rw [e] at e1
      cases e1
      have C : Cok P fa d ⟨N, defScope st, tp, none⟩ (cxOf CX0 prog w K mg base N qual (defScope st) (fa i) cdv A outer s H E).nox := by
        refine ⟨rfl, h1.nd, rfl, rfl, rfl, ⟨fun j y ej => ⟨_, _, ih j y ej⟩, hr, hwf⟩, fun y j hy => ?_, T.cons, T.bn, fun y j _ => .inl rfl⟩
        unfold Cc.fn at hy
        split at hy
        · rename_i hz
          cases hy
          exact T.fns _ _ hz
        · cases hy
      refine ⟨_, (okS P fa n).b C h2, m, _, hh, S, Slots.start r e2 h4.symm, ?_⟩
      unfold tab at q
      rw [e] at q
      dsimp only at q
      unfold runF at q
      rw [if_pos e2] at q
      cases z : evB (tab P d) x.body (ds.map some ++ List.replicate (x.ns - x.np) none) hh with
      | nx s' h' =>
        rw [z] at q
        exact fun m' H' t xx S' _ => q m' H' .non xx S' .non
      | rt v h' => rw [z] at q; exact q
      | bk => rw [z] at q; exact (ps_bad q).elim
      | ct => rw [z] at q; exact (ps_bad q).elim
      | exc => rw [z] at q; exact q
      | bad => rw [z] at q; exact (ps_bad q).elim

/-! ### a law -/
def spTop (K : PySem.W.Frag) : Sp := fun vs H Q _ => ∃ (a : Addr) (ns : List Int), vs = [.ref a] ∧ FroL K H a (ns.map V.int) ∧ ns.length ≤ 63 ∧ ∀ H', Q (.bl true) H'
theorem rps_nums {m : Nat → Addr} {n : Nat} {H : Hp} : ∀ ns : List Int, Rps K fa m n H (ns.map DV.int) (ns.map V.int)
  | [] => .nil
  | i :: r => .cons (.int i) (rps_nums r)
/-- the law's def, from what Lil says of it -/
theorem law_ok (hwf : w = fa.w) (T : TopF K mg fa fdt pss P tp) {k i : Nat} {x : FD} (ex : P[i]? = some x) (hx : x.np = 1)
    (hev : ∀ ns : List Int, ns.length ≤ 63 → ∃ h', tab P k i [.ref 0] [.fro (ns.map DV.int)] = .ok (.bl true) h') : FnOk prog w K mg base CX0 k (fa i) (fdt i) (pss i) (spTop K) := by
  obtain ⟨h1, h2, h3⟩ := defs_ok (prog := prog) (w := w) (base := base) hwf T k i x ex
  refine h1.imp fun vs H Q E h => ?_
  obtain ⟨a, ns, rfl, hf, hl, q⟩ := h
  obtain ⟨h', e⟩ := hev ns hl
  refine ⟨fun _ => a, [.fro (ns.map DV.int)], [.ref 0], x, ⟨fun j o ej => ?_, fun j l o u ej el hm hm' _ => ?_⟩, .cons (.ref (k := 0) (by simp)) .nil, ex, by rw [hx]; rfl, ?_⟩
  · cases j with
    | zero => cases ej; exact .fro hf (rps_nums ns)
    | succ j => simp at ej
  · cases j with
    | zero => cases ej; cases hm
    | succ j => simp at ej
  · rw [e]
    intro m' H' b _ _ rb
    cases rb
    exact q H'
theorem spTop_only {H : Hp} {a : Addr} {ns : List Int} (hl : ns.length ≤ 63) (ho : Only H) (hs : SqL K H a (ns.map V.int)) : spTop K [.ref a] H (fun v _ => v = .bl true) fun _ _ _ => False := by
  refine ⟨a, ns, rfl, ?_, hl, fun _ => rfl⟩
  rcases hs with (h | h) | h
  · rcases ho a with z | ⟨o, xs, z⟩ <;> rw [h] at z <;> cases z
  · exact .inl h
  · exact .inr h
end
end Lil
/-! Wp: reasoning about Lil. Own work. -/
set_option linter.all false
set_option Elab.async false
set_option maxRecDepth 100000
namespace Lil
/-- it comes to a value, and Q holds of it -/
def To {α : Type} (r : Res α) (Q : α → Hd → Prop) : Prop := match r with | .ok a h => Q a h | _ => False
def FT (r : Fl) (N : Sl → Hd → Prop) (R : DV → Hd → Prop) : Prop := match r with | .nx σ h => N σ h | .rt v h => R v h | _ => False
section
variable {α β : Type}
@[simp] theorem To_ok (a : α) (h : Hd) (Q : α → Hd → Prop) : To (.ok a h) Q = Q a h := (rfl)
@[simp] theorem ok_bind (a : α) (h : Hd) (f : α → Hd → Res β) : (Res.ok a h).bind f = f a h := (rfl)
@[simp] theorem To_bind (r : Res α) (f : α → Hd → Res β) (Q : β → Hd → Prop) : To (r.bind f) Q = To r (fun a h => To (f a h) Q) := by cases r <;> rfl
theorem To.imp {r : Res α} {Q Q' : α → Hd → Prop} (p : To r Q) (f : ∀ a h, Q a h → Q' a h) : To r Q' := by
  cases r with
  | ok a h => exact f a h p
  | exc => exact p
  | bad => exact p
theorem To.ex {r : Res α} {Q : α → Hd → Prop} (p : To r Q) : ∃ a h, r = .ok a h ∧ Q a h := by
  cases r with
  | ok a h => exact ⟨a, h, rfl, p⟩
  | exc => exact p.elim
  | bad => exact p.elim
@[simp] theorem FT_nx (σ : Sl) (h : Hd) (N : Sl → Hd → Prop) (R : DV → Hd → Prop) : FT (.nx σ h) N R = N σ h := (rfl)
@[simp] theorem FT_rt (v : DV) (h : Hd) (N : Sl → Hd → Prop) (R : DV → Hd → Prop) : FT (.rt v h) N R = R v h := (rfl)
@[simp] theorem FT_fl (r : Res α) (f : α → Hd → Fl) (N : Sl → Hd → Prop) (R : DV → Hd → Prop) : FT (r.fl f) N R = To r (fun a h => FT (f a h) N R) := by cases r <;> rfl
theorem FT.imp {r : Fl} {N N' : Sl → Hd → Prop} {R R' : DV → Hd → Prop} (p : FT r N R) (f : ∀ s h, N s h → N' s h) (g : ∀ v h, R v h → R' v h) : FT r N' R' := by
  cases r with
  | nx s h => exact f s h p
  | rt v h => exact g v h p
  | _ => exact p.elim
end
@[simp] theorem FT_aft (f : Hd → Hd) (r : Fl) (N : Sl → Hd → Prop) (R : DV → Hd → Prop) : FT (r.aft f) N R = FT r (fun s h => N s (f h)) (fun v h => R v (f h)) := by cases r <;> rfl
@[simp] theorem To_aft {α : Type} (f : Hd → Hd) (r : Res α) (Q : α → Hd → Prop) : To (r.aft f) Q = To r (fun a h => Q a (f h)) := by cases r <;> rfl
@[simp] theorem unlk_tup (ds : List DV) (h : Hd) : unlk (.tup ds) h = h := (rfl)
@[simp] theorem unlk_lst (n : Nat) (h : Hd) : unlk (.lst n) h = h := (rfl)
@[simp] theorem unlk_rng (a : Int) (n : Nat) (h : Hd) : unlk (.rng a n) h = h := (rfl)
@[simp] theorem unlk_zp (a b : It) (h : Hd) : unlk (.zp a b) h = h := (rfl)
@[simp] theorem unlk_en (a : It) (h : Hd) : unlk (.en a) h = h := (rfl)
@[simp] theorem unlk_str (a : List Nat) (h : Hd) : unlk (.str a) h = h := (rfl)
@[simp] theorem unlk_dkk (n : Nat) (h : Hd) : unlk (.dkk n) h = h := (rfl)
section
variable (F : Nat → List DV → Hd → Res DV) (s : Sl) (h : Hd) (N : Sl → Hd → Prop) (R : DV → Hd → Prop)
@[simp] theorem FT_nil : FT (evB F .nil s h) N R = N s h := (rfl)
theorem FT_cons (a : S) (r : Ss) : FT (evB F (.cons a r) s h) N R = FT (evS F a s h) (fun s' h' => FT (evB F r s' h') N R) R := by
  rw [evB_cons]
  cases evS F a s h <;> rfl
/-- only where the slots are known -/
@[simp] theorem FT_step (x : Option DV) (a : S) (r : Ss) : FT (evB F (.cons a r) (x :: s) h) N R = FT (evS F a (x :: s) h) (fun s' h' => FT (evB F r s' h') N R) R := FT_cons F _ h N R a r
@[simp] theorem FT_ite (b : Bool) (x y : Fl) : FT (if b then x else y) N R = if b then FT x N R else FT y N R := by cases b <;> rfl
@[simp] theorem To_ite {α : Type} (b : Bool) (x y : Res α) (Q : α → Hd → Prop) : To (if b then x else y) Q = if b then To x Q else To y Q := by cases b <;> rfl
@[simp] theorem asg_nm (i : Nat) (d : DV) : asg F (.pt (.nm i)) d s h = .ok (s.set i (some d)) h := (rfl)
theorem asg_pt (p : Pt) (d : DV) : asg F (.pt p) d s h = (match bind1 p d s with | some s' => .ok s' h | none => .bad) := (rfl)
@[simp] theorem asg_sub (o i : E) (d : DV) : asg F (.sub o i) d s h = (ev F o s h).bind fun x h1 => (ev F i s h1).bind fun y h2 => match store x y d h2 with | some h3 => .ok s h3 | none => .bad := (rfl)
@[simp] theorem asg_tp (ts : Tgs) (ds : List DV) : asg F (.tp ts) (.tup ds) s h = asgs F ts ds s h := (rfl)
@[simp] theorem asgs_nil : asgs F .nil [] s h = .ok s h := (rfl)
@[simp] theorem asgs_cons (t : Tg) (ts : Tgs) (d : DV) (ds : List DV) : asgs F (.cons t ts) (d :: ds) s h = (asg F t d s h).bind fun s' h' => asgs F ts ds s' h' := (rfl)
@[simp] theorem bind1_nm (i : Nat) (d : DV) : bind1 (.nm i) d s = some (s.set i (some d)) := (rfl)
@[simp] theorem bind1_tp (ps : Pts) (ds : List DV) : bind1 (.tp ps) (.tup ds) s = bindAll ps ds s := (rfl)
@[simp] theorem bindAll_nil : bindAll .nil [] s = some s := (rfl)
@[simp] theorem bindAll_cons (p : Pt) (ps : Pts) (d : DV) (ds : List DV) : bindAll (.cons p ps) (d :: ds) s = (match bind1 p d s with | some s' => bindAll ps ds s' | none => none) := (rfl)
end
/-! ### loops -/
section
variable {N : Sl → Hd → Prop} {R : DV → Hd → Prop}
theorem loopF_rule {it : It} {body : DV → Sl → Hd → Fl} (items : List DV) (I : Nat → Sl → Hd → Prop) (hit : ∀ i s h, I i s h → i ≤ items.length → itemAt h it i = match items[i]? with | some d => .item d | none => .stop)
    (hb : ∀ i d s h, items[i]? = some d → I i s h → FT (body d s h) (I (i + 1)) R) (hN : ∀ s h, I items.length s h → N s h) :
    ∀ (k i : Nat) (s : Sl) (h : Hd), i ≤ items.length → items.length - i < k → I i s h → FT (loopF it body k i s h) N R
  | 0, i, s, h, _, hk, _ => by omega
  | k + 1, i, s, h, hi, hk, hI => by
    unfold loopF
    rw [hit i s h hI hi]
    by_cases q : i < items.length
    · rw [List.getElem?_eq_getElem q]
      dsimp only
      have := hb i _ s h (List.getElem?_eq_getElem q) hI
      cases e : body items[i] s h with
      | nx s' h' =>
        rw [e] at this
        exact loopF_rule items I hit hb hN k (i + 1) s' h' (by omega) (by omega) this
      | rt v h' =>
        rw [e] at this
        exact this
      | bk => rw [e] at this; exact this.elim
      | ct => rw [e] at this; exact this.elim
      | exc => rw [e] at this; exact this.elim
      | bad => rw [e] at this; exact this.elim
    · rw [List.getElem?_eq_none (by omega)]
      have : i = items.length := by omega
      subst this
      exact hN s h hI
theorem loopW_rule {test : Sl → Hd → Res Bool} {body : Sl → Hd → Fl} (I : Nat → Sl → Hd → Prop)
    (hb : ∀ m s h, I m s h → To (test s h) fun b h' => if b then FT (body s h') (fun s' h'' => ∃ m', m' < m ∧ I m' s' h'') R else N s h') :
    ∀ (k m : Nat) (s : Sl) (h : Hd), m < k → I m s h → FT (loopW test body k s h) N R
  | 0, m, s, h, hk, _ => by omega
  | k + 1, m, s, h, hk, hI => by
    have q := hb m s h hI
    unfold loopW
    cases e : test s h with
    | exc => rw [e] at q; exact q.elim
    | bad => rw [e] at q; exact q.elim
    | ok b h' =>
      rw [e] at q
      cases b with
      | false => exact q
      | true =>
        have q' : FT (body s h') (fun s' h'' => ∃ m', m' < m ∧ I m' s' h'') R := q
        dsimp only
        cases e2 : body s h' with
        | nx s' h'' =>
          rw [e2] at q'
          obtain ⟨m', hm, hI'⟩ := q'
          exact loopW_rule I hb k m' s' h'' (by omega) hI'
        | rt v h'' => rw [e2] at q'; exact q'
        | bk => rw [e2] at q'; exact q'.elim
        | ct => rw [e2] at q'; exact q'.elim
        | exc => rw [e2] at q'; exact q'.elim
        | bad => rw [e2] at q'; exact q'.elim
/-- a comprehension: what it has collected is ds; J of it and the heap -/
theorem loopC_rule {it : It} {turn : DV → Hd → Res (Option DV)} {n : Nat} {Q : DV → Hd → Prop} (items : List DV) (J : Nat → List DV → Hd → Prop)
    (hit : ∀ i ds h, J i ds h → i ≤ items.length → itemAt h it i = match items[i]? with | some d => .item d | none => .stop)
    (hb : ∀ i d ds h, items[i]? = some d → J i ds h → h[n]? = some (.lst ds) → To (turn d h) fun o h' => h'[n]? = some (.lst ds) ∧ match o with
      | none => J (i + 1) ds h'
      | some v => ds.length < LN ∧ J (i + 1) (ds ++ [v]) (h'.set n (.lst (ds ++ [v]))))
    (hQ : ∀ ds h, J items.length ds h → h[n]? = some (.lst ds) → Q (.ref n) h) :
    ∀ (k i : Nat) (ds : List DV) (h : Hd), i ≤ items.length → items.length - i < k → J i ds h → h[n]? = some (.lst ds) → To (loopC it turn n k i h) Q
  | 0, i, ds, h, _, hk, _, _ => by omega
  | k + 1, i, ds, h, hi, hk, hJ, hn => by
    unfold loopC
    rw [hit i ds h hJ hi]
    by_cases q : i < items.length
    · rw [List.getElem?_eq_getElem q]
      dsimp only
      have := hb i _ ds h (List.getElem?_eq_getElem q) hJ hn
      cases e : turn items[i] h with
      | exc => rw [e] at this; exact this.elim
      | bad => rw [e] at this; exact this.elim
      | ok o h' =>
        rw [e] at this
        obtain ⟨g1, g2⟩ := (show _ ∧ _ from this)
        cases o with
        | none => exact loopC_rule items J hit hb hQ k (i + 1) ds h' (by omega) (by omega) g2 g1
        | some v =>
          obtain ⟨g2, g3⟩ := g2
          dsimp only
          rw [g1]
          dsimp only
          rw [if_pos g2]
          refine loopC_rule items J hit hb hQ k (i + 1) _ _ (by omega) (by omega) g3 ?_
          rw [List.getElem?_set_self]
          exact (List.getElem?_eq_some_iff.mp g1).1
    · rw [List.getElem?_eq_none (by omega)]
      have : i = items.length := by omega
      subst this
      exact hQ ds h hJ hn
end
/-! ### what is kept -/
/-- the first n objects are as they were -/
structure Kp (n : Nat) (h h' : Hd) : Prop where
  len : n ≤ h'.length
  eq : ∀ k, k < n → h'[k]? = h[k]?
theorem Kp.refl {h : Hd} : Kp h.length h h := ⟨Nat.le_refl _, fun _ _ => rfl⟩
theorem Kp.rfl' {n : Nat} {h : Hd} (q : n ≤ h.length) : Kp n h h := ⟨q, fun _ _ => rfl⟩
theorem Kp.trans {n m : Nat} {h h' h'' : Hd} (a : Kp n h h') (b : Kp m h' h'') (q : n ≤ m) : Kp n h h'' := ⟨Nat.le_trans q b.len, fun k hk => (b.eq k (by omega)).trans (a.eq k hk)⟩
theorem Kp.app {n : Nat} {h : Hd} (g : Hd) (q : n ≤ h.length) : Kp n h (h ++ g) := ⟨by rw [List.length_append]; omega, fun k hk => List.getElem?_append_left (by omega)⟩
theorem Kp.set {n m : Nat} {h h' : Hd} {o : DO} (a : Kp n h h') (q : n ≤ m) : Kp n h (h'.set m o) := ⟨by rw [List.length_set]; exact a.len, fun k hk => by rw [List.getElem?_set_ne (by omega)]; exact a.eq k hk⟩
theorem Kp.get {n k : Nat} {h h' : Hd} {o : DO} (a : Kp n h h') (q : k < n) (e : h[k]? = some o) : h'[k]? = some o := (a.eq k q).trans e
@[simp] theorem get_new (h : Hd) (o : DO) : (h ++ [o])[h.length]? = some o := by simp
@[simp] theorem set_new (h : Hd) (o o' : DO) : (h ++ [o]).set h.length o' = h ++ [o'] := by simp
theorem get_set {h : Hd} {n : Nat} {o o' : DO} (e : h[n]? = some o) : (h.set n o')[n]? = some o' := by
  rw [List.getElem?_set_self]
  exact (List.getElem?_eq_some_iff.mp e).1
theorem lt_of_get {h : Hd} {n : Nat} {o : DO} (e : h[n]? = some o) : n < h.length := (List.getElem?_eq_some_iff.mp e).1
/-- a comprehension whose turns only read what was there -/
theorem loopC_pure {it : It} {turn : DV → Hd → Res (Option DV)} {h : Hd} {n : Nat} {Q : DV → Hd → Prop} (items outs : List DV) (hn : n = h.length) (hlen : outs.length = items.length) (hsz : items.length < 1000000)
    (hit : ∀ (i : Nat) (h' : Hd), Kp h.length h h' → i ≤ items.length → itemAt h' it i = match items[i]? with | some d => .item d | none => .stop)
    (hb : ∀ (i : Nat) (d v : DV) (h' : Hd), items[i]? = some d → outs[i]? = some v → Kp h.length h h' → To (turn d h') fun o h'' => o = some v ∧ Kp h'.length h' h'')
    (hQ : ∀ h', h'[n]? = some (.lst outs) → Kp h.length h h' → Q (.ref n) h') : To (loopC it turn n FUEL 0 (h ++ [.lst []])) Q := by
  subst hn
  refine loopC_rule items (fun i ds h' => ds = outs.take i ∧ Kp h.length h h') (fun i ds h' hJ hi => hit i h' hJ.2 hi) (fun i d ds h' hd hJ hg => ?_) (fun ds h' hJ hg => ?_) FUEL 0 [] _ (Nat.zero_le _) (by simp [FUEL]; omega) ⟨rfl, Kp.app _ (Nat.le_refl _)⟩ (get_new _ _)
  · have hi : i < items.length := (List.getElem?_eq_some_iff.mp hd).1
    have ho : outs[i]? = some (outs[i]'(by omega)) := List.getElem?_eq_getElem (by omega)
    refine (hb i d _ h' hd ho hJ.2).imp fun o h'' ⟨q1, q2⟩ => ?_
    subst q1
    refine ⟨q2.get (lt_of_get hg) hg, ?_, ?_, ?_⟩
    · rw [hJ.1, List.length_take]; simp only [LN]; omega
    · rw [hJ.1, List.take_add_one, ho]; rfl
    · exact (hJ.2.trans q2 (by have := lt_of_get hg; omega)).set (Nat.le_refl _)
  · obtain ⟨q1, q2⟩ := hJ
    subst q1
    rw [← hlen, List.take_length] at hg
    exact hQ h' hg q2
/-- a call of a def -/
@[simp] theorem setAll_nil (s : Sl) : setAll [] [] s = some s := (rfl)
@[simp] theorem setAll_cons (i : Nat) (is : List Nat) (d : DV) (ds : List DV) (s : Sl) : setAll (i :: is) (d :: ds) s = setAll is ds (s.set i (some d)) := (rfl)
@[simp] theorem truR_bl (b : Bool) (h : Hd) : truR (.bl b) h = .ok b h := (rfl)
@[simp] theorem litB_some (b : Bool) (h : Hd) : litB (some b) h = .ok (.bl b) h := (rfl)
@[simp] theorem ofO_some (d : DV) (h : Hd) : ofO (some d) h = .ok d h := (rfl)
@[simp] theorem cop_lt (i j : Int) (h : Hd) : cop .lt (.int i) (.int j) h = some (decide (i < j)) := (rfl)
@[simp] theorem cop_le (i j : Int) (h : Hd) : cop .le (.int i) (.int j) h = some (decide (i ≤ j)) := (rfl)
@[simp] theorem cop_gt (i j : Int) (h : Hd) : cop .gt (.int i) (.int j) h = some (decide (j < i)) := (rfl)
@[simp] theorem cop_ge (i j : Int) (h : Hd) : cop .ge (.int i) (.int j) h = some (decide (j ≤ i)) := (rfl)
@[simp] theorem bop_add (i j : Int) (h : Hd) : bop .add (.int i) (.int j) h = .ok (.int (i + j)) h := (rfl)
@[simp] theorem bop_sub (i j : Int) (h : Hd) : bop .sub (.int i) (.int j) h = .ok (.int (i - j)) h := (rfl)
@[simp] theorem cop_eqi (i j : Int) (h : Hd) : cop .eq (.int i) (.int j) h = some (decide (i = j)) := by
  show (if (true && true) = true then some (i == j) else none) = _
  simp; rfl
@[simp] theorem cop_nei (i j : Int) (h : Hd) : cop .ne (.int i) (.int j) h = some (decide (i ≠ j)) := by
  show (cop .eq (.int i) (.int j) h).map (!·) = _
  rw [cop_eqi]; simp
theorem mod_to {i j : Int} {h : Hd} (hj : 0 < j) : bop .mod (.int i) (.int j) h = .ok (.int (i % j)) h := if_pos hj
theorem fdiv_to {i j : Int} {h : Hd} (hj : 0 < j) (hk : j.natAbs.log2 < 9000) : bop .fdiv (.int i) (.int j) h = .ok (.int (i / j)) h := if_pos ⟨hj, hk⟩
theorem mul_to {i j : Int} {h : Hd} (hj : okMul i j = true) : bop .mul (.int i) (.int j) h = .ok (.int (i * j)) h := if_pos hj
theorem runF_to {F : Nat → List DV → Hd → Res DV} {np ns : Nat} {body : Ss} {ds : List DV} {h : Hd} {Q : DV → Hd → Prop} (e : ds.length = np)
    (p : FT (evB F body (ds.map some ++ List.replicate (ns - np) none) h) (fun _ h' => Q .non h') Q) : To (runF F ⟨np, ns, body⟩ ds h) Q := by
  unfold runF
  rw [if_pos e]
  cases z : evB F body (ds.map some ++ List.replicate (ns - np) none) h <;> rw [z] at p <;> first | exact p | exact p.elim
end Lil
/-! Sol1: stretches, their values, one form for each. Own work. -/
set_option linter.all false
set_option Elab.async false
namespace Sol
/-- a stretch: from, to (not in it), what is there -/
abbrev Sg (α : Type) := Int × Int × α
section
variable {α β : Type}
def val (e : α) : List (Sg α) → Int → α
  | [], _ => e
  | s :: r, x => if s.1 ≤ x ∧ x < s.2.1 then s.2.2 else val e r x
def Ch (R : β → β → Prop) : List β → Prop
  | [] => True
  | [_] => True
  | a :: b :: r => R a b ∧ Ch R (b :: r)
def Nb (a b : Sg α) : Prop := a.2.1 < b.1 ∨ (a.2.1 = b.1 ∧ a.2.2 ≠ b.2.2)
/-- good to read: not empty, one behind another -/
structure Wk (s : List (Sg α)) : Prop where
  ne : ∀ t ∈ s, t.1 < t.2.1
  ord : s.Pairwise fun a b => a.2.1 ≤ b.1
/-- the form -/
structure Cn (e : α) (p : α → Prop) (s : List (Sg α)) : Prop where
  ne : ∀ t ∈ s, t.1 < t.2.1
  nz : ∀ t ∈ s, t.2.2 ≠ e
  ok : ∀ t ∈ s, p t.2.2
  ch : Ch Nb s
theorem Ch.tail {R : β → β → Prop} {a : β} : ∀ {s : List β}, Ch R (a :: s) → Ch R s
  | [], _ => trivial
  | _ :: _, h => h.2
theorem Ch.snoc {R : β → β → Prop} {b : β} : ∀ {s : List β}, Ch R s → (∀ a, s.getLast? = some a → R a b) → Ch R (s ++ [b])
  | [], _, _ => trivial
  | [a], _, h => ⟨h a rfl, trivial⟩
  | a :: c :: r, h, q => ⟨h.1, Ch.snoc (s := c :: r) h.2 fun x hx => q x (by rw [List.getLast?_cons_cons]; exact hx)⟩
theorem Ch.init {R : β → β → Prop} {b : β} : ∀ {s : List β}, Ch R (s ++ [b]) → Ch R s ∧ ∀ a, s.getLast? = some a → R a b
  | [], _ => ⟨trivial, fun a h => by cases h⟩
  | [a], h => ⟨trivial, fun x hx => by cases hx; exact h.1⟩
  | a :: c :: r, h => by
    obtain ⟨h1, h2⟩ := Ch.init (s := c :: r) (b := b) h.2
    exact ⟨⟨h.1, h1⟩, fun x hx => h2 x (by rw [List.getLast?_cons_cons] at hx; exact hx)⟩
theorem ch_low {s : List (Sg α)} : ∀ {a : Sg α}, (∀ t ∈ s, t.1 < t.2.1) → Ch Nb (a :: s) → ∀ t ∈ s, a.2.1 ≤ t.1 := by
  induction s with
  | nil => intro a _ _ t h; cases h
  | cons b r ih =>
    intro a n h t ht
    have h1 : a.2.1 ≤ b.1 := by
      rcases h.1 with q | q
      · omega
      · omega
    cases ht with
    | head => exact h1
    | tail _ ht =>
      have := ih (fun t ht => n t (.tail _ ht)) h.2 t ht
      have := n b (.head _)
      omega
theorem ch_wk {s : List (Sg α)} (n : ∀ t ∈ s, t.1 < t.2.1) (h : Ch Nb s) : Wk s := by
  refine ⟨n, ?_⟩
  induction s with
  | nil => exact .nil
  | cons a r ih => exact .cons (ch_low (fun t ht => n t (.tail _ ht)) h) (ih (fun t ht => n t (.tail _ ht)) h.tail)
theorem Cn.wk {e : α} {p : α → Prop} {s : List (Sg α)} (h : Cn e p s) : Wk s := ch_wk h.ne h.ch
theorem Cn.tail {e : α} {p : α → Prop} {a : Sg α} {s : List (Sg α)} (h : Cn e p (a :: s)) : Cn e p s :=
  ⟨fun t ht => h.ne t (.tail _ ht), fun t ht => h.nz t (.tail _ ht), fun t ht => h.ok t (.tail _ ht), h.ch.tail⟩
theorem Cn.nil {e : α} {p : α → Prop} : Cn e p [] := ⟨fun _ h => (nomatch h), fun _ h => (nomatch h), fun _ h => (nomatch h), trivial⟩
theorem Wk.nil : Wk ([] : List (Sg α)) := ⟨fun _ h => (nomatch h), .nil⟩
theorem Cn.imp {e : α} {p q : α → Prop} {s : List (Sg α)} (h : Cn e p s) (f : ∀ a, p a → q a) : Cn e q s := ⟨h.ne, h.nz, fun t ht => f _ (h.ok t ht), h.ch⟩
theorem Wk.tail {a : Sg α} {s : List (Sg α)} (h : Wk (a :: s)) : Wk s := ⟨fun t ht => h.ne t (.tail _ ht), (List.pairwise_cons.mp h.ord).2⟩
theorem val_lt {e : α} {x : Int} : ∀ {s : List (Sg α)}, (∀ t ∈ s, x < t.1) → val e s x = e
  | [], _ => rfl
  | a :: r, h => by
    have := h a (.head _)
    unfold val
    rw [if_neg (by omega)]
    exact val_lt fun t ht => h t (.tail _ ht)
theorem val_ge {e : α} {x : Int} : ∀ {s : List (Sg α)}, (∀ t ∈ s, t.2.1 ≤ x) → val e s x = e
  | [], _ => rfl
  | a :: r, h => by
    have := h a (.head _)
    unfold val
    rw [if_neg (by omega)]
    exact val_ge fun t ht => h t (.tail _ ht)
theorem val_mem {e : α} {x : Int} : ∀ {s : List (Sg α)}, val e s x = e ∨ ∃ t ∈ s, t.1 ≤ x ∧ x < t.2.1 ∧ t.2.2 = val e s x
  | [] => .inl rfl
  | a :: r => by
    unfold val
    split
    · rename_i h
      exact .inr ⟨a, .head _, h.1, h.2, rfl⟩
    · rcases val_mem (e := e) (x := x) (s := r) with h | ⟨t, ht, h⟩
      · exact .inl h
      · exact .inr ⟨t, .tail _ ht, h⟩
theorem val_at {e : α} {x : Int} {s : List (Sg α)} {t : Sg α} (h : Wk s) (m : t ∈ s) (h1 : t.1 ≤ x) (h2 : x < t.2.1) : val e s x = t.2.2 := by
  induction s with
  | nil => cases m
  | cons a r ih =>
    cases m with
    | head => unfold val; rw [if_pos ⟨h1, h2⟩]
    | tail _ ht =>
      have := (List.pairwise_cons.mp h.ord).1 t ht
      unfold val
      rw [if_neg (by omega)]
      exact ih h.tail ht
theorem val_append {e : α} {x : Int} : ∀ {s t : List (Sg α)}, (∀ a ∈ s, ∀ b ∈ t, a.2.1 ≤ b.1) → (∀ b ∈ t, b.1 ≤ x) → (∃ b, b ∈ t) → val e (s ++ t) x = val e t x
  | [], t, _, _, _ => rfl
  | a :: s, t, h, hx, ⟨b, hb⟩ => by
    have := h a (.head _) b hb
    have := hx b hb
    show (if a.1 ≤ x ∧ x < a.2.1 then a.2.2 else val e (s ++ t) x) = _
    rw [if_neg (by omega)]
    exact val_append (fun a ha => h a (.tail _ ha)) hx ⟨b, hb⟩
theorem val_app_lt {e : α} {x : Int} : ∀ {s t : List (Sg α)}, (∀ b ∈ t, x < b.1) → val e (s ++ t) x = val e s x
  | [], t, h => val_lt h
  | a :: s, t, h => by
    show (if a.1 ≤ x ∧ x < a.2.1 then a.2.2 else val e (s ++ t) x) = if a.1 ≤ x ∧ x < a.2.1 then a.2.2 else val e s x
    rw [val_app_lt h]
/-- one form for each -/
theorem uniq {e : α} {p : α → Prop} : ∀ {s t : List (Sg α)}, Cn e p s → Cn e p t → (∀ x, val e s x = val e t x) → s = t
  | [], [], _, _, _ => rfl
  | [], b :: t, _, ht, h => by
    have h1 := h b.1
    have h2 := ht.ne b (.head _)
    rw [val_at ht.wk (.head _) (Int.le_refl _) h2] at h1
    exact absurd h1.symm (ht.nz b (.head _))
  | a :: s, [], hs, _, h => by
    have h1 := h a.1
    have h2 := hs.ne a (.head _)
    rw [val_at hs.wk (.head _) (Int.le_refl _) h2] at h1
    exact absurd h1 (hs.nz a (.head _))
  | a :: s, b :: t, hs, ht, h => by
    have wa := hs.ne a (.head _)
    have wb := ht.ne b (.head _)
    have la := ch_low (fun t h => hs.ne t (.tail _ h)) hs.ch
    have lb := ch_low (fun t h => ht.ne t (.tail _ h)) ht.ch
    have key : ∀ {a b : Sg α} {s t : List (Sg α)}, Cn e p (a :: s) → Cn e p (b :: t) → (∀ x, val e (a :: s) x = val e (b :: t) x) → b.1 ≤ a.1 := by
      intro a b s t hs ht h
      have wa := hs.ne a (.head _)
      have wb := ht.ne b (.head _)
      have lb := ch_low (fun t h => ht.ne t (.tail _ h)) ht.ch
      refine Decidable.byContradiction fun q => ?_
      have h1 := h a.1
      rw [val_at hs.wk (.head _) (Int.le_refl _) wa] at h1
      rw [val_lt (fun u hu => ?_)] at h1
      · exact hs.nz a (.head _) h1
      · cases hu with
        | head => omega
        | tail _ hu => have := lb u hu; omega
    have e1 : a.1 = b.1 := Int.le_antisymm (key ht hs fun x => (h x).symm) (key hs ht h)
    have e2 : a.2.2 = b.2.2 := by
      have h1 := h a.1
      rw [val_at hs.wk (.head _) (Int.le_refl _) wa, e1, val_at ht.wk (.head _) (Int.le_refl _) wb] at h1
      exact h1
    have key2 : ∀ {a b : Sg α} {s t : List (Sg α)}, a.1 = b.1 → a.2.2 = b.2.2 → Cn e p (a :: s) → Cn e p (b :: t) → (∀ x, val e (a :: s) x = val e (b :: t) x) → b.2.1 ≤ a.2.1 := by
      intro a b s t e1 e2 hs ht h
      have wa := hs.ne a (.head _)
      refine Decidable.byContradiction fun q => ?_
      have h1 := h a.2.1
      rw [val_at ht.wk (.head _) (by omega) (by omega)] at h1
      unfold val at h1
      rw [if_neg (by omega)] at h1
      cases s with
      | nil => exact ht.nz b (.head _) h1.symm
      | cons c s =>
        have wc := hs.ne c (.tail _ (.head _))
        have lc := ch_low (fun t h => hs.tail.ne t (.tail _ h)) hs.ch.tail
        rcases hs.ch.1 with q2 | ⟨q2, q3⟩
        · rw [val_lt (fun u hu => ?_)] at h1
          · exact ht.nz b (.head _) h1.symm
          · cases hu with
            | head => omega
            | tail _ hu => have := lc u hu; omega
        · rw [val_at hs.tail.wk (.head _) (by omega) (by omega)] at h1
          exact q3 (e2.trans h1.symm)
    have e3 : a.2.1 = b.2.1 := Int.le_antisymm (key2 e1.symm e2.symm ht hs fun x => (h x).symm) (key2 e1 e2 hs ht h)
    have eab : a = b := Prod.ext e1 (Prod.ext e3 e2)
    subst eab
    congr 1
    refine uniq hs.tail ht.tail fun x => ?_
    have h1 := h x
    unfold val at h1
    by_cases q : a.1 ≤ x ∧ x < a.2.1
    · rw [val_lt (fun u hu => ?_), val_lt (fun u hu => ?_)]
      · have := lb u hu; omega
      · have := la u hu; omega
    · rw [if_neg q, if_neg q] at h1
      exact h1
end
end Sol
/-! Sol2: two lots of stretches made one. Own work. -/
set_option linter.all false
set_option Elab.async false
namespace Sol
section
variable {α : Type} [DecidableEq α]
/-- one more piece -/
def push (e : α) (f : List (Sg α)) (c : Sg α) : List (Sg α) :=
  if c.2.2 = e then f else match f.getLast? with
    | some a => if a.2.1 = c.1 ∧ a.2.2 = c.2.2 then f.dropLast ++ [(a.1, c.2.1, c.2.2)] else f ++ [c]
    | none => f ++ [c]
theorem push_ok {e : α} {p : α → Prop} {f : List (Sg α)} {c : Sg α} (h : Cn e p f) (hb : ∀ t ∈ f, t.2.1 ≤ c.1) (hc : c.1 < c.2.1) (hp : c.2.2 ≠ e → p c.2.2) :
    Cn e p (push e f c) ∧ (∀ t ∈ push e f c, t.2.1 ≤ c.2.1) ∧ ∀ x, val e (push e f c) x = if c.1 ≤ x ∧ x < c.2.1 then c.2.2 else val e f x := by
  unfold push
  by_cases q : c.2.2 = e
  · rw [if_pos q]
    refine ⟨h, fun t ht => ?_, fun x => ?_⟩
    · have := hb t ht; omega
    · split
      · rename_i hx
        rw [q]
        exact val_ge fun t ht => by have := hb t ht; omega
      · rfl
  · rw [if_neg q]
    have snoc : ∀ (f : List (Sg α)), Cn e p f → (∀ t ∈ f, t.2.1 ≤ c.1) → (∀ a, f.getLast? = some a → Nb a c) → Cn e p (f ++ [c]) ∧ (∀ t ∈ f ++ [c], t.2.1 ≤ c.2.1) ∧ ∀ x, val e (f ++ [c]) x = if c.1 ≤ x ∧ x < c.2.1 then c.2.2 else val e f x := by
      intro f h hb hl
      refine ⟨⟨fun t ht => ?_, fun t ht => ?_, fun t ht => ?_, h.ch.snoc hl⟩, fun t ht => ?_, fun x => ?_⟩
      · rcases List.mem_append.mp ht with ht | ht
        · exact h.ne t ht
        · rw [List.mem_singleton.mp ht]; exact hc
      · rcases List.mem_append.mp ht with ht | ht
        · exact h.nz t ht
        · rw [List.mem_singleton.mp ht]; exact q
      · rcases List.mem_append.mp ht with ht | ht
        · exact h.ok t ht
        · rw [List.mem_singleton.mp ht]; exact hp q
      · rcases List.mem_append.mp ht with ht | ht
        · have := hb t ht; omega
        · rw [List.mem_singleton.mp ht]; exact Int.le_refl _
      · by_cases hx : c.1 ≤ x
        · rw [val_append (fun a ha b hb' => by rw [List.mem_singleton.mp hb']; exact hb a ha) (fun b hb' => by rw [List.mem_singleton.mp hb']; exact hx) ⟨c, List.mem_singleton.mpr rfl⟩]
          show (if c.1 ≤ x ∧ x < c.2.1 then c.2.2 else e) = _
          rw [show val e f x = e from val_ge fun t ht => by have := hb t ht; omega]
        · rw [if_neg (by omega)]
          exact val_app_lt fun b hb' => by rw [List.mem_singleton.mp hb']; omega
    rcases List.eq_nil_or_concat f with rfl | ⟨f', a, rfl⟩
    · exact snoc [] h hb fun a ha => by cases ha
    · rw [List.concat_eq_append] at h hb ⊢
      rw [List.getLast?_concat]
      dsimp only
      have ha := hb a (by simp)
      obtain ⟨c1, c2⟩ := Ch.init h.ch
      have h' : Cn e p f' := ⟨fun t ht => h.ne t (by simp [ht]), fun t ht => h.nz t (by simp [ht]), fun t ht => h.ok t (by simp [ht]), c1⟩
      have wa := h.ne a (by simp)
      by_cases q2 : a.2.1 = c.1 ∧ a.2.2 = c.2.2
      · rw [if_pos q2, List.dropLast_concat]
        have hb' : ∀ t ∈ f', t.2.1 ≤ a.1 := fun t ht => by
          have := (List.pairwise_append.mp h.wk.ord).2.2 t ht a (by simp)
          exact this
        refine ⟨⟨fun t ht => ?_, fun t ht => ?_, fun t ht => ?_, c1.snoc fun b hb2 => ?_⟩, fun t ht => ?_, fun x => ?_⟩
        · rcases List.mem_append.mp ht with ht | ht
          · exact h'.ne t ht
          · rw [List.mem_singleton.mp ht]; show a.1 < c.2.1; omega
        · rcases List.mem_append.mp ht with ht | ht
          · exact h'.nz t ht
          · rw [List.mem_singleton.mp ht]; exact q
        · rcases List.mem_append.mp ht with ht | ht
          · exact h'.ok t ht
          · rw [List.mem_singleton.mp ht]; exact hp q
        · have := c2 b hb2
          unfold Nb at this ⊢
          rw [q2.2] at this
          exact this
        · rcases List.mem_append.mp ht with ht | ht
          · have := hb' t ht; omega
          · rw [List.mem_singleton.mp ht]; exact Int.le_refl _
        · by_cases hx : a.1 ≤ x
          · rw [val_append (fun u hu b hb2 => by rw [List.mem_singleton.mp hb2]; exact hb' u hu) (fun b hb2 => by rw [List.mem_singleton.mp hb2]; exact hx) ⟨_, List.mem_singleton.mpr rfl⟩,
              val_append (fun u hu b hb2 => by rw [List.mem_singleton.mp hb2]; exact hb' u hu) (fun b hb2 => by rw [List.mem_singleton.mp hb2]; exact hx) ⟨_, List.mem_singleton.mpr rfl⟩]
            show (if a.1 ≤ x ∧ x < c.2.1 then c.2.2 else e) = if c.1 ≤ x ∧ x < c.2.1 then c.2.2 else (if a.1 ≤ x ∧ x < a.2.1 then a.2.2 else e)
            rw [q2.1, q2.2]
            by_cases x1 : x < c.1
            · rw [if_pos (by omega), if_neg (by omega), if_pos (by omega)]
            · by_cases x2 : x < c.2.1
              · rw [if_pos (by omega), if_pos (by omega)]
              · rw [if_neg (by omega), if_neg (by omega), if_neg (by omega)]
          · rw [val_app_lt fun b hb2 => by rw [List.mem_singleton.mp hb2]; omega, if_neg (by omega), val_app_lt fun b hb2 => by rw [List.mem_singleton.mp hb2]; omega]
      · rw [if_neg q2]
        refine snoc _ h hb fun b hb2 => ?_
        rw [List.getLast?_concat] at hb2
        cases hb2
        unfold Nb
        by_cases q3 : a.2.1 = c.1
        · exact .inr ⟨q3, fun z => q2 ⟨q3, z⟩⟩
        · exact .inl (by omega)

/-- the pairs of neighbours -/
def cells : List Int → List (Int × Int)
  | a :: b :: r => (a, b) :: cells (b :: r)
  | _ => []
theorem cells_zip : ∀ E : List Int, cells E = E.zip (E.drop 1)
  | [] => rfl
  | [_] => rfl
  | a :: b :: r => by
    show (a, b) :: cells (b :: r) = (a, b) :: (b :: r).zip r
    rw [cells_zip (b :: r)]
    rfl
/-- the ends of a lot's stretches -/
def Edge (s : List (Sg α)) (x : Int) : Prop := ∃ t ∈ s, x = t.1 ∨ x = t.2.1
theorem val_const {e : α} {a b x : Int} (h1 : a ≤ x) (h2 : x < b) : ∀ {s : List (Sg α)}, (∀ y, Edge s y → y ≤ a ∨ b ≤ y) → val e s x = val e s a
  | [], _ => rfl
  | t :: r, h => by
    have e1 := h t.1 ⟨t, .head _, .inl rfl⟩
    have e2 := h t.2.1 ⟨t, .head _, .inr rfl⟩
    have ih := val_const (e := e) h1 h2 (s := r) fun y ⟨u, hu, hy⟩ => h y ⟨u, .tail _ hu, hy⟩
    unfold val
    rw [ih]
    by_cases q : t.1 ≤ a ∧ a < t.2.1
    · rw [if_pos q, if_pos (by omega)]
    · rw [if_neg q, if_neg (by omega)]
def made1 (e : α) (g : α → α → α) (s t f : List (Sg α)) (c : Int × Int) : List (Sg α) := push e f (c.1, c.2, g (val e s c.1) (val e t c.1))
theorem made_run {e : α} {p : α → Prop} {g : α → α → α} {s t : List (Sg α)} (hp : ∀ x, g (val e s x) (val e t x) ≠ e → p (g (val e s x) (val e t x))) :
    ∀ (r : List Int) (a : Int) (f : List (Sg α)), (a :: r).Pairwise (· < ·) → (∀ y, Edge s y ∨ Edge t y → y ≤ a ∨ y ∈ r) → Cn e p f → (∀ u ∈ f, u.2.1 ≤ a) → (∀ x, x < a → val e f x = g (val e s x) (val e t x)) →
      ∃ z, a ≤ z ∧ (∀ y, Edge s y ∨ Edge t y → y ≤ z) ∧ Cn e p ((cells (a :: r)).foldl (made1 e g s t) f) ∧ (∀ u ∈ (cells (a :: r)).foldl (made1 e g s t) f, u.2.1 ≤ z) ∧
        ∀ x, x < z → val e ((cells (a :: r)).foldl (made1 e g s t) f) x = g (val e s x) (val e t x)
  | [], a, f, _, hE, h1, h2, h3 => ⟨a, Int.le_refl _, fun y hy => (hE y hy).elim id fun h => (nomatch h), h1, h2, h3⟩
  | b :: r, a, f, hs, hE, h1, h2, h3 => by
    obtain ⟨hab, hs'⟩ := List.pairwise_cons.mp hs
    have lt : a < b := hab b (.head _)
    obtain ⟨hbr, _⟩ := List.pairwise_cons.mp hs'
    have E1 : ∀ y, Edge s y ∨ Edge t y → y ≤ a ∨ b ≤ y := fun y hy => by
      rcases hE y hy with h | h
      · exact .inl h
      · cases h with
        | head => exact .inr (Int.le_refl _)
        | tail _ h => have := hbr y h; exact .inr (by omega)
    obtain ⟨p1, p2, p3⟩ := push_ok (c := (a, b, g (val e s a) (val e t a))) h1 h2 lt (hp a)
    have E2 : ∀ y, Edge s y ∨ Edge t y → y ≤ b ∨ y ∈ r := fun y hy => by
      rcases hE y hy with h | h
      · exact .inl (by omega)
      · cases h with
        | head => exact .inl (Int.le_refl _)
        | tail _ h => exact .inr h
    obtain ⟨z, z1, z2, z3, z4, z5⟩ := made_run hp r b (push e f (a, b, g (val e s a) (val e t a))) hs' E2 p1 p2 fun x hx => by
      rw [p3]
      by_cases hxa : x < a
      · rw [if_neg (by dsimp only; omega)]
        exact h3 x hxa
      · rw [if_pos (by dsimp only; omega), val_const (e := e) (by omega) hx fun y hy => E1 y (.inl hy), val_const (e := e) (by omega) hx fun y hy => E1 y (.inr hy)]
    exact ⟨z, by omega, z2, z3, z4, z5⟩
def made (e : α) (g : α → α → α) (E : List Int) (s t : List (Sg α)) : List (Sg α) := (cells E).foldl (made1 e g s t) []
theorem edge_none {e : α} {s : List (Sg α)} {z x : Int} (hz : z ≤ x) (h : ∀ y, Edge s y → y ≤ z) : val e s x = e :=
  val_ge fun t ht => by have := h t.2.1 ⟨t, ht, .inr rfl⟩; omega
theorem made_ok {e : α} {p : α → Prop} {g : α → α → α} {s t : List (Sg α)} {E : List Int} (hg : g e e = e) (hp : ∀ x, g (val e s x) (val e t x) ≠ e → p (g (val e s x) (val e t x)))
    (hs : Wk s) (ht : Wk t) (hE : E.Pairwise (· < ·)) (hm : ∀ y, Edge s y ∨ Edge t y → y ∈ E) : Cn e p (made e g E s t) ∧ ∀ x, val e (made e g E s t) x = g (val e s x) (val e t x) := by
  cases E with
  | nil =>
    have n1 : ∀ {s : List (Sg α)}, (∀ y, Edge s y → y ∈ ([] : List Int)) → s = [] := fun {s} h => by
      cases s with
      | nil => rfl
      | cons a r => exact (nomatch h a.1 ⟨a, .head _, .inl rfl⟩)
    rw [n1 fun y hy => hm y (.inl hy), n1 fun y hy => hm y (.inr hy)]
    exact ⟨Cn.nil, fun x => hg.symm⟩
  | cons a r =>
    have low : ∀ y, Edge s y ∨ Edge t y → a ≤ y := fun y hy => by
      cases hm y hy with
      | head => exact Int.le_refl _
      | tail _ h => have := (List.pairwise_cons.mp hE).1 y h; omega
    obtain ⟨z, z1, z2, z3, z4, z5⟩ := made_run (e := e) (g := g) (s := s) (t := t) hp r a [] hE (fun y hy => by
      cases hm y hy with
      | head => exact .inl (Int.le_refl _)
      | tail _ h => exact .inr h) Cn.nil (fun _ h => (nomatch h)) fun x hx => by
        rw [val_lt (s := s) (fun u hu => by have := low u.1 (.inl ⟨u, hu, .inl rfl⟩); omega), val_lt (s := t) (fun u hu => by have := low u.1 (.inr ⟨u, hu, .inl rfl⟩); omega), hg]
        rfl
    refine ⟨z3, fun x => ?_⟩
    by_cases hx : x < z
    · exact z5 x hx
    · rw [edge_none (by omega) fun y hy => z2 y (.inl hy), edge_none (s := t) (by omega) fun y hy => z2 y (.inr hy), hg]
      exact val_ge fun u hu => by have := z4 u hu; omega
end
end Sol
/-! Sol3: rows, layers, solids; what they have; one form for each. Own work. -/
set_option linter.all false
set_option Elab.async false
namespace Sol
/-! ### ends, sorted, each once -/
def insU (x : Int) : List Int → List Int
  | [] => [x]
  | y :: r => if x < y then x :: y :: r else if x = y then y :: r else y :: insU x r
theorem mem_insU {x y : Int} : ∀ {l : List Int}, y ∈ insU x l ↔ y = x ∨ y ∈ l
  | [] => by simp [insU]
  | a :: r => by
    unfold insU
    split
    · simp
    · split
      · rename_i h; subst h; simp
      · simp only [List.mem_cons, mem_insU (l := r)]
        constructor
        · rintro (h | h | h)
          · exact .inr (.inl h)
          · exact .inl h
          · exact .inr (.inr h)
        · rintro (h | h | h)
          · exact .inr (.inl h)
          · exact .inl h
          · exact .inr (.inr h)
theorem insU_up {x : Int} : ∀ {l : List Int}, l.Pairwise (· < ·) → (insU x l).Pairwise (· < ·)
  | [], _ => List.pairwise_singleton _ _
  | a :: r, h => by
    obtain ⟨h1, h2⟩ := List.pairwise_cons.mp h
    unfold insU
    split
    · rename_i q
      exact .cons (fun b hb => by
        cases hb with
        | head => exact q
        | tail _ hb => have := h1 b hb; omega) h
    · split
      · exact h
      · refine .cons (fun b hb => ?_) (insU_up h2)
        rcases mem_insU.mp hb with rfl | hb
        · omega
        · exact h1 b hb
/-- the same members, both going up: the same -/
theorem up_uniq : ∀ {l m : List Int}, l.Pairwise (· < ·) → m.Pairwise (· < ·) → (∀ x, x ∈ l ↔ x ∈ m) → l = m
  | [], [], _, _, _ => rfl
  | [], b :: m, _, _, h => absurd ((h b).mpr (.head _)) (by simp)
  | a :: l, [], _, _, h => absurd ((h a).mp (.head _)) (by simp)
  | a :: l, b :: m, hl, hm, h => by
    obtain ⟨l1, l2⟩ := List.pairwise_cons.mp hl
    obtain ⟨m1, m2⟩ := List.pairwise_cons.mp hm
    have e : a = b := by
      have ha := (h a).mp (.head _)
      have hb := (h b).mpr (.head _)
      cases ha with
      | head => rfl
      | tail _ ha => cases hb with
        | head => rfl
        | tail _ hb => have := m1 a ha; have := l1 b hb; omega
    subst e
    congr 1
    refine up_uniq l2 m2 fun x => ⟨fun hx => ?_, fun hx => ?_⟩
    · have := l1 x hx
      cases (h x).mp (.tail _ hx) with
      | head => omega
      | tail _ q => exact q
    · have := m1 x hx
      cases (h x).mpr (.tail _ hx) with
      | head => omega
      | tail _ q => exact q
theorem up_len {lo hi : Int} : ∀ {l : List Int}, l.Pairwise (· < ·) → (∀ x ∈ l, lo ≤ x ∧ x ≤ hi) → (l.length : Int) ≤ hi + 1 - lo ∨ l = []
  | [], _, _ => .inr rfl
  | a :: r, h, q => by
    obtain ⟨h1, h2⟩ := List.pairwise_cons.mp h
    have qa := q a (.head _)
    rcases up_len (lo := a + 1) (hi := hi) h2 fun x hx => ⟨by have := h1 x hx; omega, (q x (.tail _ hx)).2⟩ with z | rfl
    · left; rw [List.length_cons]; omega
    · left; show (1 : Int) ≤ _; omega
section
variable {α : Type}
def edges : List (Sg α) → List Int
  | [] => []
  | t :: r => insU t.1 (insU t.2.1 (edges r))
def ends (s t : List (Sg α)) : List Int := edges (s ++ t)
theorem mem_edges {y : Int} : ∀ {s : List (Sg α)}, y ∈ edges s ↔ Edge s y
  | [] => ⟨fun h => (nomatch h), fun ⟨_, h, _⟩ => (nomatch h)⟩
  | t :: r => by
    unfold edges
    rw [mem_insU, mem_insU, mem_edges]
    constructor
    · rintro (h | h | ⟨u, hu, h⟩)
      · exact ⟨t, .head _, .inl h⟩
      · exact ⟨t, .head _, .inr h⟩
      · exact ⟨u, .tail _ hu, h⟩
    · rintro ⟨u, hu, h⟩
      cases hu with
      | head => rcases h with h | h
                · exact .inl h
                · exact .inr (.inl h)
      | tail _ hu => exact .inr (.inr ⟨u, hu, h⟩)
theorem edges_up : ∀ {s : List (Sg α)}, (edges s).Pairwise (· < ·)
  | [] => .nil
  | t :: r => insU_up (insU_up edges_up)
theorem edge_app {s t : List (Sg α)} {y : Int} : Edge (s ++ t) y ↔ Edge s y ∨ Edge t y := by
  constructor
  · rintro ⟨u, hu, h⟩
    rcases List.mem_append.mp hu with q | q
    · exact .inl ⟨u, q, h⟩
    · exact .inr ⟨u, q, h⟩
  · rintro (⟨u, hu, h⟩ | ⟨u, hu, h⟩)
    · exact ⟨u, List.mem_append.mpr (.inl hu), h⟩
    · exact ⟨u, List.mem_append.mpr (.inr hu), h⟩
theorem mem_ends {s t : List (Sg α)} {y : Int} : y ∈ ends s t ↔ Edge s y ∨ Edge t y := mem_edges.trans edge_app
theorem ends_up {s t : List (Sg α)} : (ends s t).Pairwise (· < ·) := edges_up
end
section
variable {α : Type} [DecidableEq α]
def mk (e : α) (g : α → α → α) (s t : List (Sg α)) : List (Sg α) := made e g (ends s t) s t
theorem mk_ok {e : α} {p : α → Prop} {g : α → α → α} {s t : List (Sg α)} (hg : g e e = e) (hp : ∀ x, g (val e s x) (val e t x) ≠ e → p (g (val e s x) (val e t x))) (hs : Wk s) (ht : Wk t) :
    Cn e p (mk e g s t) ∧ ∀ x, val e (mk e g s t) x = g (val e s x) (val e t x) :=
  made_ok hg hp hs ht ends_up fun y hy => mem_ends.mpr hy
/-- its pieces: each over a cell or some -/
theorem push_mem {e : α} {f : List (Sg α)} {c : Sg α} {R : Int → Prop} {q : α → Prop} (hf : ∀ t ∈ f, R t.1 ∧ R t.2.1 ∧ q t.2.2) (h1 : R c.1) (h2 : R c.2.1) (h3 : q c.2.2) : ∀ t ∈ push e f c, R t.1 ∧ R t.2.1 ∧ q t.2.2 := by
  unfold push
  split
  · exact hf
  · have hs : ∀ t ∈ f ++ [c], R t.1 ∧ R t.2.1 ∧ q t.2.2 := fun t ht => by
      rcases List.mem_append.mp ht with ht | ht
      · exact hf t ht
      · rw [List.mem_singleton.mp ht]; exact ⟨h1, h2, h3⟩
    split
    · rename_i a ha
      have hm : a ∈ f := List.mem_of_getLast? ha
      split
      · intro t ht
        rcases List.mem_append.mp ht with ht | ht
        · exact hf t (List.dropLast_subset _ ht)
        · rw [List.mem_singleton.mp ht]; exact ⟨(hf a hm).1, h2, h3⟩
      · exact hs
    · exact hs
theorem push_len {e : α} {f : List (Sg α)} {c : Sg α} : (push e f c).length ≤ f.length + 1 := by
  unfold push
  split
  · omega
  · split
    · split
      · simp only [List.length_append, List.length_dropLast, List.length_singleton]; omega
      · simp
    · simp
theorem cells_mem {a b : Int} : ∀ {E : List Int}, (a, b) ∈ cells E → a ∈ E ∧ b ∈ E
  | [], h => (nomatch h)
  | [_], h => (nomatch h)
  | x :: y :: r, h => by
    cases h with
    | head => exact ⟨.head _, .tail _ (.head _)⟩
    | tail _ h => obtain ⟨h1, h2⟩ := cells_mem (E := y :: r) h; exact ⟨.tail _ h1, .tail _ h2⟩
theorem made_mem {e : α} {g : α → α → α} {s t : List (Sg α)} {R : Int → Prop} {q : α → Prop} (hq : ∀ x, q (g (val e s x) (val e t x))) :
    ∀ (cs : List (Int × Int)) (f : List (Sg α)), (∀ c ∈ cs, R c.1 ∧ R c.2) → (∀ t ∈ f, R t.1 ∧ R t.2.1 ∧ q t.2.2) → ∀ u ∈ cs.foldl (made1 e g s t) f, R u.1 ∧ R u.2.1 ∧ q u.2.2
  | [], f, _, hf => hf
  | c :: cs, f, hc, hf => made_mem hq cs _ (fun d hd => hc d (.tail _ hd)) (push_mem hf (hc c (.head _)).1 (hc c (.head _)).2 (hq c.1))
theorem mk_mem {e : α} {g : α → α → α} {s t : List (Sg α)} {R : Int → Prop} {q : α → Prop} (hq : ∀ x, q (g (val e s x) (val e t x))) (hs : ∀ u ∈ s, R u.1 ∧ R u.2.1) (ht : ∀ u ∈ t, R u.1 ∧ R u.2.1) :
    ∀ u ∈ mk e g s t, R u.1 ∧ R u.2.1 ∧ q u.2.2 := by
  have hE : ∀ y ∈ ends s t, R y := fun y hy => by
    rcases mem_ends.mp hy with ⟨u, hu, h⟩ | ⟨u, hu, h⟩
    · rcases h with h | h
      · rw [h]; exact (hs u hu).1
      · rw [h]; exact (hs u hu).2
    · rcases h with h | h
      · rw [h]; exact (ht u hu).1
      · rw [h]; exact (ht u hu).2
  exact made_mem hq _ [] (fun c hc => ⟨hE _ (cells_mem hc).1, hE _ (cells_mem hc).2⟩) fun _ h => (nomatch h)
end

/-! ### the three -/
inductive Wd where | either | both | first
  deriving DecidableEq
def bop : Wd → Bool → Bool → Bool
  | .either, a, b => a || b
  | .both, a, b => a && b
  | .first, a, b => a && !b
theorem bop_ff (w : Wd) : bop w false false = false := by cases w <;> rfl
abbrev Row := List (Int × Int)
def Row.s (r : Row) : List (Sg Bool) := r.map fun q => (q.1, q.2, true)
abbrev Layer := List (Sg Row)
abbrev Solid := List (Sg Layer)
def has1 (r : Row) (x : Int) : Bool := val false r.s x
def has2 (l : Layer) (y x : Int) : Bool := has1 (val [] l y) x
def has3 (s : Solid) (z y x : Int) : Bool := has2 (val [] s z) y x
def okRow (r : Row) : Prop := Cn false (fun _ => True) r.s
def okLayer (l : Layer) : Prop := Cn [] okRow l
def okSolid (s : Solid) : Prop := Cn [] okLayer s
theorem okRow_nil : okRow [] := Cn.nil
theorem okLayer_nil : okLayer [] := Cn.nil
theorem okSolid_nil : okSolid [] := Cn.nil
theorem val_ok {α : Type} {e : α} {p : α → Prop} {s : List (Sg α)} (h : Cn e p s) (he : p e) (x : Int) : p (val e s x) := by
  rcases val_mem (e := e) (x := x) (s := s) with q | ⟨t, ht, _, _, q⟩
  · rw [q]; exact he
  · rw [← q]; exact h.ok t ht
theorem s_inj : ∀ {r q : Row}, r.s = q.s → r = q
  | [], [], _ => rfl
  | [], _ :: _, h => by simp [Row.s] at h
  | _ :: _, [], h => by simp [Row.s] at h
  | a :: r, b :: q, h => by
    have h' : ((a.1, a.2, true) : Sg Bool) :: Row.s r = (b.1, b.2, true) :: Row.s q := h
    injection h' with h1 h2
    injection h1 with h3 h4
    injection h4 with h4 h5
    rw [s_inj h2, show a = b from Prod.ext h3 h4]
theorem ext1 {r q : Row} (hr : okRow r) (hq : okRow q) (h : ∀ x, has1 r x = has1 q x) : r = q := s_inj (uniq hr hq h)
theorem ext2 {r q : Layer} (hr : okLayer r) (hq : okLayer q) (h : ∀ y x, has2 r y x = has2 q y x) : r = q :=
  uniq hr hq fun y => ext1 (val_ok hr okRow_nil y) (val_ok hq okRow_nil y) (h y)
/-- a solid is told by what it has -/
theorem ext3 {r q : Solid} (hr : okSolid r) (hq : okSolid q) (h : ∀ z y x, has3 r z y x = has3 q z y x) : r = q :=
  uniq hr hq fun z => ext2 (val_ok hr okLayer_nil z) (val_ok hq okLayer_nil z) (h z)
def unS (s : List (Sg Bool)) : Row := s.map fun t => (t.1, t.2.1)
theorem unS_s : ∀ {s : List (Sg Bool)}, (∀ t ∈ s, t.2.2 = true) → (unS s).s = s
  | [], _ => rfl
  | t :: r, h => by
    show ((t.1, t.2.1, true) : Sg Bool) :: (unS r).s = t :: r
    rw [unS_s fun u hu => h u (.tail _ hu), show t = (t.1, t.2.1, true) from Prod.ext rfl (Prod.ext rfl (h t (.head _)))]
def rowsM (w : Wd) (a b : Row) : Row := unS (mk false (bop w) a.s b.s)
def layersM (w : Wd) (a b : Layer) : Layer := mk [] (rowsM w) a b
def solidM (w : Wd) (a b : Solid) : Solid := mk [] (layersM w) a b
theorem rowsM_s {w : Wd} {a b : Row} (ha : Wk a.s) (hb : Wk b.s) : (rowsM w a b).s = mk false (bop w) a.s b.s :=
  unS_s fun t ht => by
    have := (mk_ok (p := fun _ => True) (bop_ff w) (fun _ _ => trivial) ha hb).1.nz t ht
    cases h : t.2.2
    · exact absurd h this
    · rfl
theorem rows_ok {w : Wd} {a b : Row} (ha : Wk a.s) (hb : Wk b.s) : okRow (rowsM w a b) ∧ ∀ x, has1 (rowsM w a b) x = bop w (has1 a x) (has1 b x) := by
  unfold okRow has1
  rw [rowsM_s ha hb]
  exact mk_ok (bop_ff w) (fun _ _ => trivial) ha hb
theorem rowsM_nil (w : Wd) : rowsM w [] [] = [] := rfl
theorem layersM_nil (w : Wd) : layersM w [] [] = [] := rfl
theorem layers_val {w : Wd} {a b : Layer} (ha : okLayer a) (hb : okLayer b) : okLayer (layersM w a b) ∧ ∀ y, val [] (layersM w a b) y = rowsM w (val [] a y) (val [] b y) :=
  mk_ok (rowsM_nil w) (fun y _ => (rows_ok (val_ok ha okRow_nil y).wk (val_ok hb okRow_nil y).wk).1) ha.wk hb.wk
theorem layers_ok {w : Wd} {a b : Layer} (ha : okLayer a) (hb : okLayer b) : okLayer (layersM w a b) ∧ ∀ y x, has2 (layersM w a b) y x = bop w (has2 a y x) (has2 b y x) :=
  ⟨(layers_val ha hb).1, fun y x => by
    unfold has2
    rw [(layers_val ha hb).2]
    exact (rows_ok (val_ok ha okRow_nil y).wk (val_ok hb okRow_nil y).wk).2 x⟩
theorem solid_val {w : Wd} {a b : Solid} (ha : okSolid a) (hb : okSolid b) : okSolid (solidM w a b) ∧ ∀ z, val [] (solidM w a b) z = layersM w (val [] a z) (val [] b z) :=
  mk_ok (layersM_nil w) (fun y _ => (layers_ok (val_ok ha okLayer_nil y) (val_ok hb okLayer_nil y)).1) ha.wk hb.wk
theorem solid_ok {w : Wd} {a b : Solid} (ha : okSolid a) (hb : okSolid b) : okSolid (solidM w a b) ∧ ∀ z y x, has3 (solidM w a b) z y x = bop w (has3 a z y x) (has3 b z y x) :=
  ⟨(solid_val ha hb).1, fun z y x => by
    unfold has3
    rw [(solid_val ha hb).2]
    exact (layers_ok (val_ok ha okLayer_nil z) (val_ok hb okLayer_nil z)).2 y x⟩

/-! ### within bounds -/
def bd1 (R : Int → Prop) (r : Row) : Prop := ∀ t ∈ r, R t.1 ∧ R t.2
def bd2 (R : Int → Prop) (l : Layer) : Prop := ∀ t ∈ l, R t.1 ∧ R t.2.1 ∧ bd1 R t.2.2
def bd3 (R : Int → Prop) (s : Solid) : Prop := ∀ t ∈ s, R t.1 ∧ R t.2.1 ∧ bd2 R t.2.2
theorem bd1_val {R : Int → Prop} {l : Layer} (h : bd2 R l) (y : Int) : bd1 R (val [] l y) := by
  rcases val_mem (e := []) (x := y) (s := l) with q | ⟨t, ht, _, _, q⟩
  · rw [q]; exact fun _ h => (nomatch h)
  · rw [← q]; exact (h t ht).2.2
theorem bd2_val {R : Int → Prop} {l : Solid} (h : bd3 R l) (y : Int) : bd2 R (val [] l y) := by
  rcases val_mem (e := []) (x := y) (s := l) with q | ⟨t, ht, _, _, q⟩
  · rw [q]; exact fun _ h => (nomatch h)
  · rw [← q]; exact (h t ht).2.2
theorem rows_bd {R : Int → Prop} {w : Wd} {a b : Row} (ha : bd1 R a) (hb : bd1 R b) : bd1 R (rowsM w a b) := by
  intro t ht
  obtain ⟨u, hu, rfl⟩ := List.mem_map.mp ht
  have hs : ∀ {a : Row}, bd1 R a → ∀ u ∈ a.s, R u.1 ∧ R u.2.1 := fun {a} ha u hu => by
    obtain ⟨v, hv, rfl⟩ := List.mem_map.mp hu
    exact ha v hv
  have := mk_mem (e := false) (g := bop w) (q := fun _ => True) (R := R) (fun _ => trivial) (hs ha) (hs hb) u hu
  exact ⟨this.1, this.2.1⟩
theorem layers_bd {R : Int → Prop} {w : Wd} {a b : Layer} (ha : bd2 R a) (hb : bd2 R b) : bd2 R (layersM w a b) :=
  mk_mem (q := bd1 R) (fun y => rows_bd (bd1_val ha y) (bd1_val hb y)) (fun u hu => ⟨(ha u hu).1, (ha u hu).2.1⟩) fun u hu => ⟨(hb u hu).1, (hb u hu).2.1⟩
theorem solid_bd {R : Int → Prop} {w : Wd} {a b : Solid} (ha : bd3 R a) (hb : bd3 R b) : bd3 R (solidM w a b) :=
  mk_mem (q := bd2 R) (fun y => layers_bd (bd2_val ha y) (bd2_val hb y)) (fun u hu => ⟨(ha u hu).1, (ha u hu).2.1⟩) fun u hu => ⟨(hb u hu).1, (hb u hu).2.1⟩
/-- no more of them than places -/
theorem wk_len {α : Type} {lo hi : Int} : ∀ {s : List (Sg α)}, Wk s → (∀ t ∈ s, lo ≤ t.1 ∧ t.2.1 ≤ hi) → (s.length : Int) ≤ hi - lo ∨ s = []
  | [], _, _ => .inr rfl
  | a :: r, h, q => by
    have qa := q a (.head _)
    have wa := h.ne a (.head _)
    rcases wk_len (lo := a.2.1) (hi := hi) h.tail fun t ht => ⟨(List.pairwise_cons.mp h.ord).1 t ht, (q t (.tail _ ht)).2⟩ with z | rfl
    · left; rw [List.length_cons]; omega
    · left; show (1 : Int) ≤ _; omega
end Sol
/-! Enc: solids as data; == of data. Own work. -/
set_option linter.all false
set_option Elab.async false
set_option maxRecDepth 100000
namespace Lil
open Sol
@[simp] theorem ix_0 (a : DV) (r : List DV) (h : Hd) : index (.tup (a :: r)) (.int 0) h = some a := by
  show (ixn (r.length + 1) 0).bind (fun j => (a :: r)[j]?) = some a
  unfold ixn
  rw [if_pos (by decide), if_pos (by omega)]
  rfl
@[simp] theorem ix_1 (a b : DV) (r : List DV) (h : Hd) : index (.tup (a :: b :: r)) (.int 1) h = some b := by
  show (ixn (r.length + 1 + 1) 1).bind (fun j => (a :: b :: r)[j]?) = some b
  unfold ixn
  rw [if_pos (by decide), if_pos (by omega)]
  rfl
@[simp] theorem ix_2 (a b c : DV) (r : List DV) (h : Hd) : index (.tup (a :: b :: c :: r)) (.int 2) h = some c := by
  show (ixn (r.length + 1 + 1 + 1) 2).bind (fun j => (a :: b :: c :: r)[j]?) = some c
  unfold ixn
  rw [if_pos (by decide), if_pos (by omega)]
  rfl
theorem ix_at {ds : List DV} {i : Nat} {d : DV} {h : Hd} (e : ds[i]? = some d) : index (.tup ds) (.int i) h = some d := by
  have hi : i < ds.length := (List.getElem?_eq_some_iff.mp e).1
  show (ixn ds.length i).bind (fun j => ds[j]?) = some d
  unfold ixn
  rw [if_pos (by omega), if_pos (by omega)]
  exact e
/-- data of ints and tuples, to a depth -/
def idt : Nat → DV → Bool
  | 0, _ => false
  | n + 1, x => match x with
    | .int _ => true
    | .tup ds => ds.all (idt n)
    | _ => false
theorem allEq_iff {f : DV → DV → Bool} {p : DV → Bool} (hf : ∀ a b, p a = true → p b = true → (f a b = true ↔ a = b)) : ∀ {xs ys : List DV}, xs.all p = true → ys.all p = true → (allEq f xs ys = true ↔ xs = ys)
  | [], [], _, _ => ⟨fun _ => rfl, fun _ => rfl⟩
  | [], _ :: _, _, _ => ⟨fun h => (nomatch h), fun h => (nomatch h)⟩
  | _ :: _, [], _, _ => ⟨fun h => (nomatch h), fun h => (nomatch h)⟩
  | x :: xs, y :: ys, h1, h2 => by
    rw [List.all_cons, Bool.and_eq_true] at h1 h2
    show (f x y && allEq f xs ys) = true ↔ _
    rw [Bool.and_eq_true, hf x y h1.1 h2.1, allEq_iff hf h1.2 h2.2]
    constructor
    · rintro ⟨rfl, rfl⟩; rfl
    · intro h; injection h with h3 h4; exact ⟨h3, h4⟩
theorem idt_mono : ∀ {n m : Nat} {a : DV}, idt n a = true → n ≤ m → idt m a = true
  | 0, _, _, h, _ => (nomatch h)
  | n + 1, 0, _, _, q => by omega
  | n + 1, m + 1, a, h, q => by
    unfold idt at h ⊢
    cases a <;> first | exact h | skip
    rename_i ds
    refine List.all_eq_true.mpr fun x hx => ?_
    exact idt_mono (List.all_eq_true.mp h x hx) (by omega)
theorem idt_dat {h : Hd} : ∀ {n : Nat} {a : DV}, idt n a = true → isDat h n a = true
  | 0, _, q => (nomatch q)
  | n + 1, a, q => by
    unfold idt at q
    unfold isDat
    cases a <;> first | exact q | (cases q; done) | skip
    exact List.all_eq_true.mpr fun x hx => idt_dat (List.all_eq_true.mp q x hx)
theorem idt_deq {h : Hd} : ∀ {n : Nat} {a b : DV}, idt n a = true → idt n b = true → (deq h n a b = true ↔ a = b)
  | 0, _, _, q, _ => (nomatch q)
  | n + 1, a, b, qa, qb => by
    unfold idt at qa qb
    unfold deq
    cases a <;> cases b <;> first | (cases qa; done) | (cases qb; done) | skip
    · rename_i i j
      show (i == j) = true ↔ _
      rw [beq_iff_eq]
      exact ⟨fun h => by rw [h], fun h => by injection h⟩
    · exact ⟨fun h => (nomatch h), fun h => (nomatch h)⟩
    · exact ⟨fun h => (nomatch h), fun h => (nomatch h)⟩
    · rename_i xs ys
      show allEq (deq h n) xs ys = true ↔ _
      rw [allEq_iff (p := idt n) (fun a b ha hb => idt_deq ha hb) qa qb]
      exact ⟨fun h => by rw [h], fun h => by injection h⟩
theorem eqO_int {h : Hd} {a b : DV} {p : Prop} [Decidable p] (ha : idt DEEP a = true) (hb : idt DEEP b = true) (hp : a = b ↔ p) : eqO h DEEP a b = some (decide p) := by
  unfold eqO
  rw [idt_dat ha, idt_dat hb, Bool.and_self, if_pos rfl]
  congr 1
  rw [Bool.eq_iff_iff, idt_deq ha hb, hp, decide_eq_true_iff]
theorem eqq_no {a b : DV} {h : Hd} (e : dctT a h = none) : eqq a b h = eqO h DEEP a b := by
  unfold eqq
  rw [e]
theorem idt_nod {a : DV} {h : Hd} {n : Nat} (ha : idt n a = true) : dctT a h = none := by
  cases n with
  | zero => cases ha
  | succ n => cases a <;> first | rfl | (simp [idt] at ha; done)
theorem lst_nod {h : Hd} {n : Nat} {xs : List DV} (e1 : h[n]? = some (.lst xs)) : dctT (.ref n) h = none := by
  unfold dctT
  dsimp only
  rw [e1]
theorem cop_eqd {h : Hd} {a b : DV} {p : Prop} [Decidable p] (ha : idt DEEP a = true) (hb : idt DEEP b = true) (hp : a = b ↔ p) : cop .eq a b h = some (decide p) := (eqq_no (idt_nod ha)).trans (eqO_int ha hb hp)
theorem cop_ned {h : Hd} {a b : DV} {p : Prop} [Decidable p] (ha : idt DEEP a = true) (hb : idt DEEP b = true) (hp : a = b ↔ p) : cop .ne a b h = some (!decide p) := by
  show (eqq a b h).map (!·) = _
  rw [eqq_no (idt_nod ha), eqO_int ha hb hp]; rfl
/-- xs == [] -/
theorem eq_nil {h : Hd} {n m : Nat} {xs : List DV} (e1 : h[n]? = some (.lst xs)) (e2 : h[m]? = some (.lst [])) (hx : ∀ x ∈ xs, idt 39 x = true) : eqO h DEEP (.ref n) (.ref m) = some (decide (xs = [])) := by
  unfold eqO
  have d1 : isDat h DEEP (.ref n) = true := by
    show (match h[n]? with | some (.lst ds) => ds.all (isDat h 39) | _ => false) = true
    rw [e1]
    exact List.all_eq_true.mpr fun x hx' => idt_dat (hx x hx')
  have d2 : isDat h DEEP (.ref m) = true := by
    show (match h[m]? with | some (.lst ds) => ds.all (isDat h 39) | _ => false) = true
    rw [e2]
    rfl
  rw [d1, d2, Bool.and_self, if_pos rfl]
  congr 1
  show (match h[n]?, h[m]? with | some (.lst xs), some (.lst ys) => allEq (deq h 39) xs ys | _, _ => false) = _
  rw [e1, e2]
  cases xs with
  | nil => rfl
  | cons x r => rfl
theorem cop_nenil {h : Hd} {n m : Nat} {xs : List DV} (e1 : h[n]? = some (.lst xs)) (e2 : h[m]? = some (.lst [])) (hx : ∀ x ∈ xs, idt 39 x = true) : cop .ne (.ref n) (.ref m) h = some (!decide (xs = [])) := by
  show (eqq (.ref n) (.ref m) h).map (!·) = _
  rw [eqq_no (lst_nod e1), eq_nil e1 e2 hx]; rfl

/-! ### solids -/
def encP (q : Int × Int) : DV := .tup [.int q.1, .int q.2]
def encRow (r : Row) : DV := .tup (r.map encP)
def encSg {α : Type} (f : α → DV) (t : Sg α) : DV := .tup [.int t.1, .int t.2.1, f t.2.2]
def encS {α : Type} (f : α → DV) (s : List (Sg α)) : DV := .tup (s.map (encSg f))
def encLay (l : Layer) : DV := encS encRow l
def encSol (s : Solid) : DV := encS encLay s
theorem idt_row (r : Row) : idt 3 (encRow r) = true := by
  show (r.map encP).all (idt 2) = true
  rw [List.all_map]
  exact List.all_eq_true.mpr fun x _ => rfl
theorem idt_encS {α : Type} {f : α → DV} {n : Nat} (hf : ∀ a, idt (n + 1) (f a) = true) (s : List (Sg α)) : idt (n + 3) (encS f s) = true := by
  show (s.map (encSg f)).all (idt (n + 2)) = true
  rw [List.all_map]
  refine List.all_eq_true.mpr fun t _ => ?_
  show ([DV.int t.1, .int t.2.1, f t.2.2]).all (idt (n + 1)) = true
  rw [List.all_cons, List.all_cons, List.all_cons, hf]
  rfl
theorem idt_lay (l : Layer) : idt 5 (encLay l) = true := idt_encS (n := 2) idt_row l
theorem idt_sol (l : Solid) : idt 7 (encSol l) = true := idt_encS (n := 4) idt_lay l
theorem map_inj {α β : Type} {f : α → β} (hf : ∀ a b, f a = f b → a = b) : ∀ {s t : List α}, s.map f = t.map f → s = t
  | [], [], _ => rfl
  | [], _ :: _, h => (nomatch h)
  | _ :: _, [], h => (nomatch h)
  | a :: s, b :: t, h => by
    injection h with h1 h2
    rw [hf a b h1, map_inj hf h2]
theorem encP_inj {a b : Int × Int} (h : encP a = encP b) : a = b := by
  unfold encP at h
  injection h with h
  injection h with h1 h
  injection h with h2 _
  injection h1 with h1
  injection h2 with h2
  exact Prod.ext h1 h2
theorem encRow_inj {a b : Row} (h : encRow a = encRow b) : a = b := map_inj (fun _ _ => encP_inj) (by injection h)
theorem encSg_inj {α : Type} {f : α → DV} (hf : ∀ a b, f a = f b → a = b) {a b : Sg α} (h : encSg f a = encSg f b) : a = b := by
  unfold encSg at h
  injection h with h
  injection h with h1 h
  injection h with h2 h
  injection h with h3 _
  injection h1 with h1
  injection h2 with h2
  exact Prod.ext h1 (Prod.ext h2 (hf _ _ h3))
theorem encS_inj {α : Type} {f : α → DV} (hf : ∀ a b, f a = f b → a = b) {a b : List (Sg α)} (h : encS f a = encS f b) : a = b := map_inj (fun _ _ => encSg_inj hf) (by injection h)
theorem encLay_inj {a b : Layer} (h : encLay a = encLay b) : a = b := encS_inj (fun _ _ => encRow_inj) h
theorem encSol_inj {a b : Solid} (h : encSol a = encSol b) : a = b := encS_inj (fun _ _ => encLay_inj) h

/-! ### sorting ints -/
theorem mem_insI {x y : Int} : ∀ {l : List Int}, y ∈ insI x l ↔ y = x ∨ y ∈ l
  | [] => by simp [insI]
  | a :: r => by
    unfold insI
    split
    · simp only [List.mem_cons, mem_insI (l := r)]
      constructor
      · rintro (h | h | h)
        · exact .inr (.inl h)
        · exact .inl h
        · exact .inr (.inr h)
      · rintro (h | h | h)
        · exact .inr (.inl h)
        · exact .inl h
        · exact .inr (.inr h)
    · simp
theorem insI_up {x : Int} : ∀ {l : List Int}, l.Pairwise (· < ·) → x ∉ l → (insI x l).Pairwise (· < ·)
  | [], _, _ => List.pairwise_singleton _ _
  | a :: r, h, hx => by
    obtain ⟨h1, h2⟩ := List.pairwise_cons.mp h
    rw [List.mem_cons, not_or] at hx
    unfold insI
    split
    · refine .cons (fun b hb => ?_) (insI_up h2 hx.2)
      rcases mem_insI.mp hb with rfl | hb
      · assumption
      · exact h1 b hb
    · refine .cons (fun b hb => ?_) h
      cases hb with
      | head => omega
      | tail _ hb => have := h1 b hb; omega
theorem sortI_ok : ∀ {l : List Int}, l.Nodup → (sortI l).Pairwise (· < ·) ∧ ∀ y, y ∈ sortI l ↔ y ∈ l
  | [], _ => ⟨.nil, fun _ => Iff.rfl⟩
  | a :: r, h => by
    obtain ⟨h1, h2⟩ := List.nodup_cons.mp h
    obtain ⟨s1, s2⟩ := sortI_ok h2
    refine ⟨insI_up s1 fun z => h1 ((s2 a).mp z), fun y => ?_⟩
    show y ∈ insI a (sortI r) ↔ _
    rw [mem_insI, s2, List.mem_cons]
theorem insI_len {x : Int} : ∀ {l : List Int}, (insI x l).length = l.length + 1
  | [] => rfl
  | a :: r => by
    unfold insI
    split
    · rw [List.length_cons, insI_len]; rfl
    · rfl
theorem sortI_len : ∀ {l : List Int}, (sortI l).length = l.length
  | [] => rfl
  | a :: r => by show (insI a (sortI r)).length = _; rw [insI_len, sortI_len]; rfl
theorem allInts_map : ∀ l : List Int, allInts (l.map .int) = some l
  | [] => rfl
  | a :: r => by
    show (allInts (r.map .int)).map (a :: ·) = _
    rw [allInts_map r]; rfl
/-- dicts of ints, True at each -/
def encK (K : List Int) : List (DV × DV) := K.map fun k => (.int k, .bl true)
theorem getK : ∀ (K : List Int) (k : Int), getD (encK K) (.int k) = if k ∈ K then some (.bl true) else none
  | [], _ => rfl
  | a :: r, k => by
    show (if (a == k) = true then some (.bl true) else getD (encK r) (.int k)) = _
    rw [getK r k]
    by_cases q : a = k
    · subst q; simp
    · rw [if_neg (by simpa using q)]
      by_cases q2 : k ∈ r
      · rw [if_pos q2, if_pos (.tail _ q2)]
      · rw [if_neg q2, if_neg (by simp [q2, Ne.symm q])]
theorem putK' (K : List Int) (k : Int) : putD (encK K) (.int k) (.bl true) = encK (if k ∈ K then K else K ++ [k]) := by
  unfold putD
  rw [getK]
  by_cases q : k ∈ K
  · rw [if_pos q, if_pos q]
    simp only [Option.isSome_some, if_true]
    unfold encK
    rw [List.map_map]
    refine List.map_congr_left fun a _ => ?_
    show (if keyEq (.int a) (.int k) = true then _ else _) = _
    split <;> rfl
  · rw [if_neg q, if_neg q]
    simp [encK]
theorem add_nodup {K : List Int} {k : Int} (h : K.Nodup) : (if k ∈ K then K else K ++ [k]).Nodup := by
  split
  · exact h
  · rename_i q
    exact List.nodup_append.mpr ⟨h, by simp, fun a ha b hb => by rw [List.mem_singleton.mp hb]; intro z; subst z; exact q ha⟩
theorem add_mem {K : List Int} {k y : Int} : y ∈ (if k ∈ K then K else K ++ [k]) ↔ y = k ∨ y ∈ K := by
  split
  · rename_i q
    exact ⟨.inr, fun h => h.elim (fun z => by rw [z]; exact q) id⟩
  · simp [or_comm]
theorem add_len {K : List Int} {k : Int} : (if k ∈ K then K else K ++ [k]).length ≤ K.length + 1 := by
  split <;> simp
theorem ends_map {α β : Type} {f : α → β} : ∀ (s : List (Sg α)), edges (s.map fun t => (t.1, t.2.1, f t.2.2)) = edges s
  | [] => rfl
  | a :: r => by
    show insU a.1 (insU a.2.1 (edges (r.map _))) = _
    rw [ends_map r]; rfl
end Lil
/-! Bod: bodies that several laws share, the called defs as places. Written by gen.py. -/
set_option linter.all false
set_option Elab.async false
namespace Lil
/-- is_number: 0 thing -/
def B_is_number : Ss := (.cons (.ret (.and (.isi (.var 0) .int) (.nt (.isi (.var 0) .bool)))) .nil)
def D_is_number : FD := ⟨1, 1, B_is_number⟩
/-- is_row: 0 thing, 1 one, 2 low, 3 high, 4 other -/
def B_is_row (i_is_number : Nat) : Ss := (.cons (.ift (.or (.nt (.isi (.var 0) .tuple)) (.cmp .eq (.var 0) (.tup .nil))) (.cons (.ret (.lit (.bl false))) .nil) .nil) (.cons (.fo (.nm 1) (.sq (.var 0)) (.cons (.ift (.or (.nt (.isi (.var 1) .tuple)) (.or (.cmp .ne (.blt .len (.cons (.var 1) .nil)) (.lit (.int (2)))) (.or (.nt (.cal i_is_number (.cons (.idx (.var 1) (.lit (.int (0)))) .nil))) (.nt (.cal i_is_number (.cons (.idx (.var 1) (.lit (.int (1)))) .nil)))))) (.cons (.ret (.lit (.bl false))) .nil) .nil) .nil)) (.cons (.ift (.nt (.blt .all (.cons (.lc (.cmp .lt (.var 2) (.var 3)) (.tp (.cons (.nm 2) (.cons (.nm 3) .nil))) (.sq (.var 0)) .no [2, 3]) .nil))) (.cons (.ret (.lit (.bl false))) .nil) .nil) (.cons (.ret (.blt .all (.cons (.lc (.cmp .lt (.idx (.var 1) (.lit (.int (1)))) (.idx (.var 4) (.lit (.int (0))))) (.tp (.cons (.nm 1) (.cons (.nm 4) .nil))) (.zp (.var 0) (.slc (.var 0) (.so (.lit (.int (1)))) .no)) .no [1, 4]) .nil))) .nil))))
def D_is_row (i_is_number : Nat) : FD := ⟨1, 5, B_is_row i_is_number⟩
/-- are_stretches: 0 thing, 1 is_inside, 2 one, 3 other -/
def B_are_stretches (i_is_number : Nat) : Ss := (.cons (.ift (.nt (.isi (.var 0) .tuple)) (.cons (.ret (.lit (.bl false))) .nil) .nil) (.cons (.fo (.nm 2) (.sq (.var 0)) (.cons (.ift (.or (.nt (.isi (.var 2) .tuple)) (.or (.cmp .ne (.blt .len (.cons (.var 2) .nil)) (.lit (.int (3)))) (.or (.nt (.cal i_is_number (.cons (.idx (.var 2) (.lit (.int (0)))) .nil))) (.nt (.cal i_is_number (.cons (.idx (.var 2) (.lit (.int (1)))) .nil)))))) (.cons (.ret (.lit (.bl false))) .nil) .nil) (.cons (.ift (.or (.cmp .ge (.idx (.var 2) (.lit (.int (0)))) (.idx (.var 2) (.lit (.int (1))))) (.nt (.cav 1 (.cons (.idx (.var 2) (.lit (.int (2)))) .nil)))) (.cons (.ret (.lit (.bl false))) .nil) .nil) .nil))) (.cons (.fo (.tp (.cons (.nm 2) (.cons (.nm 3) .nil))) (.zp (.var 0) (.slc (.var 0) (.so (.lit (.int (1)))) .no)) (.cons (.ift (.or (.cmp .gt (.idx (.var 2) (.lit (.int (1)))) (.idx (.var 3) (.lit (.int (0))))) (.and (.cmp .eq (.idx (.var 2) (.lit (.int (1)))) (.idx (.var 3) (.lit (.int (0))))) (.cmp .eq (.idx (.var 2) (.lit (.int (2)))) (.idx (.var 3) (.lit (.int (2))))))) (.cons (.ret (.lit (.bl false))) .nil) .nil) .nil)) (.cons (.ret (.lit (.bl true))) .nil))))
def D_are_stretches (i_is_number : Nat) : FD := ⟨2, 4, B_are_stretches i_is_number⟩
/-- is_layer: 0 thing -/
def B_is_layer (i_is_row i_are_stretches : Nat) : Ss := (.cons (.ret (.and (.cmp .ne (.var 0) (.tup .nil)) (.cal i_are_stretches (.cons (.var 0) (.cons (.lit (.fn i_is_row)) .nil))))) .nil)
def D_is_layer (i_is_row i_are_stretches : Nat) : FD := ⟨1, 1, B_is_layer i_is_row i_are_stretches⟩
/-- is_solid: 0 thing -/
def B_is_solid (i_are_stretches i_is_layer : Nat) : Ss := (.cons (.ret (.cal i_are_stretches (.cons (.var 0) (.cons (.lit (.fn i_is_layer)) .nil)))) .nil)
def D_is_solid (i_are_stretches i_is_layer : Nat) : FD := ⟨1, 1, B_is_solid i_are_stretches i_is_layer⟩
/-- is_kept: 0 word, 1 is_in, 2 is_other -/
def B_is_kept : Ss := (.cons (.ift (.cmp .eq (.var 0) (.lit (.str [101, 105, 116, 104, 101, 114]))) (.cons (.ret (.or (.var 1) (.var 2))) .nil) .nil) (.cons (.ret (.ife (.cmp .eq (.var 0) (.lit (.str [98, 111, 116, 104]))) (.and (.var 1) (.var 2)) (.and (.var 1) (.nt (.var 2))))) .nil))
def D_is_kept : FD := ⟨3, 3, B_is_kept⟩
/-- ends_of: 0 one, 1 other, 2 found, 3 part -/
def B_ends_of : Ss := (.cons (.asg (.pt (.nm 2)) .dnw) (.cons (.fo (.nm 3) (.sq (.lst (.str (.var 0) (.str (.var 1) .nil)))) (.cons (.asg (.tp (.cons (.sub (.var 2) (.idx (.var 3) (.lit (.int (0))))) (.cons (.sub (.var 2) (.idx (.var 3) (.lit (.int (1))))) .nil))) (.tup (.cons (.lit (.bl true)) (.cons (.lit (.bl true)) .nil)))) .nil)) (.cons (.ret (.blt .sorted (.cons (.var 2) .nil))) .nil)))
def D_ends_of : FD := ⟨2, 4, B_ends_of⟩
/-- rows_made: 0 one, 1 other, 2 word, 3 found, 4 at, 5 place, 6 ends, 7 low, 8 high, 9 is_in -/
def B_rows_made (i_is_kept i_ends_of : Nat) : Ss := (.cons (.par [3, 4, 5] (.cons (.lst .nil) (.cons (.lit (.int (0))) (.cons (.lit (.int (0))) .nil)))) (.cons (.asg (.pt (.nm 6)) (.cal i_ends_of (.cons (.var 0) (.cons (.var 1) .nil)))) (.cons (.fo (.tp (.cons (.nm 7) (.cons (.nm 8) .nil))) (.zp (.var 6) (.slc (.var 6) (.so (.lit (.int (1)))) .no)) (.cons (.wh (.and (.cmp .lt (.var 4) (.blt .len (.cons (.var 0) .nil))) (.cmp .le (.idx (.idx (.var 0) (.var 4)) (.lit (.int (1)))) (.var 7))) (.cons (.aug 4 .add (.lit (.int (1)))) .nil)) (.cons (.wh (.and (.cmp .lt (.var 5) (.blt .len (.cons (.var 1) .nil))) (.cmp .le (.idx (.idx (.var 1) (.var 5)) (.lit (.int (1)))) (.var 7))) (.cons (.aug 5 .add (.lit (.int (1)))) .nil)) (.cons (.asg (.pt (.nm 9)) (.and (.cmp .lt (.var 4) (.blt .len (.cons (.var 0) .nil))) (.cmp .le (.idx (.idx (.var 0) (.var 4)) (.lit (.int (0)))) (.var 7)))) (.cons (.ift (.cal i_is_kept (.cons (.var 2) (.cons (.var 9) (.cons (.and (.cmp .lt (.var 5) (.blt .len (.cons (.var 1) .nil))) (.cmp .le (.idx (.idx (.var 1) (.var 5)) (.lit (.int (0)))) (.var 7))) .nil)))) (.cons (.ift (.and (.cmp .ne (.var 3) (.lst .nil)) (.cmp .eq (.idx (.idx (.var 3) (.neg (.lit (.int (1))))) (.lit (.int (1)))) (.var 7))) (.cons (.asg (.sub (.var 3) (.neg (.lit (.int (1))))) (.tup (.cons (.idx (.idx (.var 3) (.neg (.lit (.int (1))))) (.lit (.int (0)))) (.cons (.var 8) .nil)))) .nil) (.cons (.exp (.mth .append (.var 3) (.cons (.tup (.cons (.var 7) (.cons (.var 8) .nil))) .nil))) .nil)) .nil) .nil) .nil))))) (.cons (.ret (.blt .tuple (.cons (.var 3) .nil))) .nil))))
def D_rows_made (i_is_kept i_ends_of : Nat) : FD := ⟨3, 10, B_rows_made i_is_kept i_ends_of⟩
/-- stretches_made: 0 one, 1 other, 2 word, 3 inner, 4 found, 5 at, 6 place, 7 ends, 8 low, 9 high, 10 first, 11 second, 12 inside -/
def B_stretches_made (i_ends_of : Nat) : Ss := (.cons (.par [4, 5, 6] (.cons (.lst .nil) (.cons (.lit (.int (0))) (.cons (.lit (.int (0))) .nil)))) (.cons (.asg (.pt (.nm 7)) (.cal i_ends_of (.cons (.var 0) (.cons (.var 1) .nil)))) (.cons (.fo (.tp (.cons (.nm 8) (.cons (.nm 9) .nil))) (.zp (.var 7) (.slc (.var 7) (.so (.lit (.int (1)))) .no)) (.cons (.wh (.and (.cmp .lt (.var 5) (.blt .len (.cons (.var 0) .nil))) (.cmp .le (.idx (.idx (.var 0) (.var 5)) (.lit (.int (1)))) (.var 8))) (.cons (.aug 5 .add (.lit (.int (1)))) .nil)) (.cons (.wh (.and (.cmp .lt (.var 6) (.blt .len (.cons (.var 1) .nil))) (.cmp .le (.idx (.idx (.var 1) (.var 6)) (.lit (.int (1)))) (.var 8))) (.cons (.aug 6 .add (.lit (.int (1)))) .nil)) (.cons (.asg (.pt (.nm 10)) (.ife (.and (.cmp .lt (.var 5) (.blt .len (.cons (.var 0) .nil))) (.cmp .le (.idx (.idx (.var 0) (.var 5)) (.lit (.int (0)))) (.var 8))) (.idx (.idx (.var 0) (.var 5)) (.lit (.int (2)))) (.tup .nil))) (.cons (.asg (.pt (.nm 11)) (.ife (.and (.cmp .lt (.var 6) (.blt .len (.cons (.var 1) .nil))) (.cmp .le (.idx (.idx (.var 1) (.var 6)) (.lit (.int (0)))) (.var 8))) (.idx (.idx (.var 1) (.var 6)) (.lit (.int (2)))) (.tup .nil))) (.cons (.asg (.pt (.nm 12)) (.cav 3 (.cons (.var 10) (.cons (.var 11) (.cons (.var 2) .nil))))) (.cons (.ift (.cmp .ne (.var 12) (.tup .nil)) (.cons (.ift (.and (.cmp .ne (.var 4) (.lst .nil)) (.and (.cmp .eq (.idx (.idx (.var 4) (.neg (.lit (.int (1))))) (.lit (.int (1)))) (.var 8)) (.cmp .eq (.idx (.idx (.var 4) (.neg (.lit (.int (1))))) (.lit (.int (2)))) (.var 12)))) (.cons (.asg (.sub (.var 4) (.neg (.lit (.int (1))))) (.tup (.cons (.idx (.idx (.var 4) (.neg (.lit (.int (1))))) (.lit (.int (0)))) (.cons (.var 9) (.cons (.var 12) .nil))))) .nil) (.cons (.exp (.mth .append (.var 4) (.cons (.tup (.cons (.var 8) (.cons (.var 9) (.cons (.var 12) .nil)))) .nil))) .nil)) .nil) .nil) .nil))))))) (.cons (.ret (.blt .tuple (.cons (.var 4) .nil))) .nil))))
def D_stretches_made (i_ends_of : Nat) : FD := ⟨4, 13, B_stretches_made i_ends_of⟩
/-- layers_made: 0 one, 1 other, 2 word -/
def B_layers_made (i_rows_made i_stretches_made : Nat) : Ss := (.cons (.ret (.cal i_stretches_made (.cons (.var 0) (.cons (.var 1) (.cons (.var 2) (.cons (.lit (.fn i_rows_made)) .nil)))))) .nil)
def D_layers_made (i_rows_made i_stretches_made : Nat) : FD := ⟨3, 3, B_layers_made i_rows_made i_stretches_made⟩
/-- union: 0 one, 1 other -/
def B_union (i_stretches_made i_layers_made : Nat) : Ss := (.cons (.ret (.cal i_stretches_made (.cons (.var 0) (.cons (.var 1) (.cons (.lit (.str [101, 105, 116, 104, 101, 114])) (.cons (.lit (.fn i_layers_made)) .nil)))))) .nil)
def D_union (i_stretches_made i_layers_made : Nat) : FD := ⟨2, 2, B_union i_stretches_made i_layers_made⟩
/-- union_of: 0 solids, 1 left, 2 pairs, 3 one, 4 other -/
def B_union_of (i_union : Nat) : Ss := (.cons (.asg (.pt (.nm 1)) (.blt .list (.cons (.var 0) .nil))) (.cons (.wh (.cmp .gt (.blt .len (.cons (.var 1) .nil)) (.lit (.int (1)))) (.cons (.asg (.pt (.nm 2)) (.lc (.cal i_union (.cons (.var 3) (.cons (.var 4) .nil))) (.tp (.cons (.nm 3) (.cons (.nm 4) .nil))) (.zp (.stp (.var 1) 0) (.stp (.var 1) 1)) .no [3, 4])) (.cons (.asg (.pt (.nm 1)) (.bin .add (.var 2) (.slc (.var 1) (.so (.bin .mul (.bin .fdiv (.blt .len (.cons (.var 1) .nil)) (.lit (.int (2)))) (.lit (.int (2))))) .no))) .nil))) (.cons (.ret (.ife (.cmp .ne (.var 1) (.lst .nil)) (.idx (.var 1) (.lit (.int (0)))) (.tup .nil))) .nil)))
def D_union_of (i_union : Nat) : FD := ⟨1, 5, B_union_of i_union⟩
/-- box: 0 corner, 1 other, 2 axis -/
def B_box : Ss := (.cons (.ift (.nt (.blt .all (.cons (.lc (.cmp .lt (.idx (.var 0) (.var 2)) (.idx (.var 1) (.var 2))) (.nm 2) (.sq (.lit (.tup [.int (0), .int (1), .int (2)]))) .no [2]) .nil))) (.cons (.ret (.tup .nil)) .nil) .nil) (.cons (.ret (.tup (.cons (.tup (.cons (.idx (.var 0) (.lit (.int (2)))) (.cons (.idx (.var 1) (.lit (.int (2)))) (.cons (.tup (.cons (.tup (.cons (.idx (.var 0) (.lit (.int (1)))) (.cons (.idx (.var 1) (.lit (.int (1)))) (.cons (.tup (.cons (.tup (.cons (.idx (.var 0) (.lit (.int (0)))) (.cons (.idx (.var 1) (.lit (.int (0)))) .nil))) .nil)) .nil)))) .nil)) .nil)))) .nil))) .nil))
def D_box : FD := ⟨2, 3, B_box⟩
/-- _law_cell_at: 0 _law_script, 1 _law_k -/
def B__law_cell_at : Ss := (.cons (.ift (.cmp .lt (.var 1) (.blt .len (.cons (.var 0) .nil))) (.cons (.ret (.idx (.var 0) (.var 1))) .nil) .nil) (.cons (.ret (.lit (.int (0)))) .nil))
def D__law_cell_at : FD := ⟨2, 2, B__law_cell_at⟩
/-- _law_draw: 0 _law_cell, 1 _law_k, 2 _law_bound, 3 _law_primes -/
def B__law_draw : Ss := (.cons (.asg (.pt (.nm 3)) (.tup (.cons (.lit (.int (1000003))) (.cons (.lit (.int (1000033))) (.cons (.lit (.int (1000037))) (.cons (.lit (.int (1000039))) (.cons (.lit (.int (1000081))) (.cons (.lit (.int (1000099))) (.cons (.lit (.int (1000117))) (.cons (.lit (.int (1000121))) (.cons (.lit (.int (1000133))) (.cons (.lit (.int (1000151))) (.cons (.lit (.int (1000159))) (.cons (.lit (.int (1000171))) (.cons (.lit (.int (1000183))) (.cons (.lit (.int (1000187))) (.cons (.lit (.int (1000193))) (.cons (.lit (.int (1000199))) .nil)))))))))))))))))) (.cons (.ret (.bin .mod (.bin .mod (.blt .int (.cons (.bin .add (.bin .mul (.var 0) (.lit (.int (48271)))) (.bin .mul (.var 1) (.lit (.int (69621))))) .nil)) (.idx (.var 3) (.bin .mod (.blt .int (.cons (.var 1) .nil)) (.lit (.int (16)))))) (.var 2))) .nil))
def D__law_draw : FD := ⟨3, 4, B__law_draw⟩
/-- _law_number: 0 _law_cell, 1 _law_k, 2 _law_bound, 3 _law_power, 4 _law_lap, 5 _law_remains, 6 _law_small -/
def B__law_number (i__law_draw : Nat) : Ss := (.cons (.asg (.pt (.nm 3)) (.lit (.int (1)))) (.cons (.fo (.nm 4) (.r1 (.bin .mod (.blt .int (.cons (.var 1) .nil)) (.lit (.int (24))))) (.cons (.asg (.pt (.nm 3)) (.bin .mul (.var 3) (.lit (.int (1009))))) .nil)) (.cons (.asg (.pt (.nm 5)) (.bin .fdiv (.bin .sub (.var 0) (.bin .pow (.lit (.int (10))) (.lit (.int (18))))) (.var 3))) (.cons (.ift (.cmp .gt (.var 5) (.lit (.int (0)))) (.cons (.ret (.bin .mod (.bin .mod (.blt .int (.cons (.var 5) .nil)) (.lit (.int (1009)))) (.var 2))) .nil) .nil) (.cons (.asg (.pt (.nm 6)) (.bin .mod (.blt .int (.cons (.var 0) .nil)) (.lit (.int (1000003))))) (.cons (.ret (.bin .mod (.cal i__law_draw (.cons (.bin .mul (.bin .add (.var 6) (.bin .mul (.lit (.int (977))) (.var 1))) (.bin .add (.bin .add (.var 6) (.bin .mul (.lit (.int (31))) (.var 1))) (.lit (.int (5))))) (.cons (.bin .add (.bin .mod (.blt .int (.cons (.var 1) .nil)) (.lit (.int (9)))) (.lit (.int (1)))) (.cons (.lit (.int (999983))) .nil)))) (.var 2))) .nil))))))
def D__law_number (i__law_draw : Nat) : FD := ⟨3, 7, B__law_number i__law_draw⟩
/-- _law_next: 0 _law_draw_here, 1 _law_bound, 2 _law_at, 3 _law_cell -/
def B__law_next (i__law_cell_at i__law_number : Nat) : Ss := (.cons (.asg (.sub (.var 0) (.lit (.int (2)))) (.bin .add (.idx (.var 0) (.lit (.int (2)))) (.lit (.int (1))))) (.cons (.asg (.pt (.nm 2)) (.bin .fdiv (.idx (.var 0) (.lit (.int (2)))) (.lit (.int (12))))) (.cons (.asg (.pt (.nm 3)) (.bin .add (.cal i__law_cell_at (.cons (.idx (.var 0) (.lit (.int (0)))) (.cons (.bin .add (.idx (.var 0) (.lit (.int (1)))) (.var 2)) .nil))) (.bin .mul (.lit (.int (31))) (.var 2)))) (.cons (.ret (.cal i__law_number (.cons (.var 3) (.cons (.bin .add (.bin .mod (.blt .int (.cons (.idx (.var 0) (.lit (.int (2)))) .nil)) (.lit (.int (12)))) (.lit (.int (1)))) (.cons (.var 1) .nil))))) .nil))))
def D__law_next (i__law_cell_at i__law_number : Nat) : FD := ⟨2, 4, B__law_next i__law_cell_at i__law_number⟩
/-- _law_boxes: 0 _law_draw_here, 1 _law_many, 2 _law_wide, 3 _law_found, 4 _law_turn, 5 _law_low, 6 _law_axis, 7 _law_one -/
def B__law_boxes (i__law_next : Nat) : Ss := (.cons (.asg (.pt (.nm 3)) (.lst .nil)) (.cons (.fo (.nm 4) (.r1 (.cal i__law_next (.cons (.var 0) (.cons (.var 1) .nil)))) (.cons (.asg (.pt (.nm 5)) (.blt .tuple (.cons (.lc (.bin .sub (.cal i__law_next (.cons (.var 0) (.cons (.var 2) .nil))) (.lit (.int (1)))) (.nm 6) (.r1 (.lit (.int (3)))) .no [6]) .nil))) (.cons (.exp (.mth .append (.var 3) (.cons (.tup (.cons (.var 5) (.cons (.blt .tuple (.cons (.lc (.bin .add (.bin .add (.var 7) (.lit (.int (1)))) (.cal i__law_next (.cons (.var 0) (.cons (.lit (.int (3))) .nil)))) (.nm 7) (.sq (.var 5)) .no [7]) .nil)) .nil))) .nil))) .nil))) (.cons (.ret (.var 3)) .nil)))
def D__law_boxes (i__law_next : Nat) : FD := ⟨3, 8, B__law_boxes i__law_next⟩
/-- _law_solid: 0 _law_boxes_here, 1 _law_low, 2 _law_high -/
def B__law_solid (i_union_of i_box : Nat) : Ss := (.cons (.ret (.cal i_union_of (.cons (.lc (.cal i_box (.cons (.var 1) (.cons (.var 2) .nil))) (.tp (.cons (.nm 1) (.cons (.nm 2) .nil))) (.sq (.var 0)) .no [1, 2]) .nil))) .nil)
def D__law_solid (i_union_of i_box : Nat) : FD := ⟨1, 3, B__law_solid i_union_of i_box⟩
end Lil
/-! Fn1: a law's draws. Own work. -/
set_option linter.all false
set_option Elab.async false
set_option maxRecDepth 100000
namespace Lil
/-- the script's cells from a place on -/
def CellOk (f : List DV → Hd → Res DV) : Prop := ∀ (n : Nat) (ns : List Int) (k : Int) (h : Hd), h[n]? = some (.lst (ns.map .int)) → 0 ≤ k → To (f [.ref n, .int k] h) fun v h' => h' = h ∧ ∃ i, v = .int i
theorem cell_ok {F : Nat → List DV → Hd → Res DV} : CellOk (runF F D__law_cell_at) := by
  intro n ns k h e hk
  refine runF_to rfl ?_
  simp [B__law_cell_at, Lil.blt, seqOf, e]
  by_cases q : k < ns.length
  · have hx : index (.ref n) (.int k) h = some (.int (ns[k.toNat]'(by omega))) := by
      unfold index
      simp [isDct, e, ixn, hk, q]
    simp [q, hx]
  · simp [q]
/-- a number out of a cell -/
def DrawOk (f : List DV → Hd → Res DV) : Prop := ∀ (c k b : Int) (h : Hd), 0 < b → To (f [.int c, .int k, .int b] h) fun v h' => h' = h ∧ ∃ i, v = .int i ∧ 0 ≤ i ∧ i < b
theorem okMul_r {i j : Int} (h1 : -(2 ^ 64) < j) (h2 : j < 2 ^ 64) : okMul i j = true := decide_eq_true (.inr ⟨h1, h2⟩)
theorem draw_ok {F : Nat → List DV → Hd → Res DV} : DrawOk (runF F D__law_draw) := by
  intro c k b h hb
  refine runF_to rfl ?_
  have h16 : ∃ p : Int, 0 < p ∧ index (.tup [.int 1000003, .int 1000033, .int 1000037, .int 1000039, .int 1000081, .int 1000099, .int 1000117, .int 1000121, .int 1000133, .int 1000151, .int 1000159, .int 1000171, .int 1000183, .int 1000187, .int 1000193, .int 1000199]) (.int (k % 16)) h = some (.int p) := by
    have z : k % 16 = 0 ∨ k % 16 = 1 ∨ k % 16 = 2 ∨ k % 16 = 3 ∨ k % 16 = 4 ∨ k % 16 = 5 ∨ k % 16 = 6 ∨ k % 16 = 7 ∨ k % 16 = 8 ∨ k % 16 = 9 ∨ k % 16 = 10 ∨ k % 16 = 11 ∨ k % 16 = 12 ∨ k % 16 = 13 ∨ k % 16 = 14 ∨ k % 16 = 15 := by omega
    rcases z with z | z | z | z | z | z | z | z | z | z | z | z | z | z | z | z <;> rw [z] <;> exact ⟨_, by decide, rfl⟩
  obtain ⟨p, hp, hx⟩ := h16
  simp [B__law_draw, mkTup, LN, Lil.blt, mul_to (okMul_r (i := c) (j := 48271) (by decide) (by decide)), mul_to (okMul_r (i := k) (j := 69621) (by decide) (by decide)), mod_to, hx, hp, hb]
  exact ⟨Int.emod_nonneg _ (by omega), Int.emod_lt_of_pos _ hb⟩
def NumOk (f : List DV → Hd → Res DV) : Prop := ∀ (c k b : Int) (h : Hd), 0 ≤ k → k < 1000 → 0 < b → To (f [.int c, .int k, .int b] h) fun v h' => h' = h ∧ ∃ i, v = .int i ∧ 0 ≤ i ∧ i < b
theorem log_ok {j : Nat} (hj : j ≤ 24) : ((1009 : Int) ^ j).natAbs.log2 < 9000 := by
  have e : ((1009 : Int) ^ j).natAbs = 1009 ^ j := by rw [Int.natAbs_pow]; rfl
  rw [e]
  have h1 : (1009 : Nat) ^ j ≤ 1009 ^ 24 := Nat.pow_le_pow_right (by decide) hj
  have h2 : (1009 : Nat) ^ 24 < 2 ^ 250 := by decide +kernel
  have h3 := (Nat.log2_lt (k := 250) (Nat.ne_of_gt (Nat.pow_pos (n := j) (show 0 < 1009 by decide)))).mpr (by omega)
  omega
theorem num_ok {F : Nat → List DV → Hd → Res DV} {iD : Nat} (hD : DrawOk (F iD)) : NumOk (runF F (D__law_number iD)) := by
  intro c k b h h0 h1 hb
  refine runF_to rfl ?_
  have a0 : 0 ≤ k % 24 := Int.emod_nonneg _ (by decide)
  have a1 : k % 24 < 24 := Int.emod_lt_of_pos _ (by decide)
  have a2 : k % 24 < 4611686018427387904 := by omega
  have a3 : -4611686018427387904 ≤ k % 24 := by omega
  simp [B__law_number, Lil.blt, mod_to, a2, a3]
  refine loopF_rule ((List.range (k % 24).toNat).map fun j => .int (0 + (j : Nat))) (fun i s h' => ∃ x, h' = h ∧ s = [some (.int c), some (.int k), some (.int b), some (.int (1009 ^ i)), x, none, none]) (fun i s h' ⟨x, _⟩ hi => ?_) (fun i d s h' hd hI => ?_) (fun s h' hI => ?_) _ _ _ _ (Nat.zero_le _) (by simp [FUEL]; omega) ⟨none, rfl, rfl⟩
  · simp only [List.length_map, List.length_range] at hi
    simp only [itemAt]
    by_cases q : i < (k % 24).toNat
    · rw [if_pos q, List.getElem?_map, List.getElem?_range q]; rfl
    · rw [if_neg q, List.getElem?_eq_none (by simp; omega)]
  · obtain ⟨x, rfl, rfl⟩ := hI
    simp [mul_to (okMul_r (i := 1009 ^ i) (j := 1009) (by decide) (by decide))]
    exact (Int.pow_succ ..).symm
  · obtain ⟨x, rfl, rfl⟩ := hI
    simp only [List.length_map, List.length_range]
    generalize hp : (1009 : Int) ^ (k % 24).toNat = pw
    have p0 : 0 < pw := by rw [← hp]; exact Int.pow_pos (by decide)
    have p1 : pw.natAbs.log2 < 9000 := by rw [← hp]; exact log_ok (by omega)
    have e10 : bop .pow (.int 10) (.int 18) h' = .ok (.int 1000000000000000000) h' := by
      unfold bop
      dsimp only
      rw [if_pos (by decide)]
      rfl
    simp [e10, fdiv_to p0 p1]
    by_cases q : 0 < (c - 1000000000000000000) / pw
    · simp [q, Lil.blt, mod_to, hb]
      exact ⟨Int.emod_nonneg _ (by omega), Int.emod_lt_of_pos _ hb⟩
    · have s0 : 0 ≤ c % 1000003 := Int.emod_nonneg _ (by decide)
      have s1 : c % 1000003 < 1000003 := Int.emod_lt_of_pos _ (by decide)
      simp [q, Lil.blt, mod_to, mul_to (okMul_r (i := 977) (j := k) (by omega) (by omega)), mul_to (okMul_r (i := 31) (j := k) (by omega) (by omega)),
        mul_to (okMul_r (i := c % 1000003 + 977 * k) (j := c % 1000003 + 31 * k + 5) (by omega) (by omega))]
      refine (hD _ _ _ _ (by decide)).imp fun v h'' ⟨e1, i, e2, _, _⟩ => ?_
      subst e1; subst e2
      simp [mod_to, hb]
      exact ⟨Int.emod_nonneg _ (by omega), Int.emod_lt_of_pos _ hb⟩
/-- the state of the draws: object m -/
def Dw (m : Nat) (h : Hd) : Prop := ∃ (s : Nat) (ns : List Int) (k : Int), s < m ∧ h[m]? = some (.lst [.ref s, .int 0, .int k]) ∧ h[s]? = some (.lst (ns.map .int)) ∧ 0 ≤ k
/-- all but object m of the first n are as they were, m is good for draws -/
structure Kd (m n : Nat) (h h' : Hd) : Prop where
  len : n ≤ h'.length
  eq : ∀ k, k < n → k ≠ m → h'[k]? = h[k]?
  dw : Dw m h'
def NextOk (f : List DV → Hd → Res DV) : Prop := ∀ (m : Nat) (b : Int) (h : Hd), Dw m h → 0 < b → To (f [.ref m, .int b] h) fun v h' => (h'.length = h.length ∧ Kd m h.length h h') ∧ ∃ i, v = .int i ∧ 0 ≤ i ∧ i < b
theorem next_ok {F : Nat → List DV → Hd → Res DV} {iC iN : Nat} (hC : CellOk (F iC)) (hN : NumOk (F iN)) : NextOk (runF F (D__law_next iC iN)) := by
  intro m b h ⟨s, ns, k, hs, e1, e2, hk⟩ hb
  refine runF_to rfl ?_
  have m1 : m < h.length := lt_of_get e1
  have s1 : s < h.length := lt_of_get e2
  have ix : ∀ {h : Hd} {k : Int} (_ : h[m]? = some (.lst [.ref s, .int 0, .int k])), index (.ref m) (.int 0) h = some (.ref s) ∧ index (.ref m) (.int 1) h = some (.int 0) ∧ index (.ref m) (.int 2) h = some (.int k) := fun {h k} e => by
    unfold index
    simp [isDct, e, ixn]
  have st : store (.ref m) (.int 2) (.int (k + 1)) h = some (h.set m (.lst [.ref s, .int 0, .int (k + 1)])) := by
    unfold store
    simp [e1, ixn]
  have e3 : (h.set m (.lst [.ref s, .int 0, .int (k + 1)]))[m]? = some (.lst [.ref s, .int 0, .int (k + 1)]) := get_set e1
  have e4 : (h.set m (.lst [.ref s, .int 0, .int (k + 1)]))[s]? = some (.lst (ns.map .int)) := by rw [List.getElem?_set_ne (by omega)]; exact e2
  have z0 : 0 ≤ (k + 1) / 12 := Int.ediv_nonneg (by omega) (by decide)
  obtain ⟨i0, i1, i2⟩ := ix e3
  simp [B__law_next, (ix e1).2.2, st, i0, i1, i2, fdiv_to (j := 12) (by decide) (by decide)]
  refine (hC _ _ _ _ e4 z0).imp fun v h' ⟨q1, i, q2⟩ => ?_
  subst q1; subst q2
  have b0 : 0 ≤ (k + 1) % 12 := Int.emod_nonneg _ (by decide)
  have b1 : (k + 1) % 12 < 12 := Int.emod_lt_of_pos _ (by decide)
  have m31 : ∀ h, bop .mul (.int 31) (.int ((k + 1) / 12)) h = .ok (.int (31 * ((k + 1) / 12))) h := fun h => mul_to (decide_eq_true (.inl ⟨by decide, by decide⟩))
  simp [m31, i2, Lil.blt, mod_to]
  refine (hN _ _ _ _ (by omega) (by omega) hb).imp fun v h' ⟨q1, i, q2, q3⟩ => ?_
  subst q1; subst q2
  refine ⟨⟨List.length_set, by rw [List.length_set]; exact Nat.le_refl _, fun j hj hm => List.getElem?_set_ne (Ne.symm hm), s, ns, k + 1, hs, e3, e4, by omega⟩, i, rfl, q3⟩
theorem Kd.refl {m : Nat} {h : Hd} (d : Dw m h) : Kd m h.length h h := ⟨Nat.le_refl _, fun _ _ _ => rfl, d⟩
theorem Dw.lt {m : Nat} {h : Hd} (d : Dw m h) : m < h.length := by
  obtain ⟨s, ns, k, hs, e1, _⟩ := d
  exact lt_of_get e1
theorem Kd.trans {m n n' : Nat} {h h' h'' : Hd} (a : Kd m n h h') (b : Kd m n' h' h'') (q : n ≤ n') : Kd m n h h'' := ⟨Nat.le_trans q b.len, fun k hk hm => (b.eq k (by omega) hm).trans (a.eq k hk hm), b.dw⟩
theorem Dw.kp {m n : Nat} {h h' : Hd} (d : Dw m h) (a : Kp n h h') (q : m < n) : Dw m h' := by
  obtain ⟨s, ns, k, hs, e1, e2, hk⟩ := d
  exact ⟨s, ns, k, hs, a.get q e1, a.get (by omega) e2, hk⟩
theorem Kd.kp {m n : Nat} {h h' : Hd} (a : Kp n h h') (d : Dw m h) (q : m < n) : Kd m n h h' := ⟨a.len, fun k hk _ => a.eq k hk, d.kp a q⟩
theorem Kd.set {m n j : Nat} {h h' : Hd} {o : DO} (a : Kd m n h h') (q : n ≤ j) (hm : m < n) : Kd m n h (h'.set j o) := by
  obtain ⟨s, ns, k, hs, e1, e2, hk⟩ := a.dw
  exact ⟨by rw [List.length_set]; exact a.len, fun k hk hm => by rw [List.getElem?_set_ne (by omega)]; exact a.eq k hk hm, s, ns, k, hs, by rw [List.getElem?_set_ne (by omega)]; exact e1, by rw [List.getElem?_set_ne (by omega)]; exact e2, hk⟩
theorem Kd.get {m n k : Nat} {h h' : Hd} {o : DO} (a : Kd m n h h') (q : k < n) (hm : k ≠ m) (e : h[k]? = some o) : h'[k]? = some o := (a.eq k q hm).trans e
theorem Kd.app {m n : Nat} {h h' : Hd} (a : Kd m n h h') (g : Hd) : Kd m n h (h' ++ g) := a.trans (Kd.kp (Kp.app g (Nat.le_refl _)) a.dw a.dw.lt) a.len
/-- a comprehension whose turns draw -/
theorem loopC_draw {it : It} {turn : DV → Hd → Res (Option DV)} {h : Hd} {n m : Nat} {Q : DV → Hd → Prop} (items : List DV) (P : Nat → DV → Prop) (hn : n = h.length) (hd0 : Dw m h) (hsz : items.length < 1000000)
    (hit : ∀ (i : Nat) (h' : Hd), Kd m h.length h h' → i ≤ items.length → itemAt h' it i = match items[i]? with | some d => .item d | none => .stop)
    (hb : ∀ (i : Nat) (d : DV) (h' : Hd), items[i]? = some d → Kd m h.length h h' → To (turn d h') fun o h'' => ∃ v, o = some v ∧ P i v ∧ Kd m h'.length h' h'')
    (hQ : ∀ (outs : List DV) (h' : Hd), outs.length = items.length → (∀ (i : Nat) (v : DV), outs[i]? = some v → P i v) → h'[n]? = some (.lst outs) → Kd m h.length h h' → Q (.ref n) h') : To (loopC it turn n FUEL 0 (h ++ [.lst []])) Q := by
  subst hn
  have hm := hd0.lt
  refine loopC_rule items (fun i ds h' => ds.length = i ∧ (∀ (j : Nat) (v : DV), ds[j]? = some v → P j v) ∧ Kd m h.length h h') (fun i ds h' hJ hi => hit i h' hJ.2.2 hi) (fun i d ds h' hd hJ hg => ?_) (fun ds h' hJ hg => hQ ds h' hJ.1 hJ.2.1 hg hJ.2.2) FUEL 0 [] _ (Nat.zero_le _) (by simp [FUEL]; omega) ⟨rfl, fun j v h => by simp at h, Kd.kp (Kp.app _ (Nat.le_refl _)) hd0 hm⟩ (get_new _ _)
  have hi : i < items.length := (List.getElem?_eq_some_iff.mp hd).1
  obtain ⟨j1, j2, j3⟩ := hJ
  refine (hb i d h' hd j3).imp fun o h'' ⟨v, q1, q2, q3⟩ => ?_
  subst q1
  refine ⟨q3.get (lt_of_get hg) (by omega) hg, by simp only [LN]; omega, by simp [j1], fun j u hj => ?_, (j3.trans q3 (by have := lt_of_get hg; omega)).set (Nat.le_refl _) hm⟩
  by_cases q : j < ds.length
  · rw [List.getElem?_append_left q] at hj
    exact j2 j u hj
  · have : j = ds.length := by have := (List.getElem?_eq_some_iff.mp hj).1; simp at this; omega
    subst this
    rw [List.getElem?_concat_length] at hj
    cases hj
    rw [j1]
    exact q2
end Lil
/-! Fn2: is_kept, ends_of. Own work. -/
set_option linter.all false
set_option Elab.async false
set_option maxRecDepth 100000
namespace Lil
open Sol
def wd : Wd → List Nat
  | .either => [101, 105, 116, 104, 101, 114]
  | .both => [98, 111, 116, 104]
  | .first => [102, 105, 114, 115, 116]
theorem cop_eqs {a b : List Nat} {h : Hd} (ha : (a.all fun c => decide (c < 1114112)) = true) (hb : (b.all fun c => decide (c < 1114112)) = true) : cop .eq (.str a) (.str b) h = some (a == b) := by
  show (if (isDat h DEEP (.str a) && isDat h DEEP (.str b)) = true then some (a == b) else none) = _
  rw [show isDat h DEEP (.str a) = true from ha, show isDat h DEEP (.str b) = true from hb]
  rfl
def KeptOk (f : List DV → Hd → Res DV) : Prop := ∀ (w : Wd) (a b : Bool) (h : Hd), To (f [.str (wd w), .bl a, .bl b] h) fun v h' => h' = h ∧ v = .bl (Sol.bop w a b)
theorem kept_ok {F : Nat → List DV → Hd → Res DV} : KeptOk (runF F D_is_kept) := by
  intro w a b h
  refine runF_to rfl ?_
  have e1 : ∀ h, cop .eq (.str [101, 105, 116, 104, 101, 114]) (.str [101, 105, 116, 104, 101, 114]) h = some true := fun h => cop_eqs rfl rfl
  have e2 : ∀ h, cop .eq (.str [98, 111, 116, 104]) (.str [101, 105, 116, 104, 101, 114]) h = some false := fun h => cop_eqs rfl rfl
  have e3 : ∀ h, cop .eq (.str [102, 105, 114, 115, 116]) (.str [101, 105, 116, 104, 101, 114]) h = some false := fun h => cop_eqs rfl rfl
  have e4 : ∀ h, cop .eq (.str [98, 111, 116, 104]) (.str [98, 111, 116, 104]) h = some true := fun h => cop_eqs rfl rfl
  have e5 : ∀ h, cop .eq (.str [102, 105, 114, 115, 116]) (.str [98, 111, 116, 104]) h = some false := fun h => cop_eqs rfl rfl
  simp only [B_is_kept]
  cases w <;> cases a <;> cases b <;> simp [e1, e2, e3, e4, e5, wd] <;> rfl
/-- a piece: two ends and what more -/
def pc (t : Sg (List DV)) : DV := .tup (.int t.1 :: .int t.2.1 :: t.2.2)
def EndsOk (f : List DV → Hd → Res DV) : Prop := ∀ (A B : List (Sg (List DV))) (h : Hd), (ends A B).length < 64 → A.length + B.length < 1000000 → To (f [.tup (A.map pc), .tup (B.map pc)] h) fun v h' =>
  ∃ n, h.length ≤ n ∧ v = .ref n ∧ h'[n]? = some (.lst ((ends A B).map .int)) ∧ Kp h.length h h'
theorem pc_ix {t : Sg (List DV)} {h : Hd} : index (pc t) (.int 0) h = some (.int t.1) ∧ index (pc t) (.int 1) h = some (.int t.2.1) := ⟨ix_0 .., ix_1 ..⟩
theorem st_key {h : Hd} {n : Nat} {K : List Int} {k : Int} (e : h[n]? = some (.dct (encK K))) (hK : K.length < LN) : store (.ref n) (.int k) (.bl true) h = some (h.set n (.dct (encK (if k ∈ K then K else K ++ [k])))) := by
  unfold store
  simp only [e]
  rw [if_pos ⟨rfl, by simp [encK]; exact hK⟩, putK']
theorem ends_ok {F : Nat → List DV → Hd → Res DV} : EndsOk (runF F D_ends_of) := by
  intro A B h hl hn
  refine runF_to rfl ?_
  have hlen' : A.length + B.length ≤ 16777216 := by omega
  simp only [B_ends_of]
  simp [alloc, seqOf, mkLst, LN, hlen', List.getElem?_append_right]
  refine loopF_rule ((A ++ B).map pc) (fun i s h' => ∃ K x, h' = h ++ [.dct (encK K), .lst ((A ++ B).map pc)] ∧ s = [some (.tup (A.map pc)), some (.tup (B.map pc)), some (.ref h.length), x] ∧
    K.Nodup ∧ (∀ y, y ∈ K ↔ Edge ((A ++ B).take i) y) ∧ K.length ≤ 2 * i) (fun i s h' hI hi => ?_) (fun i d s h' hd hI => ?_) (fun s h' hI => ?_) _ _ _ _ (Nat.zero_le _) (by simp [FUEL]; omega) ⟨[], none, by simp [encK], rfl, List.nodup_nil, fun y => ⟨fun q => (nomatch q), fun ⟨t, ht, _⟩ => by simp at ht⟩, Nat.zero_le _⟩
  · obtain ⟨K, x, rfl, rfl, hK⟩ := hI
    simp only [itemAt]
    rw [show (h ++ [DO.dct (encK K), .lst ((A ++ B).map pc)])[h.length + 1]? = some (.lst ((A ++ B).map pc)) by simp [List.getElem?_append_right]]
    try rfl
  · obtain ⟨K, x, rfl, rfl, h1, h2, h3⟩ := hI
    rw [List.getElem?_map] at hd
    obtain ⟨t, ht, rfl⟩ := Option.map_eq_some_iff.mp hd
    have hi : i < (A ++ B).length := (List.getElem?_eq_some_iff.mp ht).1
    rw [List.length_append] at hi
    have g0 : (h ++ [DO.dct (encK K), .lst ((A ++ B).map pc)])[h.length]? = some (.dct (encK K)) := by simp [List.getElem?_append_right]
    have s0 := st_key (k := t.1) g0 (show K.length < LN by unfold LN; omega)
    have e0 : ∀ K', (h ++ [DO.dct (encK K), .lst ((A ++ B).map pc)]).set h.length (.dct (encK K')) = h ++ [.dct (encK K'), .lst ((A ++ B).map pc)] := fun K' => by simp
    rw [e0] at s0
    generalize hK1 : (if t.1 ∈ K then K else K ++ [t.1]) = K1 at s0
    have g1 : (h ++ [DO.dct (encK K1), .lst ((A ++ B).map pc)])[h.length]? = some (.dct (encK K1)) := by simp [List.getElem?_append_right]
    have l1 : K1.length ≤ K.length + 1 := by rw [← hK1]; exact add_len
    have s1 := st_key (k := t.2.1) g1 (show K1.length < LN by unfold LN; omega)
    rw [show ∀ K', (h ++ [DO.dct (encK K1), .lst ((A ++ B).map pc)]).set h.length (.dct (encK K')) = h ++ [.dct (encK K'), .lst ((A ++ B).map pc)] from fun K' => by simp] at s1
    simp only [List.map_append] at s0 s1 ⊢
    simp [mkTup, LN, pc_ix.1, pc_ix.2, s0, s1]
    refine ⟨_, rfl, by rw [← hK1]; exact add_nodup (add_nodup h1), fun y => ?_, ?_⟩
    · rw [add_mem, ← hK1, add_mem, h2, List.take_add_one, ht]
      show _ ↔ Edge ((A ++ B).take i ++ [t]) y
      rw [edge_app]
      constructor
      · rintro (q | q | q)
        · exact .inr ⟨t, .head _, .inr q⟩
        · exact .inr ⟨t, .head _, .inl q⟩
        · exact .inl q
      · rintro (q | ⟨u, hu, q⟩)
        · exact .inr (.inr q)
        · rw [List.mem_singleton.mp hu] at q
          rcases q with q | q
          · exact .inr (.inl q)
          · exact .inl q
    · have := add_len (K := K1) (k := t.2.1)
      omega
  · obtain ⟨K, x, rfl, rfl, h1, h2, h3⟩ := hI
    have e : sortI K = ends A B := up_uniq (sortI_ok h1).1 ends_up fun y => by
      rw [(sortI_ok h1).2, h2, mem_ends, ← edge_app, List.take_of_length_le (by simp)]
    have g0 : (h ++ [DO.dct (encK K), .lst ((A ++ B).map pc)])[h.length]? = some (.dct (encK K)) := by simp [List.getElem?_append_right]
    have hk : K.length < 64 := by rw [← sortI_len, e]; exact hl
    have e2 : (encK K).map (·.1) = K.map DV.int := by simp [encK]
    have bl : Lil.blt .sorted [.ref h.length] (h ++ [DO.dct (encK K), .lst ((A ++ B).map pc)]) = alloc (.lst ((ends A B).map .int)) (h ++ [DO.dct (encK K), .lst ((A ++ B).map pc)]) := by
      unfold Lil.blt
      simp only [g0]
      rw [e2, allInts_map]
      dsimp only
      rw [if_pos hk, e]
    simp only [List.map_append] at bl ⊢
    simp [bl, alloc]
    refine ⟨h.length + 2, by omega, rfl, ?_, by simp, fun k hk => ?_⟩
    · simp [List.getElem?_append_right]
    · rw [List.getElem?_append_left hk]
end Lil
/-! Fn3: rows_made. Own work. -/
set_option linter.all false
set_option Elab.async false
set_option maxRecDepth 100000
set_option maxHeartbeats 1000000
namespace Lil
open Sol
section
variable {α : Type}
/-- a stretch as data -/
def G (rs : α → List DV) (t : Sg α) : DV := .tup (.int t.1 :: .int t.2.1 :: rs t.2.2)
theorem G_pc (rs : α → List DV) (s : List (Sg α)) : s.map (G rs) = (s.map fun t => (t.1, t.2.1, rs t.2.2)).map pc := by rw [List.map_map]; rfl
theorem ends_G (rs : α → List DV) (s t : List (Sg α)) : ends (s.map fun t => (t.1, t.2.1, rs t.2.2)) (t.map fun t => (t.1, t.2.1, rs t.2.2)) = ends s t := by
  unfold ends
  rw [← List.map_append, ends_map]
/-- where the pointer is -/
def At (s : List (Sg α)) (low : Int) (i : Nat) : Prop := i ≤ s.length ∧ (∀ t ∈ s.take i, t.2.1 ≤ low)
theorem At.up {s : List (Sg α)} {low low' : Int} {i : Nat} (h : At s low i) (q : low ≤ low') : At s low' i := ⟨h.1, fun t ht => by have := h.2 t ht; omega⟩
theorem At.zero {s : List (Sg α)} {low : Int} : At s low 0 := ⟨Nat.zero_le _, fun t ht => by simp at ht⟩
theorem At.succ {s : List (Sg α)} {low : Int} {i : Nat} {t : Sg α} (h : At s low i) (e : s[i]? = some t) (q : t.2.1 ≤ low) : At s low (i + 1) := by
  refine ⟨(List.getElem?_eq_some_iff.mp e).1, fun u hu => ?_⟩
  rw [List.take_add_one, e] at hu
  rcases List.mem_append.mp hu with hu | hu
  · exact h.2 u hu
  · rw [List.mem_singleton.mp hu]; exact q
theorem val_ptr {e : α} {low : Int} {s : List (Sg α)} {i : Nat} (w : Wk s) (h : At s low i) (ht : ∀ t, s[i]? = some t → low < t.2.1) : val e s low = match s[i]? with | some t => if t.1 ≤ low then t.2.2 else e | none => e := by
  have e1 : s.take i ++ s.drop i = s := List.take_append_drop i s
  cases hs : s[i]? with
  | none =>
    have : s.drop i = [] := List.drop_eq_nil_of_le (List.getElem?_eq_none_iff.mp hs)
    rw [this, List.append_nil] at e1
    dsimp only
    exact val_ge fun t ht => h.2 t (by rw [e1]; exact ht)
  | some t =>
    have hi := (List.getElem?_eq_some_iff.mp hs).1
    have m : t ∈ s := List.mem_of_getElem? hs
    dsimp only
    by_cases q : t.1 ≤ low
    · rw [if_pos q]
      exact val_at w m q (ht t hs)
    · rw [if_neg q]
      have ed : s.drop i = t :: s.drop (i + 1) := by rw [List.drop_eq_getElem_cons hi]; congr 1; exact (List.getElem?_eq_some_iff.mp hs).2
      have wd : Wk (t :: s.drop (i + 1)) := ed ▸ ⟨fun u hu => w.ne u (List.mem_of_mem_drop hu), w.ord.sublist (List.drop_sublist i s)⟩
      rcases val_mem (e := e) (x := low) (s := s) with z | ⟨u, hu, u1, u2, _⟩
      · exact z
      · rw [← e1, ed] at hu
        rcases List.mem_append.mp hu with hu | hu
        · have := h.2 u hu; omega
        · cases hu with
          | head => omega
          | tail _ hu =>
            have := (List.pairwise_cons.mp wd.ord).1 u hu
            have := ht t hs
            omega
end
/-- a piece at i begins (k = 0) or ends (k = 1) no later than low -/
def inAt {α : Type} (A : List (Sg α)) (low : Int) (i : Nat) : Bool := match A[i]? with | some t => decide (t.1 ≤ low) | none => false
section
variable {F : Nat → List DV → Hd → Res DV} {α : Type} {rs : α → List DV} {A : List (Sg α)} {s : Sl} {h : Hd} {o p l i : Nat} {low : Int} {N : Sl → Hd → Prop} {R : DV → Hd → Prop}
/-- at < len(one) and one[at][k] <= low -/
def eIn (p o l : Nat) (k : Int) : E := .and (.cmp .lt (.var p) (.blt .len (.cons (.var o) .nil))) (.cmp .le (.idx (.idx (.var o) (.var p)) (.lit (.int k))) (.var l))
theorem len_tup (ds : List DV) (h : Hd) : Lil.blt .len [.tup ds] h = .ok (.int ds.length) h := rfl
theorem eIn_ok (e1 : s[o]? = some (some (.tup (A.map (G rs))))) (e2 : s[p]? = some (some (.int i))) (e3 : s[l]? = some (some (.int low))) :
    ev F (eIn p o l 0) s h = .ok (.bl (inAt A low i)) h ∧ ev F (eIn p o l 1) s h = .ok (.bl (match A[i]? with | some t => decide (t.2.1 ≤ low) | none => false)) h := by
  unfold inAt
  cases q : A[i]? with
  | some t =>
    have hi : i < A.length := (List.getElem?_eq_some_iff.mp q).1
    have ix : index (.tup (A.map (G rs))) (.int i) h = some (G rs t) := ix_at (by rw [List.getElem?_map, q]; rfl)
    constructor
    · simp [eIn, e1, e2, e3, Res.bind, len_tup, hi, ix, G]
    · simp [eIn, e1, e2, e3, Res.bind, len_tup, hi, ix, G]
  | none =>
    have hi : ¬ i < A.length := by have := List.getElem?_eq_none_iff.mp q; omega
    constructor
    · simp [eIn, e1, e2, e3, Res.bind, len_tup, hi]
    · simp [eIn, e1, e2, e3, Res.bind, len_tup, hi]
/-- while at < len(one) and one[at][1] <= low: at += 1 -/
def wAdv (p o l : Nat) : S := .wh (eIn p o l 1) (.cons (.aug p .add (.lit (.int 1))) .nil)
theorem adv_ok (e1 : s[o]? = some (some (.tup (A.map (G rs))))) (e2 : s[p]? = some (some (.int i))) (e3 : s[l]? = some (some (.int low))) (hpo : p ≠ o) (hpl : p ≠ l) (hA : A.length < 1000000) (ha : At A low i)
    (hN : ∀ j : Nat, At A low j → (∀ t, A[j]? = some t → low < t.2.1) → N (s.set p (some (.int j))) h) : FT (evS F (wAdv p o l) s h) N R := by
  unfold wAdv
  rw [evS_wh]
  have hp : p < s.length := (List.getElem?_eq_some_iff.mp e2).1
  refine loopW_rule (fun m s1 h1 => ∃ j : Nat, h1 = h ∧ s1 = s.set p (some (.int j)) ∧ At A low j ∧ m = A.length - j) (fun m s1 h1 ⟨j, q1, q2, q3, q4⟩ => ?_) FUEL (A.length - i) s h (by simp [FUEL]; omega) ⟨i, rfl, ?_, ha, rfl⟩
  · subst q1; subst q2
    have f1 : (s.set p (some (.int j)))[o]? = some (some (.tup (A.map (G rs)))) := by rw [List.getElem?_set_ne hpo]; exact e1
    have f2 : (s.set p (some (DV.int j)))[p]? = some (some (.int j)) := by rw [List.getElem?_set_self hp]
    have f3 : (s.set p (some (.int j)))[l]? = some (some (.int low)) := by rw [List.getElem?_set_ne hpl]; exact e3
    rw [(eIn_ok (F := F) (h := h1) f1 f2 f3).2]
    cases hj : A[j]? with
    | none =>
      show N _ _
      exact hN j q3 (fun t ht => by rw [hj] at ht; cases ht)
    | some t =>
      by_cases q : t.2.1 ≤ low
      · simp only [q, decide_true]
        show FT (evB F _ _ _) _ _
        rw [FT_cons, evS_aug, f2]
        simp only [ev_lit, FT_fl, To_ok]
        rw [show iop .add (.int j) (.int 1) h1 = .ok (.int (j + 1)) h1 from rfl, To_ok, FT_nx, FT_nil]
        have := (List.getElem?_eq_some_iff.mp hj).1
        exact ⟨A.length - (j + 1), by omega, j + 1, rfl, by rw [List.set_set]; rfl, q3.succ hj q, rfl⟩
      · simp only [q, decide_false]
        show N _ _
        exact hN j q3 fun u hu => by rw [hj] at hu; cases hu; omega
  · apply List.ext_getElem?
    intro k
    by_cases hk : p = k
    · subst hk; rw [List.getElem?_set_self hp, e2]
    · rw [List.getElem?_set_ne hk]
end
theorem ix_last {h : Hd} {n : Nat} {xs : List DV} {x : DV} (e : h[n]? = some (.lst (xs ++ [x]))) : index (.ref n) (.int (-1)) h = some x := by
  unfold index
  have : ixn (xs.length + 1) (-1) = some xs.length := by
    unfold ixn
    rw [if_neg (by decide), if_pos (by omega)]
    congr 1
    omega
  simp [isDct, e, this]
theorem st_last {h : Hd} {n : Nat} {xs : List DV} {x v : DV} (e : h[n]? = some (.lst (xs ++ [x]))) : store (.ref n) (.int (-1)) v h = some (h.set n (.lst (xs ++ [v]))) := by
  unfold store
  have : ixn (xs.length + 1) (-1) = some xs.length := by
    unfold ixn
    rw [if_neg (by decide), if_pos (by omega)]
    congr 1
    omega
  simp [e, this]
theorem zip_item {h : Hd} {n m : Nat} {E : List Int} (e1 : h[n]? = some (.lst (E.map .int))) (e2 : h[m]? = some (.lst ((E.drop 1).map .int))) (i : Nat) :
    itemAt h (.zp (.lst n) (.lst m)) i = match ((cells E).map fun c => DV.tup [.int c.1, .int c.2])[i]? with | some d => .item d | none => .stop := by
  rw [cells_zip]
  simp only [itemAt, e1, e2, List.getElem?_map, List.getElem?_drop]
  cases q1 : E[i]? with
  | none =>
    have : (E.zip (E.drop 1))[i]? = none := by
      rw [List.getElem?_eq_none_iff] at q1 ⊢
      rw [List.length_zip]; omega
    rw [this]
    dsimp only [Option.map]
    cases q2 : E[1 + i]? <;> rfl
  | some a =>
    cases q2 : E[1 + i]? with
    | none =>
      have : (E.zip (E.drop 1))[i]? = none := by
        rw [List.getElem?_eq_none_iff] at q2 ⊢
        rw [List.length_zip, List.length_drop]; omega
      rw [this]; rfl
    | some b =>
      have : (E.zip (E.drop 1))[i]? = some (a, b) := by
        rw [List.getElem?_zip_eq_some]
        exact ⟨q1, by rw [List.getElem?_drop]; exact q2⟩
      rw [this]; rfl
end Lil
/-! Fn4: rows_made. Own work. -/
set_option linter.all false
set_option Elab.async false
set_option maxRecDepth 100000
set_option maxHeartbeats 2000000
namespace Lil
open Sol
theorem cells_get {a b : Int} : ∀ {E : List Int} {i : Nat}, (cells E)[i]? = some (a, b) → E[i]? = some a ∧ E[i + 1]? = some b := fun {E i} h => by
  rw [cells_zip, List.getElem?_zip_eq_some, List.getElem?_drop] at h
  exact ⟨h.1, by rw [Nat.add_comm]; exact h.2⟩
theorem cells_up {E : List Int} (hE : E.Pairwise (· < ·)) {i : Nat} {c : Int × Int} (h : (cells E)[i]? = some c) : c.1 < c.2 := by
  obtain ⟨h1, h2⟩ := cells_get (a := c.1) (b := c.2) h
  obtain ⟨i1, e1⟩ := List.getElem?_eq_some_iff.mp h1
  obtain ⟨i2, e2⟩ := List.getElem?_eq_some_iff.mp h2
  have := List.pairwise_iff_getElem.mp hE i (i + 1) i1 i2 (by omega)
  omega
theorem cells_next {E : List Int} (hE : E.Pairwise (· < ·)) {i : Nat} {c d : Int × Int} (h : (cells E)[i]? = some c) (h2 : (cells E)[i + 1]? = some d) : c.1 ≤ d.1 := by
  have := cells_up hE h
  obtain ⟨_, h3⟩ := cells_get (a := c.1) (b := c.2) h
  obtain ⟨h4, _⟩ := cells_get (a := d.1) (b := d.2) h2
  rw [h3] at h4
  injection h4 with h4
  omega
theorem cells_len (E : List Int) : (cells E).length ≤ E.length := by
  rw [cells_zip, List.length_zip]; omega
theorem row_G (r : Row) : r.map encP = r.s.map (G fun _ => []) := by
  unfold Row.s
  rw [List.map_map]; rfl
theorem row_len (r : Row) : r.s.length = r.length := by unfold Row.s; simp
theorem row_val {r : Row} {low : Int} {i : Nat} (w : Wk r.s) (h : At r.s low i) (ht : ∀ t, r.s[i]? = some t → low < t.2.1) : inAt r.s low i = val false r.s low := by
  rw [val_ptr w h ht]
  unfold inAt
  cases q : r.s[i]? with
  | none => rfl
  | some t =>
    have : t.2.2 = true := by
      have := List.mem_of_getElem? q
      obtain ⟨u, _, rfl⟩ := List.mem_map.mp this
      rfl
    dsimp only
    rw [this]
    by_cases z : t.1 ≤ low
    · simp [z]
    · simp [z]
def RowsOk (f : List DV → Hd → Res DV) : Prop := ∀ (w : Wd) (a b : Row) (h : Hd), Wk a.s → Wk b.s → (ends a.s b.s).length < 64 → a.length + b.length < 1000000 →
  To (f [encRow a, encRow b, .str (wd w)] h) fun v h' => v = encRow (rowsM w a b) ∧ Kp h.length h h'
theorem row_enc (s : List (Sg Bool)) : s.map (G fun _ => []) = (unS s).map encP := by
  unfold unS
  rw [List.map_map]; rfl
theorem rows_made_ok {F : Nat → List DV → Hd → Res DV} {iK iE : Nat} (hK : KeptOk (F iK)) (hE : EndsOk (F iE)) : RowsOk (runF F (D_rows_made iK iE)) := by
  intro w a b h wa wb hl hn
  refine runF_to rfl ?_
  have la := row_len a
  have lb := row_len b
  simp only [B_rows_made]
  simp [alloc, mkLst]
  unfold encRow
  rw [row_G a, row_G b]
  have hE' := hE (a.s.map fun t => (t.1, t.2.1, [])) (b.s.map fun t => (t.1, t.2.1, [])) (h ++ [.lst []]) (by rw [ends_G (fun _ => [])]; exact hl) (by simp; omega)
  rw [← G_pc (fun _ => []), ← G_pc (fun _ => []), ends_G (fun _ => [])] at hE'
  generalize hEE : ends a.s b.s = E at hE' hl
  have upE : E.Pairwise (· < ·) := hEE ▸ ends_up
  refine hE'.imp fun v h1 ⟨nE, q1, q2, q3, q4⟩ => ?_
  subst q2
  rw [List.length_append] at q1 q4
  simp only [List.length_cons, List.length_nil] at q1 q4
  have m0 : h1[h.length]? = some (.lst []) := q4.get (by omega) (get_new h _)
  have nE1 : nE < h1.length := lt_of_get q3
  have sl : slice (.ref nE) (some 1) none h1 = .ok (.ref h1.length) (h1 ++ [.lst ((E.drop 1).map .int)]) := by
    unfold slice
    simp only [q3]
    unfold alloc cut
    simp [six]
    congr 4
    rcases E with _ | ⟨x, r⟩
    · rfl
    · simp
      exact List.take_of_length_le (by simp)
  have g1 : (h1 ++ [DO.lst ((E.drop 1).map .int)])[nE]? = some (.lst (E.map .int)) := by rw [List.getElem?_append_left nE1]; exact q3
  simp only [FT_nx, FT_step, List.set_cons_succ, List.set_cons_zero, evS_fo, evi_zp, ev_var, List.getElem?_cons_succ, List.getElem?_cons_zero, ev_slc, evo_so, evo_no, ev_lit, ok_bind, sl, g1, get_new, FT_fl, To_ok]
  have kp0 : Kp h.length h (h1 ++ [DO.lst ((E.drop 1).map .int)]) := (((Kp.app (h := h) [.lst []] (Nat.le_refl _)).trans q4 (by omega)).trans (Kp.app _ (Nat.le_refl _)) (by have := q4.len; omega))
  have ltE : (cells E).length < 64 := Nat.lt_of_le_of_lt (cells_len E) hl
  obtain ⟨I, eI⟩ : ∃ I : Nat → Sl → Hd → Prop, ∀ i s h', I i s h' ↔ ∃ (j k : Nat) (x7 x8 x9 : Option DV), s = [some (.tup (a.s.map (G fun _ => []))), some (.tup (b.s.map (G fun _ => []))), some (.str (wd w)), some (.ref h.length), some (.int j), some (.int k), some (.ref nE), x7, x8, x9] ∧
    h'[nE]? = some (.lst (E.map .int)) ∧ h'[h1.length]? = some (.lst ((E.drop 1).map .int)) ∧ Kp h.length h h' ∧ (∀ c, (cells E)[i]? = some c → At a.s c.1 j ∧ At b.s c.1 k) ∧
    ∃ f : List (Sg Bool), f = ((cells E).take i).foldl (made1 false (Sol.bop w) a.s b.s) [] ∧ (∀ t ∈ f, t.2.2 = true) ∧ f.length ≤ i ∧ h'[h.length]? = some (.lst (f.map (G fun _ => []))) := ⟨_, fun _ _ _ => Iff.rfl⟩
  refine loopF_rule ((cells E).map fun c => DV.tup [.int c.1, .int c.2]) I
    (fun i s h' hI hi => ?_) (fun i d s h' hd hI => ?_) (fun s h' hI => ?_) _ _ _ _ (Nat.zero_le _) (by simp [FUEL]; omega)
    ((eI ..).mpr ⟨0, 0, none, none, none, rfl, g1, get_new _ _, kp0, fun c _ => ⟨At.zero, At.zero⟩, [], rfl, fun _ h => (nomatch h), Nat.le_refl _, by rw [List.getElem?_append_left (by omega)]; exact m0⟩)
  · obtain ⟨j, k, x7, x8, x9, rfl, f1, f2, _⟩ := (eI ..).mp hI
    exact zip_item f1 f2 i
  · obtain ⟨j, k, x7, x8, x9, rfl, f1, f2, f3, f4, f, ef, ft, fl, f5⟩ := (eI ..).mp hI
    rw [List.getElem?_map] at hd
    obtain ⟨c, hc, rfl⟩ := Option.map_eq_some_iff.mp hd
    obtain ⟨A1, A2⟩ := f4 c hc
    have hi : i < (cells E).length := (List.getElem?_eq_some_iff.mp hc).1
    simp only [bind1_tp, bindAll_cons, bindAll_nil, bind1_nm, List.set_cons_succ, List.set_cons_zero, FT_step]
    refine adv_ok (rs := fun _ => []) (A := a.s) (low := c.1) (i := j) rfl rfl rfl (by decide) (by decide) (by omega) A1 fun j' B1 B2 => ?_
    simp only [List.set_cons_succ, List.set_cons_zero, FT_step]
    refine adv_ok (rs := fun _ => []) (A := b.s) (low := c.1) (i := k) rfl rfl rfl (by decide) (by decide) (by omega) A2 fun k' C1 C2 => ?_
    simp only [List.set_cons_succ, List.set_cons_zero, FT_step]
    have v1 := (eIn_ok (F := F) (rs := fun _ => []) (A := a.s) (s := [some (.tup (a.s.map (G fun _ => []))), some (.tup (b.s.map (G fun _ => []))), some (.str (wd w)), some (.ref h.length), some (.int j'), some (.int k'), some (.ref nE), some (.int c.1), some (.int c.2), x9]) (h := h') (o := 0) (p := 4) (l := 7) (i := j') (low := c.1) rfl rfl rfl).1
    rw [row_val wa B1 B2] at v1
    unfold eIn at v1
    rw [evS_asg, v1]
    simp only [FT_fl, To_ok, asg_nm, FT_nx, List.set_cons_succ, List.set_cons_zero, FT_step]
    have v2 := (eIn_ok (F := F) (rs := fun _ => []) (A := b.s) (s := [some (.tup (a.s.map (G fun _ => []))), some (.tup (b.s.map (G fun _ => []))), some (.str (wd w)), some (.ref h.length), some (.int j'), some (.int k'), some (.ref nE), some (.int c.1), some (.int c.2), some (.bl (val false a.s c.1))]) (h := h') (o := 1) (p := 5) (l := 7) (i := k') (low := c.1) rfl rfl rfl).1
    rw [row_val wb C1 C2] at v2
    unfold eIn at v2
    simp only [evS_ift, ev_cal, evs_cons, evs_nil, v2, ev_var, List.getElem?_cons_succ, List.getElem?_cons_zero, ok_bind]
    rw [FT_fl, To_bind]
    refine (hK w (val false a.s c.1) (val false b.s c.1) h').imp fun v h2 ⟨z1, z2⟩ => ?_
    subst z1; subst z2
    simp only [truR_bl, To_ok]
    generalize hv : Sol.bop w (val false a.s c.1) (val false b.s c.1) = bv
    have next : ∀ d, (cells E)[i + 1]? = some d → At a.s d.1 j' ∧ At b.s d.1 k' := fun d hd => ⟨B1.up (cells_next upE hc hd), C1.up (cells_next upE hc hd)⟩
    have ef1 : ((cells E).take (i + 1)).foldl (made1 false (Sol.bop w) a.s b.s) [] = push false f (c.1, c.2, bv) := by
      rw [List.take_add_one, hc, List.foldl_append, ← ef, ← hv]; rfl
    cases bv with
    | false =>
      simp only [Bool.false_eq_true, if_false, FT_nil]
      exact (eI ..).mpr ⟨j', k', _, _, _, rfl, f1, f2, f3, next, f, by rw [ef1]; rfl, ft, by omega, f5⟩
    | true =>
      have lt0 : h.length < h2.length := lt_of_get f5
      have idf : ∀ x ∈ f.map (G fun _ => []), idt 39 x = true := fun x hx => by
        obtain ⟨t, _, rfl⟩ := List.mem_map.mp hx
        rfl
      have g5 : (h2 ++ [DO.lst []])[h.length]? = some (.lst (f.map (G fun _ => []))) := by rw [List.getElem?_append_left lt0]; exact f5
      have cn := cop_nenil g5 (get_new h2 (.lst [])) idf
      have done : ∀ f', f' = push false f (c.1, c.2, true) → (∀ t ∈ f', t.2.2 = true) → f'.length ≤ f.length + 1 → ∀ h3, h3 = (h2 ++ [DO.lst []]).set h.length (.lst (f'.map (G fun _ => []))) → ∀ s, s = [some (.tup (a.s.map (G fun _ => []))), some (.tup (b.s.map (G fun _ => []))), some (.str (wd w)), some (.ref h.length), some (.int j'), some (.int k'), some (.ref nE), some (.int c.1), some (.int c.2), some (.bl (val false a.s c.1))] →
          I (i + 1) s h3 := by
        intro f' p1 p2 p3 h3 p4 s p5
        subst p4
        refine (eI ..).mpr ⟨j', k', _, _, _, p5, ?_, ?_, (f3.trans (Kp.app [DO.lst []] (Nat.le_refl h2.length)) (by omega)).set (Nat.le_refl _), next, f', by rw [ef1, p1], p2, by omega, get_set g5⟩
        · rw [List.getElem?_set_ne (by omega), List.getElem?_append_left (lt_of_get f1)]; exact f1
        · rw [List.getElem?_set_ne (by omega), List.getElem?_append_left (lt_of_get f2)]; exact f2
      simp only [if_true, FT_step, evS_ift, ev_and, ev_cmp, ev_var, List.getElem?_cons_succ, List.getElem?_cons_zero, ok_bind, ev_lst, evs_nil, mkLst, List.length_nil, Nat.zero_le, alloc, cn, litB_some, truR_bl]
      rcases List.eq_nil_or_concat f with e0 | ⟨f', t, e0⟩
      · subst e0
        have ap : mth .append (.ref h.length) [.tup [.int c.1, .int c.2]] (h2 ++ [DO.lst []]) = .ok .non ((h2 ++ [DO.lst []]).set h.length (.lst [.tup [.int c.1, .int c.2]])) := by
          unfold mth; simp only [g5]; rfl
        have rc : recv .append (.ref h.length) (h2 ++ [DO.lst []]) = true := by unfold recv; simp only [g5]; rfl
        simp [rc, ap, mkTup, LN]
        exact done [(c.1, c.2, true)] rfl (fun t ht => by rw [List.mem_singleton.mp ht]) (Nat.le_refl _) _ rfl _ rfl
      · rw [List.concat_eq_append] at e0
        have tt : t.2.2 = true := ft t (by rw [e0]; simp)
        rw [e0, List.map_append, List.map_singleton] at g5
        have x1 := ix_last g5
        have s1 := fun v => st_last (v := v) g5
        have ne : ¬ (f.map (G fun _ => []) = []) := by rw [e0]; simp
        simp only [ne, decide_false, Bool.not_false, if_true]
        by_cases q : t.2.1 = c.1
        · simp [x1, G, q, s1, mkTup, LN]
          refine done (f' ++ [(t.1, c.2, true)]) ?_ (fun u hu => ?_) (by rw [e0]; simp) _ (by simp [G]) _ rfl
          · rw [e0]
            simp [push, q, tt]
          · rcases List.mem_append.mp hu with hu | hu
            · exact ft u (by rw [e0]; simp [hu])
            · rw [List.mem_singleton.mp hu]
        · have ap : mth .append (.ref h.length) [.tup [.int c.1, .int c.2]] (h2 ++ [DO.lst []]) = .ok .non ((h2 ++ [DO.lst []]).set h.length (.lst (f'.map (G fun _ => []) ++ [G (fun _ => []) t] ++ [.tup [.int c.1, .int c.2]]))) := by
            unfold mth
            simp only [g5]
            rw [if_pos]
            have : f.length = f'.length + 1 := by rw [e0]; simp
            simp [LN]; omega
          have rc : recv .append (.ref h.length) (h2 ++ [DO.lst []]) = true := by unfold recv; simp only [g5]; rfl
          simp [x1, G, q, rc, ap, mkTup, LN]
          refine done (f ++ [(c.1, c.2, true)]) ?_ (fun u hu => ?_) (by simp) _ (by rw [e0]; simp [G]) _ rfl
          · rw [e0]
            simp [push, q]
          · rcases List.mem_append.mp hu with hu | hu
            · exact ft u hu
            · rw [List.mem_singleton.mp hu]
  · obtain ⟨j, k, x7, x8, x9, rfl, f1, f2, f3, _, f, ef, ft, fl, f5⟩ := (eI ..).mp hI
    simp only [List.length_map, List.take_length] at ef
    have bl : Lil.blt .tuple [.ref h.length] h' = .ok (.tup (f.map (G fun _ => []))) h' := by
      unfold Lil.blt seqOf; simp only [f5]
    simp [bl]
    refine ⟨?_, f3⟩
    show _ = (rowsM w a b).map encP
    unfold rowsM mk made
    rw [row_enc, ef, hEE]
end Lil
/-! Fn5: stretches_made. Own work. -/
set_option linter.all false
set_option Elab.async false
set_option maxRecDepth 100000
set_option maxHeartbeats 2000000
namespace Lil
open Sol
/-- values of stretches as data -/
structure Fe {α : Type} (e : α) (fe : α → DV) : Prop where
  nil : fe e = .tup []
  inj : ∀ a b, fe a = fe b → a = b
  dat : ∀ a, idt 36 (fe a) = true
section
variable {α : Type} [DecidableEq α] {e : α} {fe : α → DV}
theorem Fe.isNil (X : Fe e fe) (a : α) : fe a = .tup [] ↔ a = e := ⟨fun h => X.inj _ _ (h.trans X.nil.symm), fun h => by rw [h, X.nil]⟩
theorem Fe.d40 (X : Fe e fe) (a : α) : idt DEEP (fe a) = true := idt_mono (X.dat a) (by decide)
theorem enc_G (s : List (Sg α)) : encS fe s = .tup (s.map (G fun a => [fe a])) := rfl
/-- one[at][2] if at < len(one) and one[at][0] <= low else () -/
theorem eVal_ok (X : Fe e fe) {F : Nat → List DV → Hd → Res DV} {A : List (Sg α)} {s : Sl} {h : Hd} {o p l i : Nat} {low : Int} (w : Wk A) (ha : At A low i) (ht : ∀ t, A[i]? = some t → low < t.2.1)
    (e1 : s[o]? = some (some (.tup (A.map (G fun a => [fe a]))))) (e2 : s[p]? = some (some (.int i))) (e3 : s[l]? = some (some (.int low))) :
    ev F (.ife (eIn p o l 0) (.idx (.idx (.var o) (.var p)) (.lit (.int 2))) (.tup .nil)) s h = .ok (fe (val e A low)) h := by
  rw [ev_ife, (eIn_ok e1 e2 e3).1, ok_bind, truR_bl, ok_bind, val_ptr w ha ht]
  unfold inAt
  cases q : A[i]? with
  | none => simp [mkTup, X.nil]
  | some t =>
    have ix : ∀ h, index (.tup (A.map (G fun a => [fe a]))) (.int i) h = some (G (fun a => [fe a]) t) := fun h => ix_at (by rw [List.getElem?_map, q]; rfl)
    by_cases z : t.1 ≤ low
    · simp [z, e1, e2, ix, G]
    · simp [z, mkTup, X.nil]
theorem stretches_made_ok (X : Fe e fe) {F : Nat → List DV → Hd → Res DV} {iE jn : Nat} (hE : EndsOk (F iE)) {g : α → α → α} {a b : List (Sg α)} {w : Wd} {h : Hd} (wa : Wk a) (wb : Wk b) (hl : (ends a b).length < 64) (hn : a.length + b.length < 1000000)
    (hI : ∀ x h, To (F jn [fe (val e a x), fe (val e b x), .str (wd w)] h) fun v h' => v = fe (g (val e a x) (val e b x)) ∧ Kp h.length h h') :
    To (runF F (D_stretches_made iE) [encS fe a, encS fe b, .str (wd w), .fn jn] h) fun v h' => v = encS fe (mk e g a b) ∧ Kp h.length h h' := by
  refine runF_to rfl ?_
  simp only [B_stretches_made]
  simp [alloc, mkLst]
  rw [enc_G a, enc_G b]
  have hE' := hE (a.map fun t => (t.1, t.2.1, [fe t.2.2])) (b.map fun t => (t.1, t.2.1, [fe t.2.2])) (h ++ [.lst []]) (by rw [ends_G (fun a => [fe a])]; exact hl) (by simp; omega)
  rw [← G_pc (fun a => [fe a]), ← G_pc (fun a => [fe a]), ends_G (fun a => [fe a])] at hE'
  generalize hEE : ends a b = E at hE' hl
  have upE : E.Pairwise (· < ·) := hEE ▸ ends_up
  refine hE'.imp fun v h1 ⟨nE, q1, q2, q3, q4⟩ => ?_
  subst q2
  rw [List.length_append] at q1 q4
  simp only [List.length_cons, List.length_nil] at q1 q4
  have m0 : h1[h.length]? = some (.lst []) := q4.get (by omega) (get_new h _)
  have nE1 : nE < h1.length := lt_of_get q3
  have sl : slice (.ref nE) (some 1) none h1 = .ok (.ref h1.length) (h1 ++ [.lst ((E.drop 1).map .int)]) := by
    unfold slice
    simp only [q3]
    unfold alloc cut
    simp [six]
    congr 4
    rcases E with _ | ⟨x, r⟩
    · rfl
    · simp
      exact List.take_of_length_le (by simp)
  have g1 : (h1 ++ [DO.lst ((E.drop 1).map .int)])[nE]? = some (.lst (E.map .int)) := by rw [List.getElem?_append_left nE1]; exact q3
  simp only [FT_nx, FT_step, List.set_cons_succ, List.set_cons_zero, evS_fo, evi_zp, ev_var, List.getElem?_cons_succ, List.getElem?_cons_zero, ev_slc, evo_so, evo_no, ev_lit, ok_bind, sl, g1, get_new, FT_fl, To_ok]
  have kp0 : Kp h.length h (h1 ++ [DO.lst ((E.drop 1).map .int)]) := (((Kp.app (h := h) [.lst []] (Nat.le_refl _)).trans q4 (by omega)).trans (Kp.app _ (Nat.le_refl _)) (by have := q4.len; omega))
  have ltE : (cells E).length < 64 := Nat.lt_of_le_of_lt (cells_len E) hl
  obtain ⟨I, eI⟩ : ∃ I : Nat → Sl → Hd → Prop, ∀ i s h', I i s h' ↔ ∃ (j k : Nat) (x8 x9 x10 x11 x12 : Option DV), s = [some (.tup (a.map (G fun a => [fe a]))), some (.tup (b.map (G fun a => [fe a]))), some (.str (wd w)), some (.fn jn), some (.ref h.length), some (.int j), some (.int k), some (.ref nE), x8, x9, x10, x11, x12] ∧
    h'[nE]? = some (.lst (E.map .int)) ∧ h'[h1.length]? = some (.lst ((E.drop 1).map .int)) ∧ Kp h.length h h' ∧ (∀ c, (cells E)[i]? = some c → At a c.1 j ∧ At b c.1 k) ∧
    ∃ f : List (Sg α), f = ((cells E).take i).foldl (made1 e g a b) [] ∧ f.length ≤ i ∧ h'[h.length]? = some (.lst (f.map (G fun a => [fe a]))) := ⟨_, fun _ _ _ => Iff.rfl⟩
  refine loopF_rule ((cells E).map fun c => DV.tup [.int c.1, .int c.2]) I
    (fun i s h' hI hi => ?_) (fun i d s h' hd hI => ?_) (fun s h' hI => ?_) _ _ _ _ (Nat.zero_le _) (by simp [FUEL]; omega)
    ((eI ..).mpr ⟨0, 0, none, none, none, none, none, rfl, g1, get_new _ _, kp0, fun c _ => ⟨At.zero, At.zero⟩, [], rfl, Nat.le_refl _, by rw [List.getElem?_append_left (by omega)]; exact m0⟩)
  · obtain ⟨j, k, x8, x9, x10, x11, x12, rfl, f1, f2, _⟩ := (eI ..).mp hI
    exact zip_item f1 f2 i
  · rename_i hin _
    obtain ⟨j, k, x8, x9, x10, x11, x12, rfl, f1, f2, f3, f4, f, ef, fl, f5⟩ := (eI ..).mp hI
    rw [List.getElem?_map] at hd
    obtain ⟨c, hc, rfl⟩ := Option.map_eq_some_iff.mp hd
    obtain ⟨A1, A2⟩ := f4 c hc
    have hi : i < (cells E).length := (List.getElem?_eq_some_iff.mp hc).1
    simp only [bind1_tp, bindAll_cons, bindAll_nil, bind1_nm, List.set_cons_succ, List.set_cons_zero, FT_step]
    refine adv_ok (rs := fun a => [fe a]) (A := a) (low := c.1) (i := j) rfl rfl rfl (by decide) (by decide) (by omega) A1 fun j' B1 B2 => ?_
    simp only [List.set_cons_succ, List.set_cons_zero, FT_step]
    refine adv_ok (rs := fun a => [fe a]) (A := b) (low := c.1) (i := k) rfl rfl rfl (by decide) (by decide) (by omega) A2 fun k' C1 C2 => ?_
    simp only [List.set_cons_succ, List.set_cons_zero, FT_step]
    have v1 := eVal_ok X (F := F) (A := a) (s := [some (.tup (a.map (G fun a => [fe a]))), some (.tup (b.map (G fun a => [fe a]))), some (.str (wd w)), some (.fn jn), some (.ref h.length), some (.int j'), some (.int k'), some (.ref nE), some (.int c.1), some (.int c.2), x10, x11, x12]) (h := h') (o := 0) (p := 5) (l := 8) (i := j') (low := c.1) wa B1 B2 rfl rfl rfl
    unfold eIn at v1
    rw [evS_asg, v1]
    simp only [FT_fl, To_ok, asg_nm, FT_nx, List.set_cons_succ, List.set_cons_zero, FT_step]
    have v2 := eVal_ok X (F := F) (A := b) (s := [some (.tup (a.map (G fun a => [fe a]))), some (.tup (b.map (G fun a => [fe a]))), some (.str (wd w)), some (.fn jn), some (.ref h.length), some (.int j'), some (.int k'), some (.ref nE), some (.int c.1), some (.int c.2), some (fe (val e a c.1)), x11, x12]) (h := h') (o := 1) (p := 6) (l := 8) (i := k') (low := c.1) wb C1 C2 rfl rfl rfl
    unfold eIn at v2
    rw [evS_asg, v2]
    simp only [FT_fl, To_ok, asg_nm, FT_nx, List.set_cons_succ, List.set_cons_zero, FT_step, evS_asg, ev_cav, evs_cons, evs_nil, ev_var, List.getElem?_cons_succ, List.getElem?_cons_zero, ok_bind]
    refine (hin c.1 h').imp fun v h2 ⟨z1, z2⟩ => ?_
    subst z1
    generalize hv : g (val e a c.1) (val e b c.1) = bv
    have cz : cop .ne (fe bv) (.tup []) h2 = some (!decide (bv = e)) := cop_ned (X.d40 _) rfl (X.isNil bv)
    simp only [asg_nm, FT_fl, To_ok, FT_nx, List.set_cons_succ, List.set_cons_zero, FT_step, evS_ift, ev_cmp, ev_var, ev_tup, evs_nil, mkTup, List.length_nil, Nat.zero_le, if_true, List.getElem?_cons_succ, List.getElem?_cons_zero, ok_bind, cz, litB_some, truR_bl]
    have next : ∀ d, (cells E)[i + 1]? = some d → At a d.1 j' ∧ At b d.1 k' := fun d hd => ⟨B1.up (cells_next upE hc hd), C1.up (cells_next upE hc hd)⟩
    have ef1 : ((cells E).take (i + 1)).foldl (made1 e g a b) [] = push e f (c.1, c.2, bv) := by
      rw [List.take_add_one, hc, List.foldl_append, ← ef, ← hv]; rfl
    have lt0 : h.length < h'.length := lt_of_get f5
    have f1' : h2[nE]? = some (.lst (E.map .int)) := z2.get (lt_of_get f1) f1
    have f2' : h2[h1.length]? = some (.lst ((E.drop 1).map .int)) := z2.get (lt_of_get f2) f2
    have f5' : h2[h.length]? = some (.lst (f.map (G fun a => [fe a]))) := z2.get lt0 f5
    have f3' : Kp h.length h h2 := f3.trans z2 (by omega)
    by_cases hb : bv = e
    · simp only [hb, decide_true, Bool.not_true, Bool.false_eq_true, if_false, FT_nil]
      exact (eI ..).mpr ⟨j', k', _, _, _, _, _, rfl, f1', f2', f3', next, f, by rw [ef1]; unfold push; rw [if_pos hb], by omega, f5'⟩
    · have lt0' : h.length < h2.length := lt_of_get f5'
      have idf : ∀ x ∈ f.map (G fun a => [fe a]), idt 39 x = true := fun x hx => by
        obtain ⟨t, _, rfl⟩ := List.mem_map.mp hx
        show ([DV.int t.1, .int t.2.1, fe t.2.2]).all (idt 38) = true
        rw [List.all_cons, List.all_cons, List.all_cons, idt_mono (X.dat t.2.2) (by decide : 36 ≤ 38)]
        rfl
      have g5 : (h2 ++ [DO.lst []])[h.length]? = some (.lst (f.map (G fun a => [fe a]))) := by rw [List.getElem?_append_left lt0']; exact f5'
      have cn := cop_nenil g5 (get_new h2 (.lst [])) idf
      have done : ∀ f', f' = push e f (c.1, c.2, bv) → f'.length ≤ f.length + 1 → ∀ h3, h3 = (h2 ++ [DO.lst []]).set h.length (.lst (f'.map (G fun a => [fe a]))) → ∀ s, s = [some (.tup (a.map (G fun a => [fe a]))), some (.tup (b.map (G fun a => [fe a]))), some (.str (wd w)), some (.fn jn), some (.ref h.length), some (.int j'), some (.int k'), some (.ref nE), some (.int c.1), some (.int c.2), some (fe (val e a c.1)), some (fe (val e b c.1)), some (fe bv)] →
          I (i + 1) s h3 := by
        intro f' p1 p3 h3 p4 s p5
        subst p4
        refine (eI ..).mpr ⟨j', k', _, _, _, _, _, p5, ?_, ?_, (f3'.trans (Kp.app [DO.lst []] (Nat.le_refl h2.length)) (by omega)).set (Nat.le_refl _), next, f', by rw [ef1, p1], by omega, get_set g5⟩
        · rw [List.getElem?_set_ne (by omega), List.getElem?_append_left (lt_of_get f1')]; exact f1'
        · rw [List.getElem?_set_ne (by omega), List.getElem?_append_left (lt_of_get f2')]; exact f2'
      simp only [hb, decide_false, Bool.not_false, if_true, FT_step, evS_ift, ev_and, ev_cmp, ev_var, List.getElem?_cons_succ, List.getElem?_cons_zero, ok_bind, ev_lst, evs_nil, mkLst, List.length_nil, Nat.zero_le, alloc, cn, litB_some, truR_bl]
      rcases List.eq_nil_or_concat f with e0 | ⟨f', t, e0⟩
      · subst e0
        have ap : mth .append (.ref h.length) [.tup [.int c.1, .int c.2, fe bv]] (h2 ++ [DO.lst []]) = .ok .non ((h2 ++ [DO.lst []]).set h.length (.lst [.tup [.int c.1, .int c.2, fe bv]])) := by
          unfold mth; simp only [g5]; rfl
        have rc : recv .append (.ref h.length) (h2 ++ [DO.lst []]) = true := by unfold recv; simp only [g5]; rfl
        simp [rc, ap, mkTup, LN]
        exact done [(c.1, c.2, bv)] (by unfold push; rw [if_neg hb]; rfl) (Nat.le_refl _) _ rfl _ rfl
      · rw [List.concat_eq_append] at e0
        rw [e0, List.map_append, List.map_singleton] at g5
        have x1 := ix_last g5
        have s1 := fun v => st_last (v := v) g5
        have ne : ¬ (f.map (G fun a => [fe a]) = []) := by rw [e0]; simp
        simp only [ne, decide_false, Bool.not_false, if_true]
        have c2 : ∀ h, cop .eq (fe t.2.2) (fe bv) h = some (decide (t.2.2 = bv)) := fun h => cop_eqd (X.d40 _) (X.d40 _) ⟨X.inj _ _, fun z => by rw [z]⟩
        have ap : mth .append (.ref h.length) [.tup [.int c.1, .int c.2, fe bv]] (h2 ++ [DO.lst []]) = .ok .non ((h2 ++ [DO.lst []]).set h.length (.lst (f'.map (G fun a => [fe a]) ++ [G (fun a => [fe a]) t] ++ [.tup [.int c.1, .int c.2, fe bv]]))) := by
          unfold mth
          simp only [g5]
          rw [if_pos]
          have : f.length = f'.length + 1 := by rw [e0]; simp
          simp [LN]; omega
        have rc : recv .append (.ref h.length) (h2 ++ [DO.lst []]) = true := by unfold recv; simp only [g5]; rfl
        by_cases q : t.2.1 = c.1
        · by_cases q2 : t.2.2 = bv
          · rw [q2] at c2
            simp [x1, G, q, q2, c2, s1, mkTup, LN]
            refine done (f' ++ [(t.1, c.2, bv)]) ?_ (by rw [e0]; simp) _ (by simp [G]) _ rfl
            rw [e0]
            simp [push, q, q2, hb]
          · simp [x1, G, q, c2, q2, rc, ap, mkTup, LN]
            refine done (f ++ [(c.1, c.2, bv)]) ?_ (by simp) _ (by rw [e0]; simp [G, q]) _ rfl
            rw [e0]
            simp [push, q, q2, hb]
        · simp [x1, G, q, rc, ap, mkTup, LN]
          refine done (f ++ [(c.1, c.2, bv)]) ?_ (by simp) _ (by rw [e0]; simp [G]) _ rfl
          rw [e0]
          simp [push, q, hb]
  · obtain ⟨j, k, x8, x9, x10, x11, x12, rfl, f1, f2, f3, _, f, ef, fl, f5⟩ := (eI ..).mp hI
    simp only [List.length_map, List.take_length] at ef
    have bl : Lil.blt .tuple [.ref h.length] h' = .ok (.tup (f.map (G fun a => [fe a]))) h' := by
      unfold Lil.blt seqOf; simp only [f5]
    simp [bl]
    refine ⟨?_, f3⟩
    unfold mk made
    rw [enc_G, ef, hEE]
end
end Lil
/-! Fn6: layers_made, union and its kind, union_of. Own work. -/
set_option linter.all false
set_option Elab.async false
set_option maxRecDepth 100000
set_option maxHeartbeats 2000000
namespace Lil
open Sol
/-- places that are near c -/
def Rg (c x : Int) : Prop := c ≤ x ∧ x ≤ c + 60
theorem ends_few {α : Type} {c : Int} {a b : List (Sg α)} (ha : ∀ t ∈ a, Rg c t.1 ∧ Rg c t.2.1) (hb : ∀ t ∈ b, Rg c t.1 ∧ Rg c t.2.1) : (ends a b).length < 64 := by
  rcases up_len (lo := c) (hi := c + 60) (ends_up (s := a) (t := b)) fun y hy => by
    rcases mem_ends.mp hy with ⟨u, hu, h⟩ | ⟨u, hu, h⟩
    · rcases h with h | h
      · rw [h]; exact (ha u hu).1
      · rw [h]; exact (ha u hu).2
    · rcases h with h | h
      · rw [h]; exact (hb u hu).1
      · rw [h]; exact (hb u hu).2
    with q | q
  · omega
  · rw [q]; decide
theorem wk_few {α : Type} {c : Int} {a : List (Sg α)} (w : Wk a) (ha : ∀ t ∈ a, Rg c t.1 ∧ Rg c t.2.1) : a.length ≤ 60 := by
  rcases wk_len (lo := c) (hi := c + 60) w fun t ht => ⟨(ha t ht).1.1, (ha t ht).2.2⟩ with q | q
  · omega
  · rw [q]; exact Nat.zero_le _
theorem bd1_s {R : Int → Prop} {a : Row} (h : bd1 R a) : ∀ t ∈ a.s, R t.1 ∧ R t.2.1 := fun t ht => by
  obtain ⟨u, hu, rfl⟩ := List.mem_map.mp ht
  exact h u hu
theorem bd2_s {R : Int → Prop} {a : Layer} (h : bd2 R a) : ∀ t ∈ a, R t.1 ∧ R t.2.1 := fun t ht => ⟨(h t ht).1, (h t ht).2.1⟩
theorem bd3_s {R : Int → Prop} {a : Solid} (h : bd3 R a) : ∀ t ∈ a, R t.1 ∧ R t.2.1 := fun t ht => ⟨(h t ht).1, (h t ht).2.1⟩
theorem bd1_imp {R R' : Int → Prop} (f : ∀ x, R x → R' x) {a : Row} (h : bd1 R a) : bd1 R' a := fun t ht => ⟨f _ (h t ht).1, f _ (h t ht).2⟩
theorem bd2_imp {R R' : Int → Prop} (f : ∀ x, R x → R' x) {a : Layer} (h : bd2 R a) : bd2 R' a := fun t ht => ⟨f _ (h t ht).1, f _ (h t ht).2.1, bd1_imp f (h t ht).2.2⟩
theorem bd3_imp {R R' : Int → Prop} (f : ∀ x, R x → R' x) {a : Solid} (h : bd3 R a) : bd3 R' a := fun t ht => ⟨f _ (h t ht).1, f _ (h t ht).2.1, bd2_imp f (h t ht).2.2⟩
theorem fe_row : Fe ([] : Row) encRow := ⟨rfl, fun _ _ => encRow_inj, fun a => idt_mono (idt_row a) (by decide)⟩
theorem fe_lay : Fe ([] : Layer) encLay := ⟨rfl, fun _ _ => encLay_inj, fun a => idt_mono (idt_lay a) (by decide)⟩
def StrAt (f inner : List DV → Hd → Res DV) (jn : Nat) : Prop := ∀ {α : Type} [DecidableEq α] {e : α} {fe : α → DV} (X : Fe e fe) {g : α → α → α} {a b : List (Sg α)} {w : Wd} {h : Hd}, Wk a → Wk b → (ends a b).length < 64 → a.length + b.length < 1000000 →
  (∀ x h, To (inner [fe (val e a x), fe (val e b x), .str (wd w)] h) fun v h' => v = fe (g (val e a x) (val e b x)) ∧ Kp h.length h h') →
  To (f [encS fe a, encS fe b, .str (wd w), .fn jn] h) fun v h' => v = encS fe (mk e g a b) ∧ Kp h.length h h'
theorem str_ok {F : Nat → List DV → Hd → Res DV} {iE jn : Nat} (hE : EndsOk (F iE)) : StrAt (runF F (D_stretches_made iE)) (F jn) jn := fun X _ _ _ _ _ wa wb hl hn hI => stretches_made_ok X hE wa wb hl hn hI
def LayersOk (f : List DV → Hd → Res DV) : Prop := ∀ (w : Wd) (a b : Layer) (c : Int) (h : Hd), okLayer a → okLayer b → bd2 (Rg c) a → bd2 (Rg c) b → To (f [encLay a, encLay b, .str (wd w)] h) fun v h' => v = encLay (layersM w a b) ∧ Kp h.length h h'
theorem layers_made_ok {F : Nat → List DV → Hd → Res DV} {inner : List DV → Hd → Res DV} {iR iS : Nat} (hS : StrAt (F iS) inner iR) (hR : RowsOk inner) : LayersOk (runF F (D_layers_made iR iS)) := by
  intro w a b c h oa ob ba bb
  refine runF_to rfl ?_
  simp only [B_layers_made]
  simp
  have la := wk_few oa.wk (bd2_s ba)
  have lb := wk_few ob.wk (bd2_s bb)
  exact hS fe_row (g := rowsM w) oa.wk ob.wk (ends_few (bd2_s ba) (bd2_s bb)) (by omega) fun x h => by
    have wa := (val_ok oa okRow_nil x).wk
    have wb := (val_ok ob okRow_nil x).wk
    have b1 := bd1_s (bd1_val ba x)
    have b2 := bd1_s (bd1_val bb x)
    have l1 := wk_few wa b1
    have l2 := wk_few wb b2
    rw [row_len] at l1 l2
    exact hR w _ _ h wa wb (ends_few b1 b2) (by omega)
def SolOk (w : Wd) (f : List DV → Hd → Res DV) : Prop := ∀ (a b : Solid) (c : Int) (h : Hd), okSolid a → okSolid b → bd3 (Rg c) a → bd3 (Rg c) b → To (f [encSol a, encSol b] h) fun v h' => v = encSol (solidM w a b) ∧ Kp h.length h h'
theorem sol_ok {w : Wd} {f inner : List DV → Hd → Res DV} {iL : Nat} (hS : StrAt f inner iL) (hL : LayersOk inner) {a b : Solid} {c : Int} {h : Hd} (oa : okSolid a) (ob : okSolid b) (ba : bd3 (Rg c) a) (bb : bd3 (Rg c) b) :
    To (f [encSol a, encSol b, .str (wd w), .fn iL] h) fun v h' => v = encSol (solidM w a b) ∧ Kp h.length h h' := by
  have la := wk_few oa.wk (bd3_s ba)
  have lb := wk_few ob.wk (bd3_s bb)
  exact hS fe_lay (g := layersM w) oa.wk ob.wk (ends_few (bd3_s ba) (bd3_s bb)) (by omega) fun x h =>
    hL w _ _ c h (val_ok oa okLayer_nil x) (val_ok ob okLayer_nil x) (bd2_val ba x) (bd2_val bb x)
theorem union_ok {F : Nat → List DV → Hd → Res DV} {inner : List DV → Hd → Res DV} {iL iS : Nat} (hS : StrAt (F iS) inner iL) (hL : LayersOk inner) : SolOk .either (runF F (D_union iS iL)) := by
  intro a b c h oa ob ba bb
  refine runF_to rfl ?_
  simp only [B_union]
  simp
  exact sol_ok (w := .either) hS hL oa ob ba bb

/-! ### union_of -/
def pairUp : List Solid → List Solid
  | a :: b :: r => solidM .either a b :: pairUp r
  | l => l
theorem evens_pairs : ∀ l : List Solid, ((evens l).zip (evens (l.drop 1))).map (fun q => solidM .either q.1 q.2) ++ l.drop (l.length / 2 * 2) = pairUp l
  | [] => rfl
  | [a] => by simp [pairUp, evens]
  | [a, b] => by simp [pairUp, evens]
  | a :: b :: c :: r => by
    have ih := evens_pairs (c :: r)
    have e : (a :: b :: c :: r).length / 2 * 2 = (c :: r).length / 2 * 2 + 2 := by simp only [List.length_cons]; omega
    rw [e]
    have ev1 : evens (a :: b :: c :: r) = a :: evens (c :: r) := rfl
    have ev2 : evens ((a :: b :: c :: r).drop 1) = b :: evens ((c :: r).drop 1) := by cases r <;> rfl
    rw [ev1, ev2]
    rw [List.zip_cons_cons, List.map_cons]
    show solidM .either a b :: (_ ++ (c :: r).drop ((c :: r).length / 2 * 2)) = _
    rw [ih]
    rfl
theorem pairUp_ok {R : Int → Prop} : ∀ {l : List Solid}, (∀ s ∈ l, okSolid s ∧ bd3 R s) → (∀ s ∈ pairUp l, okSolid s ∧ bd3 R s) ∧ ∀ z y x, (pairUp l).any (has3 · z y x) = l.any (has3 · z y x)
  | [], h => ⟨h, fun _ _ _ => rfl⟩
  | [a], h => ⟨h, fun _ _ _ => rfl⟩
  | a :: b :: r, h => by
    have ha := h a (.head _)
    have hb := h b (.tail _ (.head _))
    obtain ⟨i1, i2⟩ := pairUp_ok (l := r) fun s hs => h s (.tail _ (.tail _ hs))
    have o := solid_ok (w := .either) ha.1 hb.1
    refine ⟨fun s hs => ?_, fun z y x => ?_⟩
    · cases hs with
      | head => exact ⟨o.1, solid_bd ha.2 hb.2⟩
      | tail _ hs => exact i1 s hs
    · show (has3 (solidM .either a b) z y x || (pairUp r).any _) = (has3 a z y x || (has3 b z y x || r.any _))
      rw [i2, o.2, ← Bool.or_assoc]; rfl
theorem pairUp_len : ∀ l : List Solid, (pairUp l).length = (l.length + 1) / 2
  | [] => rfl
  | [a] => by simp [pairUp]
  | a :: b :: r => by
    show (pairUp r).length + 1 = _
    rw [pairUp_len r, List.length_cons, List.length_cons]; omega
theorem evens_map {α β : Type} (f : α → β) : ∀ l : List α, evens (l.map f) = (evens l).map f
  | [] => rfl
  | [a] => rfl
  | a :: b :: r => by
    show f a :: evens (r.map f) = f a :: (evens r).map f
    rw [evens_map f r]
theorem evens_len {α : Type} : ∀ l : List α, (evens l).length = (l.length + 1) / 2
  | [] => by simp [evens]
  | [a] => by simp [evens]
  | a :: b :: r => by
    show (evens r).length + 1 = _
    rw [evens_len r, List.length_cons, List.length_cons]; omega
theorem evens_mem {α : Type} {x : α} : ∀ {l : List α}, x ∈ evens l → x ∈ l
  | [], h => h
  | [a], h => h
  | a :: b :: r, h => by
    cases h with
    | head => exact .head _
    | tail _ h => exact .tail _ (.tail _ (evens_mem h))
/-- two lists walked together -/
theorem zip2 {h : Hd} {n m : Nat} {A B : List DV} (e1 : h[n]? = some (.lst A)) (e2 : h[m]? = some (.lst B)) (i : Nat) :
    itemAt h (.zp (.lst n) (.lst m)) i = match ((A.zip B).map fun q => DV.tup [q.1, q.2])[i]? with | some d => .item d | none => .stop := by
  simp only [itemAt, e1, e2, List.getElem?_map]
  cases q1 : A[i]? with
  | none =>
    have : (A.zip B)[i]? = none := by
      rw [List.getElem?_eq_none_iff] at q1 ⊢
      rw [List.length_zip]; omega
    rw [this]
    cases q2 : B[i]? <;> rfl
  | some a =>
    cases q2 : B[i]? with
    | none =>
      have : (A.zip B)[i]? = none := by
        rw [List.getElem?_eq_none_iff] at q2 ⊢
        rw [List.length_zip]; omega
      rw [this]; rfl
    | some b =>
      have : (A.zip B)[i]? = some (a, b) := by
        rw [List.getElem?_zip_eq_some]
        exact ⟨q1, q2⟩
      rw [this]; rfl
def UnionOfOk (f : List DV → Hd → Res DV) : Prop := ∀ (x : DV) (l : List Solid) (R : Int → Prop) (c : Int) (h : Hd), (∀ x, R x → Rg c x) → seqOf h x = some (l.map encSol) → (∀ s ∈ l, okSolid s ∧ bd3 R s) → l.length < 1000000 →
  To (f [x] h) fun v h' => ∃ s, v = encSol s ∧ okSolid s ∧ bd3 R s ∧ (∀ z y x, has3 s z y x = l.any (has3 · z y x)) ∧ Kp h.length h h'
theorem union_of_ok {F : Nat → List DV → Hd → Res DV} {iU : Nat} (hU : SolOk .either (F iU)) : UnionOfOk (runF F (D_union_of iU)) := by
  intro x l R c h hR hx hl hn
  refine runF_to rfl ?_
  have b0 : Lil.blt .list [x] h = .ok (.ref h.length) (h ++ [.lst (l.map encSol)]) := by
    unfold Lil.blt
    simp only [hx]
    rfl
  simp only [B_union_of]
  simp [b0]
  rw [evS_wh]
  obtain ⟨I, eI⟩ : ∃ I : Nat → Sl → Hd → Prop, ∀ i s h', I i s h' ↔ ∃ (n : Nat) (L : List Solid) (y z u : Option DV), s = [some x, some (.ref n), y, z, u] ∧ h.length ≤ n ∧ h'[n]? = some (.lst (L.map encSol)) ∧ L.length = i ∧ i ≤ l.length ∧
    (∀ s ∈ L, okSolid s ∧ bd3 R s) ∧ (∀ z y x, L.any (has3 · z y x) = l.any (has3 · z y x)) ∧ Kp h.length h h' := ⟨_, fun _ _ _ => Iff.rfl⟩
  refine loopW_rule I (fun i s h' hI => ?_) FUEL l.length _ _ (by simp [FUEL]; omega) ((eI ..).mpr ⟨h.length, l, none, none, none, rfl, Nat.le_refl _, get_new _ _, rfl, Nat.le_refl _, hl, fun _ _ _ => rfl, Kp.app _ (Nat.le_refl _)⟩)
  obtain ⟨n, L, y, z, u, rfl, n1, e1, e2, e3, oL, aL, kp⟩ := (eI ..).mp hI
  have bl : Lil.blt .len [.ref n] h' = .ok (.int L.length) h' := by
    unfold Lil.blt seqOf
    simp only [e1, List.length_map]
  have cg : cop .gt (.int L.length) (.int 1) h' = some (decide (1 < L.length)) := by
    rw [cop_gt]
    congr 1
    exact decide_eq_decide.mpr (by omega)
  simp only [ev_cmp, ev_blt, evs_cons, evs_nil, ev_var, ev_lit, List.getElem?_cons_succ, List.getElem?_cons_zero, ok_bind, bl, cg, litB_some, truR_bl, To_ok]
  have nlt : n < h'.length := lt_of_get e1
  by_cases q : 1 < L.length
  · simp only [q, decide_true, if_true]
    simp only [FT_step, evS_asg, FT_fl, ev_lc, evi_zp, ev_stp, ev_var, List.getElem?_cons_succ, List.getElem?_cons_zero, ok_bind, e1, alloc]
    have s1 : (h' ++ [DO.lst (evens ((L.map encSol).drop 0))])[n]? = some (.lst (L.map encSol)) := by rw [List.getElem?_append_left nlt]; exact e1
    simp only [s1, ok_bind]
    have s2 : (h' ++ [DO.lst (evens ((L.map encSol).drop 0))] ++ [DO.lst (evens ((L.map encSol).drop 1))])[h'.length]? = some (.lst (evens (L.map encSol))) := by
      rw [List.append_assoc, List.getElem?_append_right (Nat.le_refl _), Nat.sub_self]; rfl
    have s3 : (h' ++ [DO.lst (evens ((L.map encSol).drop 0))] ++ [DO.lst (evens ((L.map encSol).drop 1))])[(h' ++ [DO.lst (evens ((L.map encSol).drop 0))]).length]? = some (.lst (evens ((L.map encSol).drop 1))) := get_new _ _
    generalize hh2 : h' ++ [DO.lst (evens ((L.map encSol).drop 0))] ++ [DO.lst (evens ((L.map encSol).drop 1))] = h2 at s2 s3 ⊢
    have l2 : h2.length = h'.length + 2 := by rw [← hh2]; simp
    have k2 : Kp h'.length h' h2 := by rw [← hh2, List.append_assoc]; exact Kp.app _ (Nat.le_refl _)
    rw [List.length_append] at s3 ⊢
    simp only [List.length_singleton] at s3 ⊢
    simp only [s2, s3, ok_bind]
    have eA : evens (L.map encSol) = (evens L).map encSol := evens_map _ _
    have eB : evens ((L.map encSol).drop 1) = (evens (L.drop 1)).map encSol := by rw [← List.map_drop, evens_map]
    rw [eA] at s2
    rw [eB] at s3
    have zz : (((evens L).map encSol).zip ((evens (L.drop 1)).map encSol)).map (fun q => DV.tup [q.1, q.2]) = ((evens L).zip (evens (L.drop 1))).map fun q => DV.tup [encSol q.1, encSol q.2] := by
      rw [List.zip_map, List.map_map]; rfl
    have ez : ((evens L).zip (evens (L.drop 1))).length ≤ L.length := by
      rw [List.length_zip, evens_len]; omega
    simp only [To_aft, unlk_tup, unlk_lst, unlk_rng, unlk_zp]
    refine loopC_pure (((evens L).zip (evens (L.drop 1))).map fun q => DV.tup [encSol q.1, encSol q.2]) ((((evens L).zip (evens (L.drop 1))).map fun q => solidM .either q.1 q.2).map encSol) rfl (by simp) (by rw [List.length_map]; omega) (fun j h3 k3 hj => ?_) (fun j d v h3 hd hv k3 => ?_) (fun h3 hg k3 => ?_)
    · rw [← zz]
      exact zip2 (k3.get (lt_of_get s2) s2) (k3.get (lt_of_get s3) s3) j
    · rw [List.getElem?_map] at hd hv
      rw [List.getElem?_map] at hv
      obtain ⟨p, hp, rfl⟩ := Option.map_eq_some_iff.mp hd
      rw [hp] at hv
      cases hv
      have hm := List.of_mem_zip (List.mem_of_getElem? hp)
      have o1 := oL p.1 (evens_mem hm.1)
      have o2 := oL p.2 (List.mem_of_mem_drop (evens_mem hm.2))
      simp only [wip, bind1_tp, bindAll_cons, bindAll_nil, bind1_nm, List.set_cons_succ, List.set_cons_zero, evc_no, ok_bind, if_true, ev_cal, evs_cons, evs_nil, ev_var, List.getElem?_cons_succ, List.getElem?_cons_zero, To_bind]
      refine (hU p.1 p.2 c h3 o1.1 o2.1 (bd3_imp hR o1.2) (bd3_imp hR o2.2)).imp fun v h4 ⟨z1, z2⟩ => ?_
      subst z1
      exact ⟨rfl, z2⟩
    · have k4 := k2.trans k3 (by omega)
      have e1' : h3[n]? = some (.lst (L.map encSol)) := k4.get nlt e1
      have bl3 : Lil.blt .len [.ref n] h3 = .ok (.int L.length) h3 := by
        unfold Lil.blt seqOf
        simp only [e1', List.length_map]
      have ml : bop .mul (.int ((L.length : Int) / 2)) (.int 2) h3 = .ok (.int ((L.length : Int) / 2 * 2)) h3 := mul_to (decide_eq_true (.inr ⟨by decide, by decide⟩))
      have fd : bop .fdiv (.int L.length) (.int 2) h3 = .ok (.int ((L.length : Int) / 2)) h3 := fdiv_to (by decide) (by decide)
      have sl : slice (.ref n) (some ((L.length : Int) / 2 * 2)) none h3 = .ok (.ref h3.length) (h3 ++ [.lst ((L.drop (L.length / 2 * 2)).map encSol)]) := by
        unfold slice
        simp only [e1']
        unfold alloc cut
        have : six (L.map encSol).length 0 (some ((L.length : Int) / 2 * 2)) = L.length / 2 * 2 := by
          rw [List.length_map]
          show (if (L.length : Int) / 2 * 2 < 0 then ((L.length : Int) / 2 * 2 + (L.length : Int)).toNat else min ((L.length : Int) / 2 * 2).toNat L.length) = _
          rw [if_neg (by omega)]
          omega
        rw [this]
        simp only [six]
        rw [List.take_of_length_le (by rw [List.length_drop]; exact Nat.le_refl _), List.map_drop]
      simp only [asg_nm, To_ok, FT_nx, List.set_cons_succ, List.set_cons_zero, FT_step, evS_asg, FT_fl, ev_bin, ev_slc, evo_so, evo_no, ev_blt, evs_cons, evs_nil, ev_var, ev_lit, List.getElem?_cons_succ, List.getElem?_cons_zero, ok_bind, bl3, fd, ml, sl]
      have g1 : (h3 ++ [DO.lst ((L.drop (L.length / 2 * 2)).map encSol)])[h2.length]? = some (.lst ((((evens L).zip (evens (L.drop 1))).map fun q => solidM .either q.1 q.2).map encSol)) := by
        rw [List.getElem?_append_left (lt_of_get hg)]; exact hg
      have bo : Lil.bop .add (.ref h2.length) (.ref h3.length) (h3 ++ [DO.lst ((L.drop (L.length / 2 * 2)).map encSol)]) = .ok (.ref (h3.length + 1)) (h3 ++ [DO.lst ((L.drop (L.length / 2 * 2)).map encSol)] ++ [.lst ((pairUp L).map encSol)]) := by
        unfold Lil.bop
        simp only [g1, get_new]
        rw [← List.map_append, evens_pairs]
        unfold mkLst
        rw [if_pos (by rw [List.length_map, pairUp_len]; simp only [LN]; omega)]
        unfold alloc
        rw [List.length_append]; rfl
      simp only [bo, To_ok, FT_nil]
      have po := pairUp_ok oL
      have kk : Kp h.length h (h3 ++ [DO.lst ((L.drop (L.length / 2 * 2)).map encSol)] ++ [.lst ((pairUp L).map encSol)]) := by
        rw [List.append_assoc]
        exact (kp.trans k4 (by omega)).trans (Kp.app _ (Nat.le_refl _)) (by have := k4.len; omega)
      refine ⟨(pairUp L).length, by rw [pairUp_len]; omega, (eI ..).mpr ⟨h3.length + 1, pairUp L, _, _, _, rfl, by have := k4.len; omega, ?_, rfl, by rw [pairUp_len]; omega, po.1, fun z y x => (po.2 z y x).trans (aL z y x), kk⟩⟩
      have := get_new (h3 ++ [DO.lst ((L.drop (L.length / 2 * 2)).map encSol)]) (.lst ((pairUp L).map encSol))
      rw [List.length_append] at this
      exact this
  · simp only [q, decide_false, Bool.false_eq_true, if_false]
    have s1 : (h' ++ [DO.lst []])[n]? = some (.lst (L.map encSol)) := by rw [List.getElem?_append_left nlt]; exact e1
    have cn := cop_nenil s1 (get_new h' (.lst [])) fun y hy => by
      obtain ⟨t, _, rfl⟩ := List.mem_map.mp hy
      exact idt_mono (idt_sol t) (by decide)
    have ka : Kp h.length h (h' ++ [DO.lst []]) := kp.trans (Kp.app _ (Nat.le_refl _)) (by have := kp.len; omega)
    simp only [FT_step, evS_ret, ev_ife, ev_cmp, ev_var, ev_lst, evs_nil, mkLst, List.length_nil, Nat.zero_le, if_true, alloc, List.getElem?_cons_succ, List.getElem?_cons_zero, ok_bind, cn, litB_some, truR_bl]
    match L, e2, oL, aL, s1, q with
    | [], _, _, aL, _, _ =>
      simp [mkTup]
      exact ⟨[], rfl, okSolid_nil, fun _ h => (nomatch h), fun z y x => by rw [← aL z y x]; rfl, ka⟩
    | [a], _, oL, aL, s1, _ =>
      have ix : index (.ref n) (.int 0) (h' ++ [DO.lst []]) = some (encSol a) := by
        unfold index
        simp [isDct, s1, ixn]
      simp [ix]
      exact ⟨a, rfl, (oL a (.head _)).1, (oL a (.head _)).2, fun z y x => by rw [← aL z y x]; simp, ka⟩
    | _ :: _ :: _, _, _, _, _, q => exact absurd (by simp) q
end Lil
/-! Fn7: box, solids of boxes, drawn boxes. Own work. -/
set_option linter.all false
set_option Elab.async false
set_option maxRecDepth 100000
set_option maxHeartbeats 2000000
namespace Lil
open Sol
abbrev P3 := Int × Int × Int
def encPt (p : P3) : DV := .tup [.int p.1, .int p.2.1, .int p.2.2]
def encBx (q : P3 × P3) : DV := .tup [encPt q.1, encPt q.2]
def boxS (a b : P3) : Solid := if a.1 < b.1 ∧ a.2.1 < b.2.1 ∧ a.2.2 < b.2.2 then [(a.2.2, b.2.2, [(a.2.1, b.2.1, [(a.1, b.1)])])] else []
/-- the box has the cube -/
def inB (q : P3 × P3) (z y x : Int) : Bool := decide ((q.1.1 ≤ x ∧ x < q.2.1) ∧ (q.1.2.1 ≤ y ∧ y < q.2.2.1) ∧ q.1.2.2 ≤ z ∧ z < q.2.2.2)
theorem box_has (a b : P3) (z y x : Int) : has3 (boxS a b) z y x = inB (a, b) z y x := by
  unfold boxS inB
  split
  · rename_i h
    unfold has3 has2 has1
    by_cases qz : a.2.2 ≤ z ∧ z < b.2.2
    · by_cases qy : a.2.1 ≤ y ∧ y < b.2.1
      · by_cases qx : a.1 ≤ x ∧ x < b.1
        · simp [val, Row.s, qz, qy, qx]
        · simp [val, Row.s, qz, qy, qx]
      · simp [val, Row.s, qz, qy]
    · simp [val, Row.s, qz]
  · rename_i h
    rw [show has3 [] z y x = false from rfl]
    symm
    rw [decide_eq_false_iff_not]
    dsimp only
    omega
theorem box_ok (a b : P3) : okSolid (boxS a b) := by
  unfold boxS
  split
  · rename_i h
    refine ⟨fun t ht => ?_, fun t ht => ?_, fun t ht => ?_, trivial⟩
    · rw [List.mem_singleton.mp ht]; exact h.2.2
    · rw [List.mem_singleton.mp ht]; simp
    · rw [List.mem_singleton.mp ht]
      refine ⟨fun t ht => ?_, fun t ht => ?_, fun t ht => ?_, trivial⟩
      · rw [List.mem_singleton.mp ht]; exact h.2.1
      · rw [List.mem_singleton.mp ht]; simp
      · rw [List.mem_singleton.mp ht]
        refine ⟨fun t ht => ?_, fun t ht => ?_, fun t ht => trivial, trivial⟩
        · rw [List.mem_singleton.mp ht]; exact h.1
        · rw [List.mem_singleton.mp ht]; simp
  · exact okSolid_nil
def bdP (R : Int → Prop) (p : P3) : Prop := R p.1 ∧ R p.2.1 ∧ R p.2.2
theorem box_bd {R : Int → Prop} {a b : P3} (ha : bdP R a) (hb : bdP R b) : bd3 R (boxS a b) := by
  unfold boxS
  split
  · intro t ht
    rw [List.mem_singleton.mp ht]
    refine ⟨ha.2.2, hb.2.2, fun t ht => ?_⟩
    rw [List.mem_singleton.mp ht]
    refine ⟨ha.2.1, hb.2.1, fun t ht => ?_⟩
    rw [List.mem_singleton.mp ht]
    exact ⟨ha.1, hb.1⟩
  · exact fun _ h => (nomatch h)
def BoxOk (f : List DV → Hd → Res DV) : Prop := ∀ (a b : P3) (h : Hd), To (f [encPt a, encPt b] h) fun v h' => v = encSol (boxS a b) ∧ Kp h.length h h'
theorem allBls3 (p q r : Bool) : allBls [.bl p, .bl q, .bl r] = some [p, q, r] := rfl
theorem box_fn {F : Nat → List DV → Hd → Res DV} : BoxOk (runF F D_box) := by
  intro a b h
  refine runF_to rfl ?_
  simp only [B_box, encPt]
  simp only [List.map_cons, List.map_nil, List.cons_append, List.nil_append, List.replicate, Nat.sub_self, FT_step, evS_ift, ev_nt, ev_blt, evs_cons, evs_nil, ev_lc, evi_sq, ev_lit, ok_bind, FT_fl, To_bind]
  simp only [To_aft, unlk_tup, unlk_lst, unlk_rng, unlk_zp]
  refine loopC_pure [.int 0, .int 1, .int 2] [.bl (decide (a.1 < b.1)), .bl (decide (a.2.1 < b.2.1)), .bl (decide (a.2.2 < b.2.2))] rfl rfl (by decide) (fun i h' _ _ => rfl) (fun i d v h' hd hv kp => ?_) (fun h' hg kp => ?_)
  · have : i = 0 ∨ i = 1 ∨ i = 2 := by have := (List.getElem?_eq_some_iff.mp hd).1; simp at this; omega
    rcases this with rfl | rfl | rfl <;> cases hd <;> cases hv <;> simp [wip] <;> exact Kp.refl
  · have bl : Lil.blt .all [.ref h.length] h' = .ok (.bl (decide (a.1 < b.1) && (decide (a.2.1 < b.2.1) && decide (a.2.2 < b.2.2)))) h' := by
      unfold Lil.blt
      simp only [hg, allBls3]
      simp
    simp only [To_ok, bl, truR_bl]
    unfold boxS
    by_cases q : a.1 < b.1 ∧ a.2.1 < b.2.1 ∧ a.2.2 < b.2.2
    · simp [q, mkTup, LN]
      exact ⟨rfl, kp⟩
    · have : (decide (a.1 < b.1) && (decide (a.2.1 < b.2.1) && decide (a.2.2 < b.2.2))) = false := by
        rw [← Bool.not_eq_true]
        simpa using q
      rw [this, if_neg q]
      simp [mkTup, LN]
      exact ⟨rfl, kp⟩
def LawSolidOk (f : List DV → Hd → Res DV) : Prop := ∀ (n : Nat) (B : List (P3 × P3)) (R : Int → Prop) (c : Int) (h : Hd), (∀ x, R x → Rg c x) → h[n]? = some (.lst (B.map encBx)) → (∀ q ∈ B, bdP R q.1 ∧ bdP R q.2) → B.length < 1000000 →
  To (f [.ref n] h) fun v h' => ∃ s, v = encSol s ∧ okSolid s ∧ bd3 R s ∧ (∀ z y x, has3 s z y x = B.any (inB · z y x)) ∧ Kp h.length h h'
theorem law_solid_ok {F : Nat → List DV → Hd → Res DV} {iU iB : Nat} (hU : UnionOfOk (F iU)) (hB : BoxOk (F iB)) : LawSolidOk (runF F (D__law_solid iU iB)) := by
  intro n B R c h hR e hb hl
  refine runF_to rfl ?_
  simp only [B__law_solid]
  simp only [List.map_cons, List.map_nil, List.cons_append, List.nil_append, List.replicate, Nat.sub_self, FT_step, evS_ret, ev_cal, evs_cons, evs_nil, ev_lc, evi_sq, ev_var, List.getElem?_cons_zero, ok_bind, FT_fl, To_bind, e]
  simp only [To_aft, unlk_tup, unlk_lst, unlk_rng, unlk_zp]
  refine loopC_pure (B.map encBx) ((B.map fun q => boxS q.1 q.2).map encSol) rfl (by simp) (by simp; omega) (fun i h' kp _ => ?_) (fun i d v h' hd hv kp => ?_) (fun h' hg kp => ?_)
  · simp only [itemAt, kp.get (lt_of_get e) e]
    try rfl
  · rw [List.getElem?_map] at hd hv
    rw [List.getElem?_map] at hv
    obtain ⟨p, hp, rfl⟩ := Option.map_eq_some_iff.mp hd
    rw [hp] at hv
    cases hv
    simp only [wip, encBx, bind1_tp, bindAll_cons, bindAll_nil, bind1_nm, List.set_cons_succ, List.set_cons_zero, evc_no, ok_bind, if_true, ev_cal, evs_cons, evs_nil, ev_var, List.getElem?_cons_succ, List.getElem?_cons_zero, To_bind]
    refine (hB p.1 p.2 h').imp fun v h4 ⟨z1, z2⟩ => ?_
    subst z1
    exact ⟨rfl, z2⟩
  · simp only [To_ok]
    refine (hU (.ref h.length) (B.map fun q => boxS q.1 q.2) R c h' hR (by unfold seqOf; simp only [hg]) (fun s hs => ?_) (by simp; omega)).imp fun v h4 ⟨s, z1, z2, z3, z4, z5⟩ => ?_
    · obtain ⟨q, hq, rfl⟩ := List.mem_map.mp hs
      exact ⟨box_ok _ _, box_bd (hb q hq).1 (hb q hq).2⟩
    · subst z1
      refine ⟨s, rfl, z2, z3, fun z y x => ?_, kp.trans z5 kp.len⟩
      rw [z4, List.any_map]
      congr 1
      funext q
      exact box_has _ _ _ _ _
end Lil
/-! Fn8: drawn boxes. Own work. -/
set_option linter.all false
set_option Elab.async false
set_option maxRecDepth 100000
set_option maxHeartbeats 2000000
namespace Lil
open Sol
/-- a drawn box -/
def gB (w : Int) (q : P3 × P3) : Prop := (-1 ≤ q.1.1 ∧ q.1.1 < w - 1 ∧ q.1.1 < q.2.1 ∧ q.2.1 ≤ q.1.1 + 3) ∧ (-1 ≤ q.1.2.1 ∧ q.1.2.1 < w - 1 ∧ q.1.2.1 < q.2.2.1 ∧ q.2.2.1 ≤ q.1.2.1 + 3) ∧ -1 ≤ q.1.2.2 ∧ q.1.2.2 < w - 1 ∧ q.1.2.2 < q.2.2.2 ∧ q.2.2.2 ≤ q.1.2.2 + 3
theorem three {l : List DV} {P : Nat → DV → Prop} (h : l.length = 3) (hp : ∀ (i : Nat) (v : DV), l[i]? = some v → P i v) : ∃ a b c, l = [a, b, c] ∧ P 0 a ∧ P 1 b ∧ P 2 c := by
  match l, h with
  | [a, b, c], _ => exact ⟨a, b, c, rfl, hp 0 a rfl, hp 1 b rfl, hp 2 c rfl⟩
theorem rng_item (lo : Int) (n : Nat) (i : Nat) (h : Hd) (hi : i ≤ n) : itemAt h (.rng lo n) i = match ((List.range n).map fun j => DV.int (lo + (j : Nat)))[i]? with | some d => .item d | none => .stop := by
  simp only [itemAt]
  by_cases q : i < n
  · rw [if_pos q, List.getElem?_map, List.getElem?_range q]; rfl
  · rw [if_neg q, List.getElem?_eq_none (by simp; omega)]
def BoxesOk (f : List DV → Hd → Res DV) : Prop := ∀ (m : Nat) (many wide : Int) (h : Hd), Dw m h → 0 < many → many < 1000 → 0 < wide → To (f [.ref m, .int many, .int wide] h) fun v h' =>
  ∃ (n : Nat) (B : List (P3 × P3)), v = .ref n ∧ h.length ≤ n ∧ h'[n]? = some (.lst (B.map encBx)) ∧ (B.length : Int) < many ∧ (∀ q ∈ B, gB wide q) ∧ Kd m h.length h h'
theorem boxes_fn {F : Nat → List DV → Hd → Res DV} {iN : Nat} (hN : NextOk (F iN)) : BoxesOk (runF F (D__law_boxes iN)) := by
  intro m many wide h dw h0 h1000 hw
  refine runF_to rfl ?_
  have ml := dw.lt
  simp only [B__law_boxes]
  simp only [List.map_cons, List.map_nil, List.cons_append, List.nil_append, List.replicate, Nat.add_one_sub_one, Nat.reduceSub, FT_step, evS_asg, ev_lst, evs_nil, mkLst, List.length_nil, Nat.zero_le, if_true, alloc, ok_bind, FT_fl, To_ok, asg_nm, FT_nx, List.set_cons_succ, List.set_cons_zero, evS_fo, evi_r1, ev_cal, evs_cons, ev_var, List.getElem?_cons_succ, List.getElem?_cons_zero, To_bind]
  have k1 : Kd m h.length h (h ++ [DO.lst []]) := Kd.kp (Kp.app _ (Nat.le_refl _)) dw ml
  refine (hN m many _ k1.dw h0).imp fun v h2 ⟨⟨l2, k2⟩, t, e, t0, t1⟩ => ?_
  subst e
  simp only [List.length_append, List.length_singleton] at l2 k2
  have e2 : h2[h.length]? = some (.lst []) := k2.get (by omega) (by omega) (get_new _ _)
  have r0 : -(2 : Int) ^ 62 ≤ t ∧ t < 2 ^ 62 := ⟨by omega, by omega⟩
  simp only [r0, and_self, if_true, To_ok, FT_aft, unlk_rng]
  obtain ⟨I, eI⟩ : ∃ I : Nat → Sl → Hd → Prop, ∀ i s h', I i s h' ↔ ∃ (B : List (P3 × P3)) (x4 x5 : Option DV), s = [some (.ref m), some (.int many), some (.int wide), some (.ref h.length), x4, x5, none, none] ∧ h'[h.length]? = some (.lst (B.map encBx)) ∧ B.length = i ∧ (∀ q ∈ B, gB wide q) ∧ Kd m h.length h h' := ⟨_, fun _ _ _ => Iff.rfl⟩
  refine loopF_rule ((List.range t.toNat).map fun j => DV.int (0 + (j : Nat))) I (fun i s h' hI hi => rng_item 0 t.toNat i h' (by simpa using hi)) (fun i d s h' hd hI => ?_) (fun s h' hI => ?_) _ _ _ _ (Nat.zero_le _) (by simp [FUEL]; omega) ((eI ..).mpr ⟨[], none, none, rfl, e2, rfl, fun _ h => (nomatch h), k1.trans k2 (by omega)⟩)
  · obtain ⟨B, x4, x5, rfl, f1, f2, f3, kd⟩ := (eI ..).mp hI
    have hi : i < t.toNat := by have := (List.getElem?_eq_some_iff.mp hd).1; simpa using this
    have nl : h.length < h'.length := lt_of_get f1
    simp only [bind1_nm, FT_step, List.set_cons_succ, List.set_cons_zero, evS_asg, ev_blt, evs_cons, evs_nil, ev_lc, evi_r1, ev_lit, ok_bind, To_bind, FT_fl]
    rw [if_pos ⟨by decide, by decide⟩, To_ok]
    simp only [To_aft, unlk_tup, unlk_lst, unlk_rng, unlk_zp]
    refine loopC_draw (m := m) ((List.range (3 : Int).toNat).map fun j => DV.int (0 + (j : Nat))) (fun _ v => ∃ x, v = .int x ∧ -1 ≤ x ∧ x < wide - 1) rfl kd.dw (by decide) (fun i h3 _ hi => rng_item 0 (3 : Int).toNat i h3 (by simpa using hi)) (fun j d h3 hd k3 => ?_) (fun outs h3 o1 o2 hg k3 => ?_)
    · simp only [wip, bind1_nm, List.set_cons_succ, List.set_cons_zero, evc_no, ok_bind, if_true, ev_bin, ev_cal, evs_cons, evs_nil, ev_var, ev_lit, List.getElem?_cons_succ, List.getElem?_cons_zero, To_bind]
      refine (hN m wide h3 k3.dw hw).imp fun v h4 ⟨⟨l4, k4⟩, u, e, u0, u1⟩ => ?_
      subst e
      exact ⟨_, rfl, ⟨u - 1, rfl, by omega, by omega⟩, k4⟩
    · obtain ⟨a, b, c, rfl, ⟨xa, rfl, a0, a1⟩, ⟨xb, rfl, b0, b1⟩, ⟨xc, rfl, c0, c1⟩⟩ := three (by simpa using o1) o2
      have bl : Lil.blt .tuple [.ref h'.length] h3 = .ok (.tup [.int xa, .int xb, .int xc]) h3 := by
        unfold Lil.blt seqOf; simp only [hg]
      have g3 : h3[h.length]? = some (.lst (B.map encBx)) := k3.get nl (by omega) f1
      have rc : recv .append (.ref h.length) h3 = true := by unfold recv; simp only [g3]; rfl
      simp only [To_ok, bl, asg_nm, FT_nx, List.set_cons_succ, List.set_cons_zero, FT_step, evS_exp, FT_fl, ev_mth, ev_var, List.getElem?_cons_succ, List.getElem?_cons_zero, ok_bind, rc, if_true, evs_cons, evs_nil, ev_tup, ev_blt, ev_lc, evi_sq, To_bind]
      simp only [To_aft, unlk_tup, unlk_lst, unlk_rng, unlk_zp]
      refine loopC_draw (m := m) [.int xa, .int xb, .int xc] (fun i v => ∃ x l, [DV.int xa, .int xb, .int xc][i]? = some (.int l) ∧ v = .int x ∧ l < x ∧ x ≤ l + 3) rfl k3.dw (by simp) (fun i h4 _ hi => rfl) (fun j d h4 hd k4 => ?_) (fun outs h4 o1 o2 hg4 k4 => ?_)
      · have hj : ∃ l, d = .int l := by
          have : j = 0 ∨ j = 1 ∨ j = 2 := by have := (List.getElem?_eq_some_iff.mp hd).1; simp at this; omega
          rcases this with rfl | rfl | rfl <;> cases hd <;> exact ⟨_, rfl⟩
        obtain ⟨l, rfl⟩ := hj
        simp only [wip, bind1_nm, List.set_cons_succ, List.set_cons_zero, evc_no, ok_bind, if_true, ev_bin, bop_add, ev_cal, evs_cons, evs_nil, ev_var, ev_lit, List.getElem?_cons_succ, List.getElem?_cons_zero, To_bind]
        refine (hN m 3 h4 k4.dw (by decide)).imp fun v h5 ⟨⟨l5, k5⟩, u, e, u0, u1⟩ => ?_
        subst e
        exact ⟨_, rfl, ⟨l + 1 + u, l, hd, rfl, by omega, by omega⟩, k5⟩
      · obtain ⟨a, b, c, rfl, ⟨ya, la, ea, rfl, ha0, ha1⟩, ⟨yb, lb, eb, rfl, hb0, hb1⟩, ⟨yc, lc, ec, rfl, hc0, hc1⟩⟩ := three (by simpa using o1) o2
        cases ea; cases eb; cases ec
        have bl4 : Lil.blt .tuple [.ref h3.length] h4 = .ok (.tup [.int ya, .int yb, .int yc]) h4 := by
          unfold Lil.blt seqOf; simp only [hg4]
        have nl3 : h.length < h3.length := lt_of_get g3
        have g4 : h4[h.length]? = some (.lst (B.map encBx)) := k4.get nl3 (by omega) g3
        have ap : mth .append (.ref h.length) [.tup [.tup [.int xa, .int xb, .int xc], .tup [.int ya, .int yb, .int yc]]] h4 = .ok .non (h4.set h.length (.lst ((B ++ [((xa, xb, xc), (ya, yb, yc))]).map encBx))) := by
          unfold mth
          simp only [g4]
          rw [if_pos (by simp only [List.length_map, LN]; omega), List.map_append]
          rfl
        simp only [To_ok, bl4, mkTup, List.length_cons, List.length_nil, Nat.zero_add, Nat.reduceAdd, LN, Nat.reduceLeDiff, if_true, ap, FT_nx, FT_nil]
        refine (eI ..).mpr ⟨B ++ [((xa, xb, xc), (ya, yb, yc))], _, _, rfl, get_set g4, by simp [f2], fun q hq => ?_, ((kd.trans k3 kd.len).trans k4 (by have := k3.len; have := kd.len; omega)).set (Nat.le_refl _) ml⟩
        rcases List.mem_append.mp hq with hq | hq
        · exact f3 q hq
        · rw [List.mem_singleton.mp hq]
          exact ⟨⟨a0, a1, ha0, ha1⟩, ⟨b0, b1, hb0, hb1⟩, c0, c1, hc0, hc1⟩
  · obtain ⟨B, x4, x5, rfl, f1, f2, f3, kd⟩ := (eI ..).mp hI
    simp only [List.length_map, List.length_range] at f2
    simp only [FT_step, evS_ret, ev_var, List.getElem?_cons_succ, List.getElem?_cons_zero, FT_fl, To_ok, FT_rt]
    exact ⟨h.length, B, rfl, Nat.le_refl _, f1, by omega, f3, kd⟩
end Lil
/-! Fn9: is_number, is_row, are_stretches, is_layer, is_solid. Own work. -/
set_option linter.all false
set_option Elab.async false
set_option maxRecDepth 100000
set_option maxHeartbeats 2000000
namespace Lil
open Sol
theorem ch_zip {β : Type} {R : β → β → Prop} : ∀ s : List β, Ch R s ↔ ∀ p ∈ s.zip (s.drop 1), R p.1 p.2
  | [] => ⟨fun _ _ h => by simp at h, fun _ => trivial⟩
  | [a] => ⟨fun _ _ h => by simp at h, fun _ => trivial⟩
  | a :: b :: r => by
    show (R a b ∧ Ch R (b :: r)) ↔ ∀ p ∈ (a, b) :: (b :: r).zip r, R p.1 p.2
    rw [ch_zip (b :: r)]
    simp only [List.drop_succ_cons, List.drop_zero, List.mem_cons, forall_eq_or_imp]
abbrev RRow := List (Int × Option Int)
abbrev RLay := List (Sg RRow)
abbrev RSol := List (Sg RLay)
def encO : Option Int → DV
  | some i => .int i
  | none => .bl true
def encRP (q : Int × Option Int) : DV := .tup [.int q.1, encO q.2]
def encRR (r : RRow) : DV := .tup (r.map encRP)
def encRL (l : RLay) : DV := encS encRR l
def encRS (s : RSol) : DV := encS encRL s
def rr (r : Row) : RRow := r.map fun q => (q.1, some q.2)
def rl (l : Layer) : RLay := l.map fun t => (t.1, t.2.1, rr t.2.2)
def rsl (s : Solid) : RSol := s.map fun t => (t.1, t.2.1, rl t.2.2)
theorem enc_rr (r : Row) : encRR (rr r) = encRow r := by
  unfold encRR rr encRow; rw [List.map_map]; rfl
theorem enc_rl (l : Layer) : encRL (rl l) = encLay l := by
  unfold encRL rl encLay encS; rw [List.map_map]
  congr 1
  refine List.map_congr_left fun t _ => ?_
  show DV.tup [.int t.1, .int t.2.1, encRR (rr t.2.2)] = _
  rw [enc_rr]; rfl
theorem enc_rsl (s : Solid) : encRS (rsl s) = encSol s := by
  unfold encRS rsl encSol encS; rw [List.map_map]
  congr 1
  refine List.map_congr_left fun t _ => ?_
  show DV.tup [.int t.1, .int t.2.1, encRL (rl t.2.2)] = _
  rw [enc_rl]; rfl
def okRR (r : RRow) : Prop := ∃ q : Row, r = rr q ∧ okRow q ∧ q ≠ []
def okRL (l : RLay) : Prop := l ≠ [] ∧ (∀ t ∈ l, t.1 < t.2.1 ∧ okRR t.2.2) ∧ Ch Nb l
def okRS (s : RSol) : Prop := (∀ t ∈ s, t.1 < t.2.1 ∧ okRL t.2.2) ∧ Ch Nb s
theorem isDat_row (r : RRow) (n : Nat) (h : Hd) : isDat h (n + 3) (encRR r) = true := by
  show (r.map encRP).all (isDat h (n + 2)) = true
  rw [List.all_map]
  refine List.all_eq_true.mpr fun q _ => ?_
  show ([DV.int q.1, encO q.2]).all (isDat h (n + 1)) = true
  cases q.2 <;> rfl
theorem isDat_S {β : Type} {fb : β → DV} {n : Nat} {h : Hd} (hf : ∀ b, isDat h (n + 1) (fb b) = true) (s : List (Sg β)) : isDat h (n + 3) (encS fb s) = true := by
  show (s.map (encSg fb)).all (isDat h (n + 2)) = true
  rw [List.all_map]
  refine List.all_eq_true.mpr fun t _ => ?_
  show ([DV.int t.1, .int t.2.1, fb t.2.2]).all (isDat h (n + 1)) = true
  rw [List.all_cons, List.all_cons, List.all_cons, hf]; rfl
theorem eq_nilt {xs : List DV} {h : Hd} (hx : isDat h DEEP (.tup xs) = true) : eqO h DEEP (.tup xs) (.tup []) = some (decide (xs = [])) := by
  unfold eqO
  rw [hx, show isDat h DEEP (.tup []) = true from rfl, Bool.and_self, if_pos rfl]
  cases xs <;> rfl
def NumIs (f : List DV → Hd → Res DV) : Prop := (∀ (i : Int) (h : Hd), f [.int i] h = .ok (.bl true) h) ∧ ∀ (b : Bool) (h : Hd), f [.bl b] h = .ok (.bl false) h
theorem To.eq {α : Type} {r : Res α} {a : α} {h : Hd} (p : To r fun b h' => b = a ∧ h' = h) : r = .ok a h := by
  cases r with
  | ok b h' => obtain ⟨rfl, rfl⟩ := (show _ ∧ _ from p); rfl
  | exc => exact p.elim
  | bad => exact p.elim
theorem number_is {F : Nat → List DV → Hd → Res DV} : NumIs (runF F D_is_number) := by
  constructor
  · intro i h
    refine To.eq (runF_to rfl ?_)
    simp [B_is_number, isTyH, isTy]
  · intro b h
    refine To.eq (runF_to rfl ?_)
    simp [B_is_number, isTyH, isTy]
theorem isTupW (xs : List DV) (h : Hd) : isTyH h .tuple (.tup xs) = some true := rfl
theorem len2 (a b : DV) (h : Hd) : Lil.blt .len [.tup [a, b]] h = .ok (.int 2) h := rfl
theorem len3 (a b c : DV) (h : Hd) : Lil.blt .len [.tup [a, b, c]] h = .ok (.int 3) h := rfl
theorem allBls_map : ∀ l : List Bool, allBls (l.map .bl) = some l
  | [] => rfl
  | a :: r => by
    show (allBls (r.map .bl)).map (a :: ·) = _
    rw [allBls_map r]; rfl
theorem zipT_item (A B : List DV) (i : Nat) (h : Hd) : itemAt h (.zp (.tup A) (.tup B)) i = match ((A.zip B).map fun q => DV.tup [q.1, q.2])[i]? with | some d => .item d | none => .stop := by
  simp only [itemAt, List.getElem?_map]
  cases q1 : A[i]? with
  | none =>
    have : (A.zip B)[i]? = none := by
      rw [List.getElem?_eq_none_iff] at q1 ⊢
      rw [List.length_zip]; omega
    rw [this]
    cases q2 : B[i]? <;> rfl
  | some a =>
    cases q2 : B[i]? with
    | none =>
      have : (A.zip B)[i]? = none := by
        rw [List.getElem?_eq_none_iff] at q2 ⊢
        rw [List.length_zip]; omega
      rw [this]; rfl
    | some b =>
      have : (A.zip B)[i]? = some (a, b) := by
        rw [List.getElem?_zip_eq_some]
        exact ⟨q1, q2⟩
      rw [this]; rfl
theorem cut1 {α : Type} (xs : List α) : cut xs (some 1) none = xs.drop 1 := by
  unfold cut
  have : six xs.length 0 (some 1) = min 1 xs.length := rfl
  rw [this]
  show (xs.drop (min 1 xs.length)).take (xs.length - min 1 xs.length) = _
  cases xs with
  | nil => rfl
  | cons x r =>
    rw [show min 1 (x :: r).length = 1 by simp]
    exact List.take_of_length_le (by simp)
theorem slcT1 (xs : List DV) (h : Hd) : slice (.tup xs) (some 1) none h = .ok (.tup (xs.drop 1)) h := by
  show Res.ok (DV.tup (cut xs (some 1) none)) h = _
  rw [cut1]
def RowIs (f : List DV → Hd → Res DV) : Prop := ∀ (r : RRow) (h : Hd), r.length < 1000000 → To (f [encRR r] h) fun v h' => (∃ b, v = .bl b ∧ (b = true ↔ okRR r)) ∧ Kp h.length h h'
theorem row_is {F : Nat → List DV → Hd → Res DV} {iN : Nat} (hN : NumIs (F iN)) : RowIs (runF F (D_is_row iN)) := by
  intro r h hl
  refine runF_to rfl ?_
  simp only [B_is_row]
  have d1 : cop .eq (encRR r) (.tup []) h = some (decide (r = [])) := by
    show eqO h DEEP (.tup (r.map encRP)) (.tup []) = _
    rw [eq_nilt (isDat_row r 37 h)]
    simp
  have ne : ∀ {r : RRow}, okRR r → r ≠ [] := fun ⟨q, e, _, hq⟩ z => by
    rw [e] at z
    exact hq (List.map_eq_nil_iff.mp z)
  simp only [List.map_cons, List.map_nil, List.cons_append, List.nil_append, List.replicate, Nat.reduceSub, FT_step, evS_ift, ev_or, ev_nt, ev_isi, ev_var, List.getElem?_cons_zero, ok_bind, ev_cmp, ev_tup, evs_nil, mkTup, List.length_nil, Nat.zero_le, if_true]
  rw [show isTyH h .tuple (encRR r) = some true from rfl]
  simp only [litB_some, ok_bind, truR_bl, Bool.not_true, Bool.false_eq_true, if_false, d1, FT_fl, To_ok]
  by_cases q0 : r = []
  · simp only [q0, decide_true, if_true, FT_step, evS_ret, ev_lit, FT_fl, To_ok, FT_rt]
    exact ⟨⟨false, rfl, fun h => (nomatch h), fun z => absurd rfl (ne z)⟩, Kp.refl⟩
  · simp only [q0, decide_false, Bool.false_eq_true, if_false, FT_nil, FT_step, evS_fo, evi_sq, ev_var, List.getElem?_cons_zero, ok_bind]
    simp only [encRR, ok_bind, FT_fl, To_ok]
    simp only [FT_aft, unlk_tup, unlk_lst, unlk_rng, unlk_zp]
    refine loopF_rule (r.map encRP) (fun i s h' => ∃ x, s = [some (.tup (r.map encRP)), x, none, none, none] ∧ h' = h ∧ ∀ q ∈ r.take i, q.2.isSome = true) (fun i s h' _ _ => rfl) (fun i d s h' hd hI => ?_) (fun s h' hI => ?_) _ _ _ _ (Nat.zero_le _) (by simp [FUEL]; omega) ⟨none, rfl, rfl, fun q hq => by simp at hq⟩
    · obtain ⟨x, rfl, rfl, hI⟩ := hI
      rw [List.getElem?_map] at hd
      obtain ⟨p, hp, rfl⟩ := Option.map_eq_some_iff.mp hd
      simp only [bind1_nm, List.set_cons_succ, List.set_cons_zero, FT_step, evS_ift, ev_or, ev_nt, ev_isi, ev_var, List.getElem?_cons_succ, List.getElem?_cons_zero, ok_bind, encRP, isTupW, litB_some, truR_bl, Bool.not_true, Bool.false_eq_true, if_false, ev_cmp, ev_blt, evs_cons, evs_nil, len2, ev_lit, cop_nei, ne_eq, not_true_eq_false, decide_false, ev_cal, ev_idx, ix_0, ix_1, ofO_some, hN.1]
      obtain ⟨pa, po⟩ := p
      cases po with
      | some i2 =>
        simp only [encO, hN.1, ok_bind, truR_bl, Bool.not_true, Bool.false_eq_true, if_false, FT_fl, To_ok, FT_nil]
        refine ⟨_, rfl, trivial, fun q hq => ?_⟩
        rw [List.take_add_one, hp] at hq
        rcases List.mem_append.mp hq with hq | hq
        · exact hI q hq
        · rw [List.mem_singleton.mp hq]; rfl
      | none =>
        simp only [encO, hN.2, ok_bind, truR_bl, Bool.not_false, if_true, FT_fl, To_ok, FT_step, evS_ret, ev_lit, FT_rt]
        refine ⟨⟨false, rfl, fun h => (nomatch h), fun ⟨q, e, _⟩ => ?_⟩, Kp.refl⟩
        have := List.mem_of_getElem? hp
        rw [e] at this
        obtain ⟨u, _, hu⟩ := List.mem_map.mp this
        cases hu
    · obtain ⟨x, rfl, rfl, hI⟩ := hI
      simp only [List.length_map, List.take_length] at hI
      obtain ⟨q, rfl⟩ : ∃ q : Row, r = rr q := by
        refine ⟨r.map fun t => (t.1, t.2.getD 0), ?_⟩
        unfold rr
        rw [List.map_map]
        conv => lhs; rw [← List.map_id r]
        refine List.map_congr_left fun t ht => ?_
        have := hI t ht
        obtain ⟨a, b⟩ := t
        cases b with
        | none => cases this
        | some i => rfl
      have eR : (rr q).map encRP = q.map encP := by unfold rr; rw [List.map_map]; rfl
      have ql : q.length < 1000000 := by unfold rr at hl; rw [List.length_map] at hl; exact hl
      rw [eR]
      have okq : okRR (rr q) ↔ (q.all fun p => decide (p.1 < p.2)) = true ∧ ((q.zip (q.drop 1)).all fun p => decide (p.1.2 < p.2.1)) = true := by
        have cz : Ch Nb q.s ↔ ((q.zip (q.drop 1)).all fun p => decide (p.1.2 < p.2.1)) = true := by
          rw [ch_zip, List.all_eq_true]
          unfold Row.s
          rw [← List.map_drop, List.zip_map]
          constructor
          · intro z p hp
            have := z _ (List.mem_map.mpr ⟨p, hp, rfl⟩)
            rcases this with y | ⟨_, y⟩
            · exact decide_eq_true y
            · exact absurd rfl y
          · intro z p hp
            obtain ⟨u, hu, rfl⟩ := List.mem_map.mp hp
            exact .inl (of_decide_eq_true (z u hu))
        constructor
        · rintro ⟨q', e, o, _⟩
          have : q = q' := map_inj (f := fun q : Int × Int => (q.1, some q.2)) (fun a b z => by injection z with z1 z2; injection z2 with z2; exact Prod.ext z1 z2) e
          subst this
          exact ⟨List.all_eq_true.mpr fun p hp => decide_eq_true (o.ne (p.1, p.2, true) (List.mem_map.mpr ⟨p, hp, rfl⟩)), cz.mp o.ch⟩
        · rintro ⟨z1, z2⟩
          refine ⟨q, rfl, ⟨fun t ht => ?_, fun t ht => ?_, fun _ _ => trivial, cz.mpr z2⟩, fun z => q0 (by rw [z]; rfl)⟩
          · obtain ⟨p, hp, rfl⟩ := List.mem_map.mp ht
            exact of_decide_eq_true (List.all_eq_true.mp z1 p hp)
          · obtain ⟨p, hp, rfl⟩ := List.mem_map.mp ht
            exact fun z => (nomatch z)
      simp only [FT_step, evS_ift, ev_nt, ev_blt, evs_cons, evs_nil, ev_lc, evi_sq, ev_var, List.getElem?_cons_zero, ok_bind, FT_fl, To_bind]
      simp only [To_aft, unlk_tup, unlk_lst, unlk_rng, unlk_zp]
      refine loopC_pure (q.map encP) ((q.map fun p => decide (p.1 < p.2)).map .bl) rfl (by simp) (by simp; omega) (fun i h2 _ _ => rfl) (fun i d v h2 hd hv _ => ?_) (fun h2 hg kp => ?_)
      · rw [List.getElem?_map] at hd hv
        rw [List.getElem?_map] at hv
        obtain ⟨p, hp, rfl⟩ := Option.map_eq_some_iff.mp hd
        rw [hp] at hv
        cases hv
        simp [wip, encP]
        exact Kp.refl
      · have bl : Lil.blt .all [.ref h'.length] h2 = .ok (.bl (q.all fun p => decide (p.1 < p.2))) h2 := by
          unfold Lil.blt
          simp only [hg, allBls_map]
          simp
        simp only [To_ok, bl, truR_bl]
        by_cases a1 : (q.all fun p => decide (p.1 < p.2)) = true
        · rw [a1]
          simp only [Bool.not_true, Bool.false_eq_true, if_false, FT_nil, FT_step, evS_ret, ev_blt, evs_cons, evs_nil, ev_lc, evi_zp, ev_slc, evo_so, evo_no, ev_lit, ev_var, List.getElem?_cons_zero, ok_bind, slcT1, FT_fl, To_bind]
          have zz : ((q.map encP).zip ((q.map encP).drop 1)).map (fun q => DV.tup [q.1, q.2]) = (q.zip (q.drop 1)).map fun p => DV.tup [encP p.1, encP p.2] := by
            rw [← List.map_drop, List.zip_map, List.map_map]; rfl
          simp only [To_aft, unlk_tup, unlk_lst, unlk_rng, unlk_zp]
          refine loopC_pure ((q.zip (q.drop 1)).map fun p => DV.tup [encP p.1, encP p.2]) (((q.zip (q.drop 1)).map fun p => decide (p.1.2 < p.2.1)).map .bl) rfl (by simp) (by rw [List.length_map, List.length_zip]; omega) (fun i h3 _ _ => by rw [← zz]; exact zipT_item _ _ _ _) (fun i d v h3 hd hv _ => ?_) (fun h3 hg3 kp3 => ?_)
          · rw [List.getElem?_map] at hd hv
            rw [List.getElem?_map] at hv
            obtain ⟨p, hp, rfl⟩ := Option.map_eq_some_iff.mp hd
            rw [hp] at hv
            cases hv
            simp [wip, encP]
            exact Kp.refl
          · have bl3 : Lil.blt .all [.ref h2.length] h3 = .ok (.bl ((q.zip (q.drop 1)).all fun p => decide (p.1.2 < p.2.1))) h3 := by
              unfold Lil.blt
              simp only [hg3, allBls_map]
              simp
            simp only [To_ok, bl3, FT_rt]
            exact ⟨⟨_, rfl, by rw [okq, a1]; simp⟩, kp.trans kp3 kp.len⟩
        · rw [Bool.not_eq_true] at a1
          rw [a1]
          simp only [Bool.not_false, if_true, FT_step, evS_ret, ev_lit, FT_fl, To_ok, FT_rt]
          exact ⟨⟨false, rfl, fun h => (nomatch h), fun z => by rw [okq, a1] at z; exact z.1⟩, kp⟩
end Lil
/-! Fn10: are_stretches, is_layer, is_solid. Own work. -/
set_option linter.all false
set_option Elab.async false
set_option maxRecDepth 100000
set_option maxHeartbeats 2000000
namespace Lil
open Sol
theorem are_str {β : Type} [DecidableEq β] {fb : β → DV} {ok P : β → Prop} {F : Nat → List DV → Hd → Res DV} {iN jn : Nat} (hN : NumIs (F iN))
    (hin : ∀ a h, P a → To (F jn [fb a] h) fun v h' => (∃ b, v = .bl b ∧ (b = true ↔ ok a)) ∧ Kp h.length h h')
    (heq : ∀ a b h, ok a → ok b → cop .eq (fb a) (fb b) h = some (decide (a = b))) (s : List (Sg β)) (h : Hd) (hs : ∀ t ∈ s, P t.2.2) (hl : s.length < 1000000) :
    To (runF F (D_are_stretches iN) [encS fb s, .fn jn] h) fun v h' => (∃ b, v = .bl b ∧ (b = true ↔ (∀ t ∈ s, t.1 < t.2.1 ∧ ok t.2.2) ∧ Ch Nb s)) ∧ Kp h.length h h' := by
  refine runF_to rfl ?_
  simp only [B_are_stretches, encS]
  simp only [List.map_cons, List.map_nil, List.cons_append, List.nil_append, List.replicate, Nat.reduceSub, FT_step, evS_ift, ev_nt, ev_isi, ev_var, List.getElem?_cons_zero, ok_bind, isTupW, litB_some, truR_bl, Bool.not_true, Bool.false_eq_true, if_false, FT_fl, To_ok, FT_nil, evS_fo, evi_sq]
  simp only [FT_aft, unlk_tup, unlk_lst, unlk_rng, unlk_zp]
  refine loopF_rule (s.map (encSg fb)) (fun i σ h' => ∃ x y, σ = [some (.tup (s.map (encSg fb))), some (.fn jn), x, y] ∧ Kp h.length h h' ∧ ∀ t ∈ s.take i, t.1 < t.2.1 ∧ ok t.2.2) (fun i s h' _ _ => rfl) (fun i d σ h' hd hI => ?_) (fun σ h' hI => ?_) _ _ _ _ (Nat.zero_le _) (by simp [FUEL]; omega) ⟨none, none, rfl, Kp.refl, fun q hq => by simp at hq⟩
  · obtain ⟨x, y, rfl, kp, hI⟩ := hI
    rw [List.getElem?_map] at hd
    obtain ⟨t, ht, rfl⟩ := Option.map_eq_some_iff.mp hd
    have tm := List.mem_of_getElem? ht
    simp only [bind1_nm, List.set_cons_succ, List.set_cons_zero, FT_step, evS_ift, ev_or, ev_nt, ev_isi, ev_var, List.getElem?_cons_succ, List.getElem?_cons_zero, ok_bind, encSg, isTupW, litB_some, truR_bl, Bool.not_true, Bool.false_eq_true, if_false, ev_cmp, ev_blt, evs_cons, evs_nil, len3, ev_lit, cop_nei, ne_eq, not_true_eq_false, decide_false, ev_cal, ev_idx, ix_0, ix_1, ix_2, ofO_some, hN.1, FT_fl, To_ok, FT_nil, cop_ge, ev_cav]
    by_cases q : t.2.1 ≤ t.1
    · simp only [q, decide_true, if_true, ok_bind, truR_bl, To_ok, FT_step, evS_ret, ev_lit, FT_fl, FT_rt]
      exact ⟨⟨false, rfl, fun h => (nomatch h), fun z => by have := (z.1 t tm).1; omega⟩, kp⟩
    · simp only [q, decide_false, Bool.false_eq_true, if_false, To_bind]
      refine (hin t.2.2 h' (hs t tm)).imp fun v h2 ⟨⟨b, e, hb⟩, k2⟩ => ?_
      subst e
      simp only [truR_bl, To_ok]
      cases b with
      | false =>
        simp only [Bool.not_false, if_true, FT_step, evS_ret, ev_lit, FT_fl, FT_rt, To_ok]
        exact ⟨⟨false, rfl, fun h => (nomatch h), fun z => by have := (z.1 t tm).2; rw [← hb] at this; exact this⟩, kp.trans k2 kp.len⟩
      | true =>
        simp only [Bool.not_true, Bool.false_eq_true, if_false, FT_nil]
        refine ⟨_, _, rfl, kp.trans k2 kp.len, fun u hu => ?_⟩
        rw [List.take_add_one, ht] at hu
        rcases List.mem_append.mp hu with hu | hu
        · exact hI u hu
        · rw [List.mem_singleton.mp hu]; exact ⟨by omega, hb.mp rfl⟩
  · obtain ⟨x, y, rfl, kp, hI⟩ := hI
    simp only [List.length_map, List.take_length] at hI
    simp only [FT_step, evS_fo, evi_zp, ev_slc, evo_so, evo_no, ev_lit, ev_var, List.getElem?_cons_zero, ok_bind, slcT1, FT_fl, To_ok]
    have zz : ((s.map (encSg fb)).zip ((s.map (encSg fb)).drop 1)).map (fun q => DV.tup [q.1, q.2]) = (s.zip (s.drop 1)).map fun p => DV.tup [encSg fb p.1, encSg fb p.2] := by
      rw [← List.map_drop, List.zip_map, List.map_map]; rfl
    simp only [FT_aft, unlk_tup, unlk_lst, unlk_rng, unlk_zp]
    refine loopF_rule ((s.zip (s.drop 1)).map fun p => DV.tup [encSg fb p.1, encSg fb p.2]) (fun i σ h2 => ∃ x y, σ = [some (.tup (s.map (encSg fb))), some (.fn jn), x, y] ∧ h2 = h' ∧ ∀ p ∈ (s.zip (s.drop 1)).take i, Nb p.1 p.2) (fun i s h' _ _ => by rw [← zz]; exact zipT_item _ _ _ _) (fun i d σ h2 hd hJ => ?_) (fun σ h2 hJ => ?_) _ _ _ _ (Nat.zero_le _) (by rw [List.length_map, List.length_zip]; simp only [FUEL]; omega) ⟨x, y, rfl, rfl, fun q hq => by simp at hq⟩
    · obtain ⟨x, y, rfl, rfl, hJ⟩ := hJ
      rw [List.getElem?_map] at hd
      obtain ⟨p, hp, rfl⟩ := Option.map_eq_some_iff.mp hd
      have pm := List.mem_of_getElem? hp
      have p1 := List.of_mem_zip pm
      have e1 := heq p.1.2.2 p.2.2.2 h2 (hI _ p1.1).2 (hI _ (List.mem_of_mem_drop p1.2)).2
      have no : ¬ Nb p.1 p.2 → ¬ ((∀ t ∈ s, t.1 < t.2.1 ∧ ok t.2.2) ∧ Ch Nb s) := fun z ⟨_, y⟩ => z ((ch_zip s).mp y p pm)
      have yes : Nb p.1 p.2 → ∀ q ∈ (s.zip (s.drop 1)).take (i + 1), Nb q.1 q.2 := fun z q hq => by
        rw [List.take_add_one, hp] at hq
        rcases List.mem_append.mp hq with hq | hq
        · exact hJ q hq
        · rw [List.mem_singleton.mp hq]; exact z
      simp only [bind1_tp, bindAll_cons, bindAll_nil, bind1_nm, List.set_cons_succ, List.set_cons_zero, FT_step, evS_ift, ev_or, ev_and, ev_cmp, ev_var, List.getElem?_cons_succ, List.getElem?_cons_zero, ok_bind, encSg, litB_some, truR_bl, ev_lit, ev_idx, ix_0, ix_1, ix_2, ofO_some, cop_gt, cop_eqi, FT_fl]
      by_cases q : p.2.1 < p.1.2.1
      · simp only [q, decide_true, if_true, ok_bind, truR_bl, To_ok, FT_step, evS_ret, ev_lit, FT_fl, FT_rt]
        exact ⟨⟨false, rfl, fun h => (nomatch h), fun z => absurd z (no (by unfold Nb; omega))⟩, kp⟩
      · simp only [q, decide_false, Bool.false_eq_true, if_false]
        by_cases q2 : p.1.2.1 = p.2.1
        · simp only [q2, decide_true, if_true, e1, litB_some, ok_bind, truR_bl, To_ok]
          by_cases q3 : p.1.2.2 = p.2.2.2
          · simp only [q3, decide_true, if_true, FT_step, evS_ret, ev_lit, FT_fl, FT_rt, To_ok]
            exact ⟨⟨false, rfl, fun h => (nomatch h), fun z => absurd z (no (by unfold Nb; rintro (y | ⟨_, y⟩); exact absurd y (by omega); exact y q3))⟩, kp⟩
          · simp only [q3, decide_false, Bool.false_eq_true, if_false, FT_nil]
            exact ⟨_, _, rfl, trivial, yes (.inr ⟨q2, q3⟩)⟩
        · simp only [q2, decide_false, Bool.false_eq_true, if_false, ok_bind, truR_bl, To_ok, FT_nil]
          exact ⟨_, _, rfl, trivial, yes (.inl (by omega))⟩
    · obtain ⟨x, y, rfl, rfl, hJ⟩ := hJ
      simp only [List.length_map, List.take_length] at hJ
      simp only [FT_step, evS_ret, ev_lit, FT_fl, To_ok, FT_rt]
      exact ⟨⟨true, rfl, fun _ => ⟨hI, (ch_zip s).mpr hJ⟩, fun _ => rfl⟩, kp⟩
def sz1 (r : RRow) : Prop := r.length < 1000000
def sz2 (l : RLay) : Prop := l.length < 1000000 ∧ ∀ t ∈ l, sz1 t.2.2
def sz3 (s : RSol) : Prop := s.length < 1000000 ∧ ∀ t ∈ s, sz2 t.2.2
/-- are_stretches at a place -/
def AreAt (f inner : List DV → Hd → Res DV) (jn : Nat) : Prop := ∀ {β : Type} [DecidableEq β] {fb : β → DV} {ok P : β → Prop}, (∀ a h, P a → To (inner [fb a] h) fun v h' => (∃ b, v = .bl b ∧ (b = true ↔ ok a)) ∧ Kp h.length h h') →
  (∀ a b h, ok a → ok b → cop .eq (fb a) (fb b) h = some (decide (a = b))) → ∀ (s : List (Sg β)) (h : Hd), (∀ t ∈ s, P t.2.2) → s.length < 1000000 →
  To (f [encS fb s, .fn jn] h) fun v h' => (∃ b, v = .bl b ∧ (b = true ↔ (∀ t ∈ s, t.1 < t.2.1 ∧ ok t.2.2) ∧ Ch Nb s)) ∧ Kp h.length h h'
theorem are_at {F : Nat → List DV → Hd → Res DV} {iN jn : Nat} (hN : NumIs (F iN)) : AreAt (runF F (D_are_stretches iN)) (F jn) jn := fun hin heq s h hs hl => are_str hN hin heq s h hs hl
theorem rr_inj {a b : Row} (e : rr a = rr b) : a = b := map_inj (f := fun q : Int × Int => (q.1, some q.2)) (fun a b z => by injection z with z1 z2; injection z2 with z2; exact Prod.ext z1 z2) e
theorem eq_RR (a b : RRow) (h : Hd) (oa : okRR a) (ob : okRR b) : cop .eq (encRR a) (encRR b) h = some (decide (a = b)) := by
  obtain ⟨p, rfl, _⟩ := oa
  obtain ⟨q, rfl, _⟩ := ob
  rw [enc_rr, enc_rr]
  exact cop_eqd (idt_mono (idt_row p) (by decide)) (idt_mono (idt_row q) (by decide)) ⟨fun z => by rw [encRow_inj z], fun z => by rw [rr_inj z]⟩
theorem okRL_lay {l : RLay} (h : okRL l) : ∃ q : Layer, l = rl q ∧ okLayer q ∧ q ≠ [] := by
  obtain ⟨h1, h2, h3⟩ := h
  have : ∃ q : Layer, l = rl q ∧ ∀ t ∈ q, okRow t.2.2 ∧ t.2.2 ≠ [] := by
    clear h1 h3
    induction l with
    | nil => exact ⟨[], rfl, fun _ h => (nomatch h)⟩
    | cons t l ih =>
      obtain ⟨q, e, hq⟩ := ih fun t ht => h2 t (.tail _ ht)
      obtain ⟨r, er, o, ne⟩ := (h2 t (.head _)).2
      refine ⟨(t.1, t.2.1, r) :: q, ?_, fun u hu => ?_⟩
      · rw [e]
        show t :: rl q = (t.1, t.2.1, rr r) :: rl q
        rw [← er]
      · cases hu with
        | head => exact ⟨o, ne⟩
        | tail _ hu => exact hq u hu
  obtain ⟨q, rfl, hq⟩ := this
  refine ⟨q, rfl, ⟨fun t ht => (h2 (t.1, t.2.1, rr t.2.2) (List.mem_map.mpr ⟨t, ht, rfl⟩)).1, fun t ht => (hq t ht).2, fun t ht => (hq t ht).1, ?_⟩, fun z => h1 (by rw [z]; rfl)⟩
  rw [ch_zip] at h3 ⊢
  intro p hp
  have := h3 ((p.1.1, p.1.2.1, rr p.1.2.2), (p.2.1, p.2.2.1, rr p.2.2.2)) (by
    unfold rl
    rw [← List.map_drop, List.zip_map]
    exact List.mem_map.mpr ⟨p, hp, rfl⟩)
  rcases this with y | ⟨y, z⟩
  · exact .inl y
  · exact .inr ⟨y, fun w => z (by rw [w])⟩
theorem lay_okRL {q : Layer} (h : okLayer q) (hne : q ≠ []) : okRL (rl q) := by
  refine ⟨fun z => hne (List.map_eq_nil_iff.mp z), fun t ht => ?_, ?_⟩
  · obtain ⟨u, hu, rfl⟩ := List.mem_map.mp ht
    exact ⟨h.ne u hu, u.2.2, rfl, h.ok u hu, h.nz u hu⟩
  · rw [ch_zip]
    intro p hp
    unfold rl at hp
    rw [← List.map_drop, List.zip_map] at hp
    obtain ⟨u, hu, rfl⟩ := List.mem_map.mp hp
    rcases (ch_zip q).mp h.ch u hu with y | ⟨y, z⟩
    · exact .inl y
    · exact .inr ⟨y, fun w => z (rr_inj w)⟩
theorem rl_inj {a b : Layer} (e : rl a = rl b) : a = b := map_inj (f := fun t : Sg Row => (t.1, t.2.1, rr t.2.2)) (fun a b z => by
  injection z with z1 z2
  injection z2 with z2 z3
  exact Prod.ext z1 (Prod.ext z2 (rr_inj z3))) e
theorem rsl_inj {a b : Solid} (e : rsl a = rsl b) : a = b := map_inj (f := fun t : Sg Layer => (t.1, t.2.1, rl t.2.2)) (fun a b z => by
  injection z with z1 z2
  injection z2 with z2 z3
  exact Prod.ext z1 (Prod.ext z2 (rl_inj z3))) e
theorem eq_RL (a b : RLay) (h : Hd) (oa : okRL a) (ob : okRL b) : cop .eq (encRL a) (encRL b) h = some (decide (a = b)) := by
  obtain ⟨p, rfl, _⟩ := okRL_lay oa
  obtain ⟨q, rfl, _⟩ := okRL_lay ob
  rw [enc_rl, enc_rl]
  exact cop_eqd (idt_mono (idt_lay p) (by decide)) (idt_mono (idt_lay q) (by decide)) ⟨fun z => by rw [encLay_inj z], fun z => by rw [rl_inj z]⟩
/-- is_solid says of what is laid as a solid whether it is one -/
theorem okRS_iff {s : RSol} : okRS s ↔ ∃ q : Solid, s = rsl q ∧ okSolid q := by
  constructor
  · rintro ⟨h2, h3⟩
    have : ∃ q : Solid, s = rsl q ∧ ∀ t ∈ q, okLayer t.2.2 ∧ t.2.2 ≠ [] := by
      clear h3
      induction s with
      | nil => exact ⟨[], rfl, fun _ h => (nomatch h)⟩
      | cons t l ih =>
        obtain ⟨q, e, hq⟩ := ih fun t ht => h2 t (.tail _ ht)
        obtain ⟨r, er, o, ne⟩ := okRL_lay (h2 t (.head _)).2
        refine ⟨(t.1, t.2.1, r) :: q, ?_, fun u hu => ?_⟩
        · rw [e]
          show t :: rsl q = (t.1, t.2.1, rl r) :: rsl q
          rw [← er]
        · cases hu with
          | head => exact ⟨o, ne⟩
          | tail _ hu => exact hq u hu
    obtain ⟨q, rfl, hq⟩ := this
    refine ⟨q, rfl, ⟨fun t ht => (h2 (t.1, t.2.1, rl t.2.2) (List.mem_map.mpr ⟨t, ht, rfl⟩)).1, fun t ht => (hq t ht).2, fun t ht => (hq t ht).1, ?_⟩⟩
    rw [ch_zip] at h3 ⊢
    intro p hp
    have := h3 ((p.1.1, p.1.2.1, rl p.1.2.2), (p.2.1, p.2.2.1, rl p.2.2.2)) (by
      unfold rsl
      rw [← List.map_drop, List.zip_map]
      exact List.mem_map.mpr ⟨p, hp, rfl⟩)
    rcases this with y | ⟨y, z⟩
    · exact .inl y
    · exact .inr ⟨y, fun w => z (by rw [w])⟩
  · rintro ⟨q, rfl, h⟩
    refine ⟨fun t ht => ?_, ?_⟩
    · obtain ⟨u, hu, rfl⟩ := List.mem_map.mp ht
      exact ⟨h.ne u hu, lay_okRL (h.ok u hu) (h.nz u hu)⟩
    · rw [ch_zip]
      intro p hp
      unfold rsl at hp
      rw [← List.map_drop, List.zip_map] at hp
      obtain ⟨u, hu, rfl⟩ := List.mem_map.mp hp
      rcases (ch_zip q).mp h.ch u hu with y | ⟨y, z⟩
      · exact .inl y
      · exact .inr ⟨y, fun w => z (rl_inj w)⟩
def LayIs (f : List DV → Hd → Res DV) : Prop := ∀ (l : RLay) (h : Hd), sz2 l → To (f [encRL l] h) fun v h' => (∃ b, v = .bl b ∧ (b = true ↔ okRL l)) ∧ Kp h.length h h'
def SolIs (f : List DV → Hd → Res DV) : Prop := ∀ (l : RSol) (h : Hd), sz3 l → To (f [encRS l] h) fun v h' => (∃ b, v = .bl b ∧ (b = true ↔ okRS l)) ∧ Kp h.length h h'
theorem layer_is {F : Nat → List DV → Hd → Res DV} {inner : List DV → Hd → Res DV} {iR iA : Nat} (hA : AreAt (F iA) inner iR) (hR : RowIs inner) : LayIs (runF F (D_is_layer iR iA)) := by
  intro l h hs
  refine runF_to rfl ?_
  have d1 : cop .ne (encRL l) (.tup []) h = some (!decide (l = [])) := by
    show (eqO h DEEP (.tup (l.map (encSg encRR))) (.tup [])).map (!·) = _
    rw [eq_nilt (isDat_S (n := 37) (fun b => isDat_row b 35 h) l)]
    simp
  simp only [B_is_layer]
  simp only [List.map_cons, List.map_nil, List.cons_append, List.nil_append, List.replicate, Nat.reduceSub, FT_step, evS_ret, ev_and, ev_cmp, ev_tup, evs_nil, mkTup, List.length_nil, Nat.zero_le, if_true, ev_var, List.getElem?_cons_zero, ok_bind, d1, litB_some, truR_bl]
  by_cases q : l = []
  · simp only [q, decide_true, Bool.not_true, Bool.false_eq_true, if_false, FT_fl, To_ok, FT_rt]
    exact ⟨⟨false, rfl, fun h => (nomatch h), fun z => absurd rfl z.1⟩, Kp.refl⟩
  · simp only [q, decide_false, Bool.not_false, if_true, ev_cal, evs_cons, evs_nil, ev_var, ev_lit, List.getElem?_cons_zero, ok_bind, FT_fl]
    refine (hA (fb := encRR) (ok := okRR) (P := sz1) (fun a h ha => hR a h ha) eq_RR l h hs.2 hs.1).imp fun v h' ⟨⟨b, e, hb⟩, kp⟩ => ?_
    exact ⟨⟨b, e, hb.trans ⟨fun z => ⟨q, z⟩, fun z => z.2⟩⟩, kp⟩
theorem solid_is {F : Nat → List DV → Hd → Res DV} {inner : List DV → Hd → Res DV} {iA iL : Nat} (hA : AreAt (F iA) inner iL) (hL : LayIs inner) : SolIs (runF F (D_is_solid iA iL)) := by
  intro l h hs
  refine runF_to rfl ?_
  simp only [B_is_solid]
  simp only [List.map_cons, List.map_nil, List.cons_append, List.nil_append, List.replicate, Nat.reduceSub, FT_step, evS_ret, ev_cal, evs_cons, evs_nil, ev_var, ev_lit, List.getElem?_cons_zero, ok_bind, FT_fl]
  exact hA (fb := encRL) (ok := okRL) (P := sz2) (fun a h ha => hL a h ha) eq_RL l h hs.2 hs.1
/-- what is no tuple is no solid -/
def NoSol (f : List DV → Hd → Res DV) : Prop := ∀ (x : DV) (h : Hd), isTyH h .tuple x = some false → f [x] h = .ok (.bl false) h
theorem no_are {F : Nat → List DV → Hd → Res DV} {iN : Nat} {x y : DV} {h : Hd} (e : isTyH h .tuple x = some false) : runF F (D_are_stretches iN) [x, y] h = .ok (.bl false) h := by
  refine To.eq (runF_to rfl ?_)
  simp only [B_are_stretches]
  simp [e]
theorem no_sol {F G : Nat → List DV → Hd → Res DV} {iA iL iN : Nat} (hF : F iA = runF G (D_are_stretches iN)) : NoSol (runF F (D_is_solid iA iL)) := by
  intro x h e
  refine To.eq (runF_to rfl ?_)
  simp only [B_is_solid]
  simp [hF, no_are e]
end Lil
/-! Bod5: bodies of k05 alone. Written by gen.py. -/
set_option linter.all false
set_option Elab.async false
namespace Lil
/-- _law_bent: 0 _law_draw_here, 1 _law_solid_here, 2 _law_at, 3 _law_z0, 4 _law_z1, 5 _law_layer, 6 _law_place, 7 _law_y0, 8 _law_y1, 9 _law_row, 10 _law_kind -/
def B__law_bent (i__law_next : Nat) : Ss := (.cons (.asg (.pt (.nm 2)) (.cal i__law_next (.cons (.var 0) (.cons (.blt .len (.cons (.var 1) .nil)) .nil)))) (.cons (.asg (.tp (.cons (.pt (.nm 3)) (.cons (.pt (.nm 4)) (.cons (.pt (.nm 5)) .nil)))) (.idx (.var 1) (.var 2))) (.cons (.asg (.pt (.nm 6)) (.cal i__law_next (.cons (.var 0) (.cons (.blt .len (.cons (.var 5) .nil)) .nil)))) (.cons (.asg (.tp (.cons (.pt (.nm 7)) (.cons (.pt (.nm 8)) (.cons (.pt (.nm 9)) .nil)))) (.idx (.var 5) (.var 6))) (.cons (.asg (.pt (.nm 10)) (.cal i__law_next (.cons (.var 0) (.cons (.lit (.int (11))) .nil)))) (.cons (.ift (.cmp .eq (.var 10) (.lit (.int (0)))) (.cons (.ret (.bin .add (.slc (.var 1) .no (.so (.var 2))) (.slc (.var 1) (.so (.bin .add (.var 2) (.lit (.int (1))))) .no))) .nil) .nil) (.cons (.ift (.cmp .eq (.var 10) (.lit (.int (1)))) (.cons (.ret (.rev (.var 1))) .nil) .nil) (.cons (.ift (.cmp .eq (.var 10) (.lit (.int (2)))) (.cons (.ret (.bin .add (.bin .add (.slc (.var 1) .no (.so (.var 2))) (.tup (.cons (.tup (.cons (.var 3) (.cons (.bin .add (.var 4) (.lit (.int (1)))) (.cons (.var 5) .nil)))) .nil))) (.slc (.var 1) (.so (.bin .add (.var 2) (.lit (.int (1))))) .no))) .nil) .nil) (.cons (.ift (.cmp .eq (.var 10) (.lit (.int (3)))) (.cons (.ret (.blt .list (.cons (.var 1) .nil))) .nil) .nil) (.cons (.ift (.cmp .eq (.var 10) (.lit (.int (4)))) (.cons (.ret (.bin .add (.bin .add (.slc (.var 1) .no (.so (.var 2))) (.tup (.cons (.tup (.cons (.var 3) (.cons (.var 4) (.cons (.tup .nil) .nil)))) .nil))) (.slc (.var 1) (.so (.bin .add (.var 2) (.lit (.int (1))))) .no))) .nil) .nil) (.cons (.ift (.cmp .eq (.var 10) (.lit (.int (5)))) (.cons (.ret (.bin .add (.bin .add (.slc (.var 1) .no (.so (.var 2))) (.tup (.cons (.tup (.cons (.var 4) (.cons (.var 3) (.cons (.var 5) .nil)))) .nil))) (.slc (.var 1) (.so (.bin .add (.var 2) (.lit (.int (1))))) .no))) .nil) .nil) (.cons (.ift (.cmp .eq (.var 10) (.lit (.int (6)))) (.cons (.asg (.pt (.nm 9)) (.bin .add (.var 9) (.tup (.cons (.tup (.cons (.idx (.idx (.var 9) (.neg (.lit (.int (1))))) (.lit (.int (1)))) (.cons (.bin .add (.idx (.idx (.var 9) (.neg (.lit (.int (1))))) (.lit (.int (1)))) (.lit (.int (1)))) .nil))) .nil)))) .nil) (.cons (.ift (.cmp .eq (.var 10) (.lit (.int (7)))) (.cons (.asg (.pt (.nm 9)) (.bin .add (.tup (.cons (.tup (.cons (.idx (.idx (.var 9) (.lit (.int (0)))) (.lit (.int (0)))) (.cons (.lit (.bl true)) .nil))) .nil)) (.slc (.var 9) (.so (.lit (.int (1)))) .no))) .nil) (.cons (.ift (.cmp .eq (.var 10) (.lit (.int (8)))) (.cons (.asg (.pt (.nm 9)) (.rev (.var 9))) .nil) (.cons (.ift (.cmp .eq (.var 10) (.lit (.int (9)))) (.cons (.asg (.pt (.nm 8)) (.bin .add (.var 8) (.lit (.int (1))))) .nil) (.cons (.asg (.pt (.nm 9)) (.tup .nil)) .nil)) .nil)) .nil)) .nil)) (.cons (.ret (.bin .add (.bin .add (.slc (.var 1) .no (.so (.var 2))) (.tup (.cons (.tup (.cons (.var 3) (.cons (.var 4) (.cons (.bin .add (.bin .add (.slc (.var 5) .no (.so (.var 6))) (.tup (.cons (.tup (.cons (.var 7) (.cons (.var 8) (.cons (.var 9) .nil)))) .nil))) (.slc (.var 5) (.so (.bin .add (.var 6) (.lit (.int (1))))) .no)) .nil)))) .nil))) (.slc (.var 1) (.so (.bin .add (.var 2) (.lit (.int (1))))) .no))) .nil)))))))))))))
def D__law_bent (i__law_next : Nat) : FD := ⟨2, 11, B__law_bent i__law_next⟩
/-- _law_is_plain: 0 _law_thing, 1 _law_one, 2 _law_two, 3 _law_pair -/
def B__law_is_plain : Ss := (.cons (.ift (.nt (.isi (.var 0) .tuple)) (.cons (.ret (.lit (.bl false))) .nil) .nil) (.cons (.fo (.nm 1) (.sq (.var 0)) (.cons (.ift (.or (.nt (.isi (.var 1) .tuple)) (.or (.cmp .ne (.blt .len (.cons (.var 1) .nil)) (.lit (.int (3)))) (.or (.nt (.isi (.idx (.var 1) (.lit (.int (2)))) .tuple)) (.cmp .ge (.idx (.var 1) (.lit (.int (0)))) (.idx (.var 1) (.lit (.int (1)))))))) (.cons (.ret (.lit (.bl false))) .nil) .nil) (.cons (.fo (.nm 2) (.sq (.idx (.var 1) (.lit (.int (2))))) (.cons (.ift (.or (.nt (.isi (.var 2) .tuple)) (.or (.cmp .ne (.blt .len (.cons (.var 2) .nil)) (.lit (.int (3)))) (.or (.nt (.isi (.idx (.var 2) (.lit (.int (2)))) .tuple)) (.cmp .ge (.idx (.var 2) (.lit (.int (0)))) (.idx (.var 2) (.lit (.int (1)))))))) (.cons (.ret (.lit (.bl false))) .nil) .nil) (.cons (.fo (.nm 3) (.sq (.idx (.var 2) (.lit (.int (2))))) (.cons (.ift (.or (.isi (.idx (.var 3) (.lit (.int (0)))) .bool) (.or (.isi (.idx (.var 3) (.lit (.int (1)))) .bool) (.cmp .ge (.idx (.var 3) (.lit (.int (0)))) (.idx (.var 3) (.lit (.int (1))))))) (.cons (.ret (.lit (.bl false))) .nil) .nil) .nil)) .nil))) .nil))) (.cons (.ret (.lit (.bl true))) .nil)))
def D__law_is_plain : FD := ⟨1, 4, B__law_is_plain⟩
/-- _law_inside: 0 _law_thing, 1 _law_found, 2 _law_z0, 3 _law_z1, 4 _law_layer, 5 _law_y0, 6 _law_y1, 7 _law_row, 8 _law_x0, 9 _law_x1 -/
def B__law_inside : Ss := (.cons (.asg (.pt (.nm 1)) (.lst .nil)) (.cons (.fo (.tp (.cons (.nm 2) (.cons (.nm 3) (.cons (.nm 4) .nil)))) (.sq (.var 0)) (.cons (.fo (.tp (.cons (.nm 5) (.cons (.nm 6) (.cons (.nm 7) .nil)))) (.sq (.var 4)) (.cons (.asg (.pt (.nm 1)) (.bin .add (.var 1) (.lc (.tup (.cons (.tup (.cons (.var 8) (.cons (.var 5) (.cons (.var 2) .nil)))) (.cons (.tup (.cons (.var 9) (.cons (.var 6) (.cons (.var 3) .nil)))) .nil))) (.tp (.cons (.nm 8) (.cons (.nm 9) .nil))) (.sq (.var 7)) .no [8, 9]))) .nil)) .nil)) (.cons (.ret (.var 1)) .nil)))
def D__law_inside : FD := ⟨1, 10, B__law_inside⟩
/-- law: 0 _law_script, 1 _law_draw_here, 2 _law_boxes_here, 3 _law_solid_here, 4 _law_turn, 5 _law_late, 6 _law_due -/
def B_law (i_is_solid i__law_boxes i__law_solid i__law_bent i__law_is_plain i__law_inside : Nat) : Ss := (.cons (.asg (.pt (.nm 1)) (.lst (.cons (.slc (.var 0) .no (.so (.lit (.int (63))))) (.cons (.lit (.int (0))) (.cons (.lit (.int (0))) .nil))))) (.cons (.asg (.pt (.nm 2)) (.cal i__law_boxes (.cons (.var 1) (.cons (.lit (.int (5))) (.cons (.lit (.int (5))) .nil))))) (.cons (.asg (.pt (.nm 3)) (.cal i__law_solid (.cons (.var 2) .nil))) (.cons (.ift (.or (.nt (.cal i_is_solid (.cons (.var 3) .nil))) (.or (.nt (.cal i_is_solid (.cons (.tup .nil) .nil))) (.or (.cal i_is_solid (.cons (.lit .non) .nil)) (.or (.cal i_is_solid (.cons (.lit (.int (3))) .nil)) (.or (.cal i_is_solid (.cons (.lst .nil) .nil)) (.cal i_is_solid (.cons (.tup (.cons (.tup (.cons (.lit (.int (0))) (.cons (.lit (.int (1))) (.cons (.tup .nil) .nil)))) .nil)) .nil))))))) (.cons (.ret (.lit (.bl false))) .nil) .nil) (.cons (.ift (.cmp .eq (.var 3) (.tup .nil)) (.cons (.ret (.lit (.bl true))) .nil) .nil) (.cons (.fo (.nm 4) (.r1 (.lit (.int (6)))) (.cons (.asg (.pt (.nm 5)) (.cal i__law_bent (.cons (.var 1) (.cons (.var 3) .nil)))) (.cons (.asg (.pt (.nm 6)) (.and (.cal i__law_is_plain (.cons (.var 5) .nil)) (.cmp .eq (.cal i__law_solid (.cons (.cal i__law_inside (.cons (.var 5) .nil)) .nil)) (.var 5)))) (.cons (.ift (.cmp .ne (.cal i_is_solid (.cons (.var 5) .nil)) (.var 6)) (.cons (.ret (.lit (.bl false))) .nil) .nil) .nil)))) (.cons (.ret (.lit (.bl true))) .nil)))))))
def D_law (i_is_solid i__law_boxes i__law_solid i__law_bent i__law_is_plain i__law_inside : Nat) : FD := ⟨1, 7, B_law i_is_solid i__law_boxes i__law_solid i__law_bent i__law_is_plain i__law_inside⟩
end Lil
/-! Fn11: _law_bent. Own work. -/
set_option linter.all false
set_option Elab.async false
set_option maxRecDepth 100000
set_option maxHeartbeats 4000000
namespace Lil
open Sol
def R0 (x : Int) : Prop := -1 ≤ x ∧ x ≤ 6
def R1 (x : Int) : Prop := -1 ≤ x ∧ x ≤ 7
def GP (p : Int × Option Int) : Prop := R1 p.1 ∧ ∀ b, p.2 = some b → R1 b
def GR (r : RRow) : Prop := r.length ≤ 9 ∧ ∀ p ∈ r, GP p
def GU (u : Sg RRow) : Prop := R1 u.1 ∧ R1 u.2.1 ∧ GR u.2.2
def GL (l : RLay) : Prop := l.length ≤ 9 ∧ ∀ u ∈ l, GU u
def GS (t : Sg RLay) : Prop := R1 t.1 ∧ R1 t.2.1 ∧ GL t.2.2
def GX (X : RSol) : Prop := X.length ≤ 9 ∧ ∀ t ∈ X, GS t
theorem bop_tup {a b : List DV} {h : Hd} (q : a.length + b.length ≤ LN) : Lil.bop .add (.tup a) (.tup b) h = .ok (.tup (a ++ b)) h := by
  show mkTup (a ++ b) h = _
  unfold mkTup
  rw [if_pos (by rw [List.length_append]; exact q)]
theorem slc_to {xs : List DV} {k : Nat} {h : Hd} : slice (.tup xs) none (some (k : Int)) h = .ok (.tup (xs.take k)) h := by
  show Res.ok (DV.tup (cut xs none (some (k : Int)))) h = _
  unfold cut
  have : six xs.length xs.length (some (k : Int)) = min k xs.length := by
    show (if (k : Int) < 0 then ((k : Int) + (xs.length : Int)).toNat else min (k : Int).toNat xs.length) = _
    rw [if_neg (by omega)]; rfl
  rw [this]
  show Res.ok (DV.tup ((xs.drop 0).take (min k xs.length - 0))) h = _
  rw [List.drop_zero, Nat.sub_zero]
  congr 2
  by_cases q : k ≤ xs.length
  · rw [Nat.min_eq_left q]
  · rw [Nat.min_eq_right (by omega), List.take_length, List.take_of_length_le (by omega)]
theorem slc_from {xs : List DV} {k : Nat} {h : Hd} : slice (.tup xs) (some ((k : Int) + 1)) none h = .ok (.tup (xs.drop (k + 1))) h := by
  show Res.ok (DV.tup (cut xs (some ((k : Int) + 1)) none)) h = _
  unfold cut
  have : six xs.length 0 (some ((k : Int) + 1)) = min (k + 1) xs.length := by
    show (if (k : Int) + 1 < 0 then ((k : Int) + 1 + (xs.length : Int)).toNat else min ((k : Int) + 1).toNat xs.length) = _
    rw [if_neg (by omega)]; rfl
  rw [this]
  show Res.ok (DV.tup ((xs.drop (min (k + 1) xs.length)).take (xs.length - min (k + 1) xs.length))) h = _
  congr 2
  rw [List.take_of_length_le (by rw [List.length_drop]; exact Nat.le_refl _)]
  by_cases q : k + 1 ≤ xs.length
  · rw [Nat.min_eq_left q]
  · rw [Nat.min_eq_right (by omega), List.drop_eq_nil_of_le (Nat.le_refl _), List.drop_eq_nil_of_le (by omega)]
theorem ix_lastT {xs : List DV} {x : DV} {h : Hd} : index (.tup (xs ++ [x])) (.int (-1)) h = some x := by
  show (ixn (xs ++ [x]).length (-1)).bind (fun j => (xs ++ [x])[j]?) = some x
  have : ixn (xs ++ [x]).length (-1) = some xs.length := by
    unfold ixn
    rw [List.length_append, List.length_singleton, if_neg (by decide), if_pos (by omega)]
    congr 1
    omega
  rw [this]
  simp
theorem rev_tup {F : Nat → List DV → Hd → Res DV} {s : Sl} {h : Hd} {i : Nat} {xs : List DV} (e : s[i]? = some (some (.tup xs))) : ev F (.rev (.var i)) s h = .ok (.tup xs.reverse) h := by
  simp [e]
/-- one of them put in place of another -/
def put {β : Type} (l : List β) (k : Nat) (x : List β) : List β := l.take k ++ x ++ l.drop (k + 1)
theorem put_len {β : Type} {l : List β} {k : Nat} {x : List β} (hk : k < l.length) (hx : x.length ≤ 1) : (put l k x).length ≤ l.length := by
  unfold put
  rw [List.length_append, List.length_append, List.length_take, List.length_drop]
  omega
theorem put_mem {β : Type} {l : List β} {k : Nat} {x : List β} {y : β} (h : y ∈ put l k x) : y ∈ l ∨ y ∈ x := by
  unfold put at h
  rcases List.mem_append.mp h with h | h
  · rcases List.mem_append.mp h with h | h
    · exact .inl (List.mem_of_mem_take h)
    · exact .inr h
  · exact .inl (List.mem_of_mem_drop h)
theorem put_map {β γ : Type} {f : β → γ} {l : List β} {k : Nat} {x : List β} : (l.map f).take k ++ x.map f ++ (l.map f).drop (k + 1) = (put l k x).map f := by
  unfold put
  rw [List.map_append, List.map_append, List.map_take, List.map_drop]
def BentOk (f : List DV → Hd → Res DV) : Prop := ∀ (m : Nat) (X : RSol) (h : Hd), Dw m h → (X.length ≤ 8 ∧ ∀ t ∈ X, R0 t.1 ∧ R0 t.2.1 ∧ t.2.2.length ≤ 8 ∧ t.2.2 ≠ [] ∧ ∀ u ∈ t.2.2, R0 u.1 ∧ R0 u.2.1 ∧ u.2.2.length ≤ 8 ∧ u.2.2 ≠ [] ∧ ∀ p ∈ u.2.2, R0 p.1 ∧ ∃ b, p.2 = some b ∧ R0 b) → X ≠ [] →
  To (f [.ref m, encRS X] h) fun v h' => Kd m h.length h h' ∧ ((∃ (n : Nat) (xs : List DV), v = .ref n ∧ h'[n]? = some (.lst xs)) ∨ ∃ Y, v = encRS Y ∧ GX Y)
theorem R0.up {x : Int} (h : R0 x) : R1 x ∧ R1 (x + 1) := ⟨⟨h.1, by have := h.2; omega⟩, by have := h.1; omega, by have := h.2; omega⟩
theorem bent_fn {F : Nat → List DV → Hd → Res DV} {iN : Nat} (hN : NextOk (F iN)) : BentOk (runF F (D__law_bent iN)) := by
  intro m X h dw ⟨gl, gx⟩ hne
  obtain ⟨Q, eQ⟩ : ∃ Q : DV → Hd → Prop, ∀ v h', Q v h' ↔ (Kd m h.length h h' ∧ ((∃ (n : Nat) (xs : List DV), v = .ref n ∧ h'[n]? = some (.lst xs)) ∨ ∃ Y, v = encRS Y ∧ GX Y)) := ⟨_, fun _ _ => Iff.rfl⟩
  refine To.imp (Q := Q) ?_ fun v h' q => (eQ v h').mp q
  refine runF_to rfl ?_
  have gX : GX X := ⟨by omega, fun t ht => by
    obtain ⟨a1, a2, a3, _, a4⟩ := gx t ht
    refine ⟨a1.up.1, a2.up.1, by omega, fun u hu => ?_⟩
    obtain ⟨b1, b2, b3, _, b4⟩ := a4 u hu
    refine ⟨b1.up.1, b2.up.1, by omega, fun p hp => ?_⟩
    obtain ⟨c1, b, c2, c3⟩ := b4 p hp
    exact ⟨c1.up.1, fun b' hb => by rw [c2] at hb; cases hb; exact c3.up.1⟩⟩
  have hX0 : 0 < X.length := List.length_pos_iff.mpr hne
  simp only [B__law_bent, encRS, encS]
  simp only [List.map_cons, List.map_nil, List.cons_append, List.nil_append, List.replicate, Nat.reduceSub, FT_step, evS_asg, ev_cal, evs_cons, evs_nil, ev_var, List.getElem?_cons_zero, List.getElem?_cons_succ, ok_bind, ev_blt, len_tup, FT_fl]
  refine (hN m _ h dw (by rw [List.length_map]; omega)).imp fun v h1 ⟨⟨l1, k1⟩, kI, e, k0, kl⟩ => ?_
  subst e
  rw [List.length_map] at kl
  obtain ⟨k, rfl⟩ := Int.eq_ofNat_of_zero_le k0
  have hk : k < X.length := by omega
  have ht : X[k]? = some X[k] := List.getElem?_eq_getElem hk
  generalize X[k] = t at ht
  have tm := List.mem_of_getElem? ht
  obtain ⟨z0, z1, lay⟩ := t
  obtain ⟨a1, a2, a3, a5, a4⟩ := gx _ tm
  dsimp only at a1 a2 a3 a4 a5
  have GSt := gX.2 _ tm
  have ix1 : ∀ h, index (.tup (X.map (encSg encRL))) (.int k) h = some (encSg encRL (z0, z1, lay)) := fun h => ix_at (by rw [List.getElem?_map, ht]; rfl)
  have hl0 : 0 < lay.length := List.length_pos_iff.mpr a5
  simp only [asg_nm, To_ok, FT_nx, List.set_cons_succ, List.set_cons_zero, FT_step, evS_asg, ev_idx, ev_var, List.getElem?_cons_zero, List.getElem?_cons_succ, ok_bind, ix1, ofO_some, FT_fl, encSg, asg_tp, asgs_cons, asgs_nil, To_bind, ev_cal, evs_cons, evs_nil, ev_blt, encRL, encS, len_tup]
  refine (hN m _ h1 k1.dw (by rw [List.length_map]; omega)).imp fun v h2 ⟨⟨l2, k2⟩, jI, e, j0, jl⟩ => ?_
  subst e
  rw [List.length_map] at jl
  obtain ⟨j, rfl⟩ := Int.eq_ofNat_of_zero_le j0
  have hj : j < lay.length := by omega
  have hu : lay[j]? = some lay[j] := List.getElem?_eq_getElem hj
  generalize lay[j] = u at hu
  have um := List.mem_of_getElem? hu
  obtain ⟨y0, y1, row⟩ := u
  obtain ⟨b1, b2, b3, b5, b4⟩ := a4 _ um
  dsimp only at b1 b2 b3 b4 b5
  have GUu := GSt.2.2.2 _ um
  have ix2 : ∀ h, index (.tup (lay.map (encSg encRR))) (.int j) h = some (encSg encRR (y0, y1, row)) := fun h => ix_at (by rw [List.getElem?_map, hu]; rfl)
  simp only [asg_nm, To_ok, FT_nx, List.set_cons_succ, List.set_cons_zero, FT_step, evS_asg, ev_idx, ev_var, ev_lit, List.getElem?_cons_zero, List.getElem?_cons_succ, ok_bind, ix2, ofO_some, FT_fl, encSg, asg_tp, asgs_cons, asgs_nil, To_bind, ev_cal, evs_cons, evs_nil]
  refine (hN m 11 h2 k2.dw (by decide)).imp fun v h3 ⟨⟨l3, k3⟩, kd, e, d0, d1⟩ => ?_
  subst e
  have kk : Kd m h.length h h3 := (k1.trans k2 (by omega)).trans k3 (by omega)
  clear k1 k2 k3 hN
  have bad : ∀ {P : Prop}, (0 : Nat) = 1 → P := fun z => (nomatch z)
  -- the ends of all the roads
  have fin : ∀ (Y : RSol), GX Y → Q (.tup (Y.map (encSg encRL))) h3 := fun Y g => (eQ ..).mpr ⟨kk, .inr ⟨Y, rfl, g⟩⟩
  have gput : ∀ (x : List (Sg RLay)), x.length ≤ 1 → (∀ t ∈ x, GS t) → GX (put X k x) := fun x h1 h2 => ⟨by have := put_len hk h1; omega, fun t ht => (put_mem ht).elim (gX.2 t) (h2 t)⟩
  have gputL : ∀ (x : List (Sg RRow)), x.length ≤ 1 → (∀ t ∈ x, GU t) → GL (put lay j x) := fun x h1 h2 => ⟨by have := put_len hj h1; omega, fun t ht => (put_mem ht).elim (GSt.2.2.2 t) (h2 t)⟩
  have lenX : ∀ (a b : List DV), a.length ≤ 20 → b.length ≤ 20 → a.length + b.length ≤ LN := fun a b h1 h2 => by simp only [LN]; omega
  have t1 : ((X.map (encSg encRL)).take k).length ≤ 9 := by rw [List.length_take, List.length_map]; omega
  have t2 : ((X.map (encSg encRL)).drop (k + 1)).length ≤ 9 := by rw [List.length_drop, List.length_map]; omega
  have t3 : ((lay.map (encSg encRR)).take j).length ≤ 9 := by rw [List.length_take, List.length_map]; omega
  have t4 : ((lay.map (encSg encRR)).drop (j + 1)).length ≤ 9 := by rw [List.length_drop, List.length_map]; omega
  -- X with another stretch at k
  have one : ∀ (d : DV) (t : Sg RLay), d = encSg encRL t → GS t → ∀ h', bop .add (.tup ((X.map (encSg encRL)).take k)) (.tup [d]) h' = .ok (.tup ((X.map (encSg encRL)).take k ++ [d])) h' ∧
      bop .add (.tup ((X.map (encSg encRL)).take k ++ [d])) (.tup ((X.map (encSg encRL)).drop (k + 1))) h' = .ok (.tup ((put X k [t]).map (encSg encRL))) h' := fun d t e g h' => by
    refine ⟨bop_tup (lenX _ _ (by omega) (by simp)), ?_⟩
    rw [bop_tup (lenX _ _ (by rw [List.length_append, List.length_singleton]; omega) (by omega)), e, ← put_map]
    rfl
  have oneL : ∀ (d : DV) (t : Sg RRow), d = encSg encRR t → ∀ h', bop .add (.tup ((lay.map (encSg encRR)).take j)) (.tup [d]) h' = .ok (.tup ((lay.map (encSg encRR)).take j ++ [d])) h' ∧
      bop .add (.tup ((lay.map (encSg encRR)).take j ++ [d])) (.tup ((lay.map (encSg encRR)).drop (j + 1))) h' = .ok (.tup ((put lay j [t]).map (encSg encRR))) h' := fun d t e h' => by
    refine ⟨bop_tup (lenX _ _ (by omega) (by simp)), ?_⟩
    rw [bop_tup (lenX _ _ (by rw [List.length_append, List.length_singleton]; omega) (by omega)), e, ← put_map]
    rfl
  have tail : ∀ (y1' : Int) (row' : RRow), R1 y1' → GR row' → ∀ h', h' = h3 → ∀ (s7 : DV), s7 = .int y0 → 
      FT (evB F (.cons (.ret (.bin .add (.bin .add (.slc (.var 1) .no (.so (.var 2))) (.tup (.cons (.tup (.cons (.var 3) (.cons (.var 4) (.cons (.bin .add (.bin .add (.slc (.var 5) .no (.so (.var 6))) (.tup (.cons (.tup (.cons (.var 7) (.cons (.var 8) (.cons (.var 9) .nil)))) .nil))) (.slc (.var 5) (.so (.bin .add (.var 6) (.lit (.int (1))))) .no)) .nil)))) .nil))) (.slc (.var 1) (.so (.bin .add (.var 2) (.lit (.int (1))))) .no))) .nil)
        [some (.ref m), some (.tup (X.map (encSg encRL))), some (.int k), some (.int z0), some (.int z1), some (.tup (lay.map (encSg encRR))), some (.int j), some s7, some (.int y1'), some (encRR row'), some (.int kd)] h')
        (fun _ h' => Q .non h') Q := by
    intro y1' row' g1 g2 h' eh s7 e7
    subst eh; subst e7
    have o1 := oneL (.tup [.int y0, .int y1', encRR row']) (y0, y1', row') rfl
    have gl' := gputL [(y0, y1', row')] (by simp) fun t ht => by rw [List.mem_singleton.mp ht]; exact ⟨GUu.1, g1, g2⟩
    have o2 := one (.tup [.int z0, .int z1, .tup ((put lay j [(y0, y1', row')]).map (encSg encRR))]) (z0, z1, put lay j [(y0, y1', row')]) rfl ⟨GSt.1, GSt.2.1, gl'⟩
    simp only [FT_step, evS_ret, ev_bin, ev_slc, ev_tup, evs_cons, evs_nil, evo_so, evo_no, ev_var, ev_lit, List.getElem?_cons_zero, List.getElem?_cons_succ, ok_bind, slc_to, slc_from, bop_add, mkTup, List.length_cons, List.length_nil, Nat.zero_add, Nat.reduceAdd, LN, Nat.reduceLeDiff, if_true, (o1 _).1, (o1 _).2, (o2 _).1, (o2 _).2, FT_fl, To_ok, FT_rt]
    exact fin _ (gput _ (by simp) fun t ht => by rw [List.mem_singleton.mp ht]; exact ⟨GSt.1, GSt.2.1, gl'⟩)
  have kc : kd = 0 ∨ kd = 1 ∨ kd = 2 ∨ kd = 3 ∨ kd = 4 ∨ kd = 5 ∨ kd = 6 ∨ kd = 7 ∨ kd = 8 ∨ kd = 9 ∨ kd = 10 := by omega
  have two : ∀ {a b c : DV} , mkTup [a, b, c] h3 = .ok (.tup [a, b, c]) h3 := fun {a b c} => rfl
  have g0 := gput [] (by simp) fun _ h => (nomatch h)
  have g2 := gput [(z0, z1 + 1, lay)] (by simp) fun t ht => by rw [List.mem_singleton.mp ht]; exact ⟨GSt.1, a2.up.2, GSt.2.2⟩
  have g4 := gput [(z0, z1, [])] (by simp) fun t ht => by rw [List.mem_singleton.mp ht]; exact ⟨GSt.1, GSt.2.1, by simp, fun _ h => (nomatch h)⟩
  have g5 := gput [(z1, z0, lay)] (by simp) fun t ht => by rw [List.mem_singleton.mp ht]; exact ⟨GSt.2.1, GSt.1, GSt.2.2⟩
  rcases kc with rfl | rfl | rfl | rfl | rfl | rfl | rfl | rfl | rfl | rfl | rfl
  · simp [slc_to, slc_from]
    rw [bop_tup (lenX _ _ (by omega) (by omega))]
    have := fin _ g0
    rw [← put_map, List.map_nil, List.append_nil] at this
    exact this
  · simp
    have := fin X.reverse ⟨by rw [List.length_reverse]; exact gX.1, fun t ht => gX.2 t (List.mem_reverse.mp ht)⟩
    rw [List.map_reverse] at this
    exact this
  · have o := one (.tup [.int z0, .int (z1 + 1), .tup (lay.map (encSg encRR))]) (z0, z1 + 1, lay) rfl ⟨GSt.1, a2.up.2, GSt.2.2⟩ h3
    simp [slc_to, slc_from, mkTup, LN, o.1, o.2]
    exact fin _ g2
  · simp [Lil.blt, seqOf, alloc]
    exact (eQ ..).mpr ⟨kk.app _, .inl ⟨_, _, rfl, get_new h3 _⟩⟩
  · have o := one (.tup [.int z0, .int z1, .tup []]) (z0, z1, []) rfl ⟨GSt.1, GSt.2.1, by simp, fun _ h => (nomatch h)⟩ h3
    simp [slc_to, slc_from, mkTup, LN, o.1, o.2]
    exact fin _ g4
  · have o := one (.tup [.int z1, .int z0, .tup (lay.map (encSg encRR))]) (z1, z0, lay) rfl ⟨GSt.2.1, GSt.1, GSt.2.2⟩ h3
    simp [slc_to, slc_from, mkTup, LN, o.1, o.2]
    exact fin _ g5
  · obtain ⟨row', p, er⟩ : ∃ row' p, row = row' ++ [p] := by
      rcases List.eq_nil_or_concat row with z | ⟨r, p, z⟩
      · exact absurd z b5
      · exact ⟨r, p, by rw [z, List.concat_eq_append]⟩
    obtain ⟨c1, pb, c2, c3⟩ := b4 p (by rw [er]; simp)
    obtain ⟨pa, po⟩ := p
    dsimp only at c1 c2
    subst c2
    have x1 : ∀ h, index (encRR row) (.int (-1)) h = some (encRP (pa, some pb)) := fun h => by
      unfold encRR
      rw [er, List.map_append]
      exact ix_lastT
    have b9 : ∀ h, bop .add (encRR row) (.tup [.tup [.int pb, .int (pb + 1)]]) h = .ok (encRR (row ++ [(pb, some (pb + 1))])) h := fun h => by
      unfold encRR
      rw [bop_tup (lenX _ _ (by rw [List.length_map]; omega) (by simp)), List.map_append]
      rfl
    have := tail y1 (row ++ [(pb, some (pb + 1))]) GUu.2.1 ⟨by rw [List.length_append, List.length_singleton]; omega, fun q hq => (List.mem_append.mp hq).elim (GUu.2.2.2 q) fun hq => by
      rw [List.mem_singleton.mp hq]; exact ⟨c3.up.1, fun b hb => by cases hb; exact c3.up.2⟩⟩ h3 rfl _ rfl
    simp [x1, encRP, encO, mkTup, LN, b9]
    simpa [mkTup, LN] using this
  · obtain ⟨p, r', er⟩ : ∃ p r', row = p :: r' := by
      cases row with
      | nil => exact absurd rfl b5
      | cons p r => exact ⟨p, r, rfl⟩
    have x1 : ∀ h, index (encRR row) (.int 0) h = some (encRP p) := fun h => by
      unfold encRR
      rw [er]
      exact ix_0 ..
    have sl : ∀ h, slice (encRR row) (some 1) none h = .ok (.tup (r'.map encRP)) h := fun h => by
      unfold encRR
      rw [slcT1, er]; rfl
    have b9 : ∀ h, bop .add (.tup [.tup [.int p.1, .bl true]]) (.tup (r'.map encRP)) h = .ok (encRR ((p.1, none) :: r')) h := fun h => by
      rw [er, List.length_cons] at b3
      rw [bop_tup (lenX _ _ (by simp) (by rw [List.length_map]; omega))]
      rfl
    have := tail y1 ((p.1, none) :: r') GUu.2.1 ⟨by rw [er, List.length_cons] at b3; rw [List.length_cons]; omega, fun q hq => by
      cases hq with
      | head => exact ⟨(GUu.2.2.2 p (by rw [er]; exact .head _)).1, fun b hb => (nomatch hb)⟩
      | tail _ hq => exact GUu.2.2.2 q (by rw [er]; exact .tail _ hq)⟩ h3 rfl _ rfl
    simp [x1, sl, encRP, encO, mkTup, LN, b9]
    simpa [mkTup, LN] using this
  · have rv : encRR row.reverse = .tup (row.map encRP).reverse := by unfold encRR; rw [List.map_reverse]
    have := tail y1 row.reverse GUu.2.1 ⟨by rw [List.length_reverse]; omega, fun q hq => GUu.2.2.2 q (List.mem_reverse.mp hq)⟩ h3 rfl _ rfl
    rw [rv] at this
    simp [encRR, mkTup, LN]
    simpa [mkTup, LN] using this
  · have := tail (y1 + 1) row b2.up.2 GUu.2.2 h3 rfl _ rfl
    simp [mkTup, LN]
    simpa [mkTup, LN] using this
  · have := tail y1 [] GUu.2.1 ⟨by simp, fun _ h => (nomatch h)⟩ h3 rfl _ rfl
    simp [mkTup, LN]
    simpa [mkTup, LN, encRR] using this
end Lil
/-! Fn12: _law_is_plain, _law_inside; what a solid's boxes have. Own work. -/
set_option linter.all false
set_option Elab.async false
set_option maxRecDepth 100000
set_option maxHeartbeats 4000000
namespace Lil
open Sol
def plP (p : Int × Option Int) : Prop := ∃ b, p.2 = some b ∧ p.1 < b
def plU (u : Sg RRow) : Prop := u.1 < u.2.1 ∧ ∀ p ∈ u.2.2, plP p
def plT (t : Sg RLay) : Prop := t.1 < t.2.1 ∧ ∀ u ∈ t.2.2, plU u
def plX (X : RSol) : Prop := ∀ t ∈ X, plT t
def PlainOk (f : List DV → Hd → Res DV) : Prop := (∀ (X : RSol) (h : Hd), GX X → To (f [encRS X] h) fun v h' => (∃ b, v = .bl b ∧ (b = true ↔ plX X)) ∧ h' = h) ∧
  ∀ (n : Nat) (xs : List DV) (h : Hd), h[n]? = some (.lst xs) → f [.ref n] h = .ok (.bl false) h
theorem plain_fn {F : Nat → List DV → Hd → Res DV} : PlainOk (runF F D__law_is_plain) := by
  constructor
  · intro X h gX
    obtain ⟨Q, eQ⟩ : ∃ Q : DV → Hd → Prop, ∀ v h', Q v h' ↔ ((∃ b, v = .bl b ∧ (b = true ↔ plX X)) ∧ h' = h) := ⟨_, fun _ _ => Iff.rfl⟩
    refine To.imp (Q := Q) ?_ fun v h' q => (eQ v h').mp q
    have no : ¬ plX X → Q (.bl false) h := fun z => (eQ ..).mpr ⟨⟨false, rfl, fun h => (nomatch h), fun y => absurd y z⟩, rfl⟩
    refine runF_to rfl ?_
    simp only [B__law_is_plain, encRS, encS]
    simp only [List.map_cons, List.map_nil, List.cons_append, List.nil_append, List.replicate, Nat.reduceSub, FT_step, evS_ift, ev_nt, ev_isi, ev_var, List.getElem?_cons_zero, ok_bind, isTupW, litB_some, truR_bl, Bool.not_true, Bool.false_eq_true, if_false, FT_fl, To_ok, FT_nil, evS_fo, evi_sq]
    simp only [FT_aft, unlk_tup, unlk_lst, unlk_rng, unlk_zp]
    refine loopF_rule (X.map (encSg encRL)) (fun i σ h' => ∃ x y z, σ = [some (.tup (X.map (encSg encRL))), x, y, z] ∧ h' = h ∧ ∀ t ∈ X.take i, plT t) (fun i s h' _ _ => rfl) (fun i d σ h' hd hI => ?_) (fun σ h' hI => ?_) _ _ _ _ (Nat.zero_le _) (by rw [List.length_map]; have := gX.1; simp only [FUEL]; omega) ⟨none, none, none, rfl, rfl, fun q hq => by simp at hq⟩
    · obtain ⟨x, y, z, rfl, rfl, hI⟩ := hI
      rw [List.getElem?_map] at hd
      obtain ⟨t, ht, rfl⟩ := Option.map_eq_some_iff.mp hd
      have tm := List.mem_of_getElem? ht
      have gt := gX.2 t tm
      simp only [bind1_nm, List.set_cons_succ, List.set_cons_zero, FT_step, evS_ift, ev_or, ev_nt, ev_isi, ev_var, List.getElem?_cons_succ, List.getElem?_cons_zero, ok_bind, encSg, encRL, encS, isTupW, litB_some, truR_bl, Bool.not_true, Bool.false_eq_true, if_false, ev_cmp, ev_blt, evs_cons, evs_nil, len3, ev_lit, cop_nei, ne_eq, not_true_eq_false, decide_false, ev_idx, ix_0, ix_1, ix_2, ofO_some, FT_fl, To_ok, FT_nil, cop_ge]
      by_cases q : t.2.1 ≤ t.1
      · simp only [q, decide_true, if_true, FT_step, evS_ret, ev_lit, FT_fl, To_ok, FT_rt]
        exact no fun z => by have := (z t tm).1; omega
      · simp only [q, decide_false, Bool.false_eq_true, if_false, FT_nil, FT_step, evS_fo, evi_sq, ev_idx, ev_var, ev_lit, List.getElem?_cons_succ, List.getElem?_cons_zero, ok_bind, ix_2, ofO_some, FT_fl, To_ok]
        simp only [FT_aft, unlk_tup, unlk_lst, unlk_rng, unlk_zp]
        refine loopF_rule (t.2.2.map (encSg encRR)) (fun i σ h2 => ∃ y z, σ = [some (.tup (X.map (encSg encRL))), some (.tup [.int t.1, .int t.2.1, .tup (t.2.2.map (encSg encRR))]), y, z] ∧ h2 = h' ∧ ∀ u ∈ t.2.2.take i, plU u) (fun i s h' _ _ => rfl) (fun i d σ h2 hd hJ => ?_) (fun σ h2 hJ => ?_) _ _ _ _ (Nat.zero_le _) (by rw [List.length_map]; have := gt.2.2.1; simp only [FUEL]; omega) ⟨_, _, rfl, rfl, fun q hq => by simp at hq⟩
        · obtain ⟨y, z, rfl, rfl, hJ⟩ := hJ
          rw [List.getElem?_map] at hd
          obtain ⟨u, hu, rfl⟩ := Option.map_eq_some_iff.mp hd
          have um := List.mem_of_getElem? hu
          have gu := gt.2.2.2 u um
          simp only [bind1_nm, List.set_cons_succ, List.set_cons_zero, FT_step, evS_ift, ev_or, ev_nt, ev_isi, ev_var, List.getElem?_cons_succ, List.getElem?_cons_zero, ok_bind, encSg, encRR, isTupW, litB_some, truR_bl, Bool.not_true, Bool.false_eq_true, if_false, ev_cmp, ev_blt, evs_cons, evs_nil, len3, ev_lit, cop_nei, ne_eq, not_true_eq_false, decide_false, ev_idx, ix_0, ix_1, ix_2, ofO_some, FT_fl, To_ok, FT_nil, cop_ge]
          by_cases q2 : u.2.1 ≤ u.1
          · simp only [q2, decide_true, if_true, FT_step, evS_ret, ev_lit, FT_fl, To_ok, FT_rt]
            exact no fun z => by have := ((z t tm).2 u um).1; omega
          · simp only [q2, decide_false, Bool.false_eq_true, if_false, FT_nil, FT_step, evS_fo, evi_sq, ev_idx, ev_var, ev_lit, List.getElem?_cons_succ, List.getElem?_cons_zero, ok_bind, ix_2, ofO_some, FT_fl, To_ok]
            simp only [FT_aft, unlk_tup, unlk_lst, unlk_rng, unlk_zp]
            refine loopF_rule (u.2.2.map encRP) (fun i σ h3 => ∃ z, σ = [some (.tup (X.map (encSg encRL))), some (.tup [.int t.1, .int t.2.1, .tup (t.2.2.map (encSg encRR))]), some (.tup [.int u.1, .int u.2.1, .tup (u.2.2.map encRP)]), z] ∧ h3 = h2 ∧ ∀ p ∈ u.2.2.take i, plP p) (fun i s h' _ _ => rfl) (fun i d σ h3 hd hK => ?_) (fun σ h3 hK => ?_) _ _ _ _ (Nat.zero_le _) (by rw [List.length_map]; have := gu.2.2.1; simp only [FUEL]; omega) ⟨_, rfl, rfl, fun q hq => by simp at hq⟩
            · obtain ⟨z, rfl, rfl, hK⟩ := hK
              rw [List.getElem?_map] at hd
              obtain ⟨p, hp, rfl⟩ := Option.map_eq_some_iff.mp hd
              have pm := List.mem_of_getElem? hp
              obtain ⟨pa, po⟩ := p
              have nb : ∀ (i : Int) (h : Hd), isTyH h .bool (.int i) = some false := fun _ _ => rfl
              have yb : ∀ (i : Bool) (h : Hd), isTyH h .bool (.bl i) = some true := fun _ _ => rfl
              cases po with
              | none =>
                simp only [bind1_nm, List.set_cons_succ, List.set_cons_zero, FT_step, evS_ift, ev_or, ev_nt, ev_isi, ev_var, List.getElem?_cons_succ, List.getElem?_cons_zero, ok_bind, encRP, encO, nb, yb, litB_some, truR_bl, Bool.false_eq_true, if_false, if_true, ev_lit, ev_idx, ix_0, ix_1, ofO_some, FT_fl, To_ok, evS_ret, FT_rt]
                exact no fun z => by
                  obtain ⟨b, e, _⟩ := ((z t tm).2 u um).2 _ pm
                  cases e
              | some pb =>
                simp only [bind1_nm, List.set_cons_succ, List.set_cons_zero, FT_step, evS_ift, ev_or, ev_nt, ev_isi, ev_cmp, ev_var, List.getElem?_cons_succ, List.getElem?_cons_zero, ok_bind, encRP, encO, nb, yb, litB_some, truR_bl, Bool.false_eq_true, if_false, ev_lit, ev_idx, ix_0, ix_1, ofO_some, FT_fl, To_ok, cop_ge]
                by_cases q3 : pb ≤ pa
                · simp only [q3, decide_true, if_true, FT_step, evS_ret, ev_lit, FT_fl, To_ok, FT_rt]
                  exact no fun z => by
                    obtain ⟨b, e, l⟩ := ((z t tm).2 u um).2 _ pm
                    cases e
                    dsimp only at l
                    omega
                · simp only [q3, decide_false, Bool.false_eq_true, if_false, FT_nil]
                  refine ⟨_, rfl, trivial, fun v hv => ?_⟩
                  rw [List.take_add_one, hp] at hv
                  rcases List.mem_append.mp hv with hv | hv
                  · exact hK v hv
                  · rw [List.mem_singleton.mp hv]; exact ⟨pb, rfl, by dsimp only; omega⟩
            · obtain ⟨z, rfl, rfl, hK⟩ := hK
              simp only [List.length_map, List.take_length] at hK
              simp only [FT_nil]
              refine ⟨_, _, rfl, trivial, fun v hv => ?_⟩
              rw [List.take_add_one, hu] at hv
              rcases List.mem_append.mp hv with hv | hv
              · exact hJ v hv
              · rw [List.mem_singleton.mp hv]; exact ⟨by omega, hK⟩
        · obtain ⟨y, z, rfl, rfl, hJ⟩ := hJ
          simp only [List.length_map, List.take_length] at hJ
          simp only [FT_nil]
          refine ⟨_, _, _, rfl, trivial, fun v hv => ?_⟩
          rw [List.take_add_one, ht] at hv
          rcases List.mem_append.mp hv with hv | hv
          · exact hI v hv
          · rw [List.mem_singleton.mp hv]; exact ⟨by omega, hJ⟩
    · obtain ⟨x, y, z, rfl, rfl, hI⟩ := hI
      simp only [List.length_map, List.take_length] at hI
      simp only [FT_step, evS_ret, ev_lit, FT_fl, To_ok, FT_rt]
      exact (eQ ..).mpr ⟨⟨true, rfl, fun _ => hI, fun _ => rfl⟩, rfl⟩
  · intro n xs h e
    refine To.eq (runF_to rfl ?_)
    have : isTyH h .tuple (.ref n) = some false := by unfold isTyH; simp only [e]
    simp only [B__law_is_plain]
    simp [this]
end Lil
/-! Fn13: _law_inside; what a solid's boxes have. Own work. -/
set_option linter.all false
set_option Elab.async false
set_option maxRecDepth 100000
set_option maxHeartbeats 4000000
namespace Lil
open Sol
def bxU (t : Sg Layer) (u : Sg Row) : List (P3 × P3) := u.2.2.map fun p => ((p.1, u.1, t.1), (p.2, u.2.1, t.2.1))
def bxT (t : Sg Layer) : List (P3 × P3) := t.2.2.flatMap (bxU t)
def boxesOf (S : Solid) : List (P3 × P3) := S.flatMap bxT
theorem val_any {α : Type} {e : α} {P : α → Bool} (hP : P e = false) {x : Int} : ∀ {s : List (Sg α)}, Wk s → P (val e s x) = s.any fun t => decide (t.1 ≤ x ∧ x < t.2.1) && P t.2.2
  | [], _ => hP
  | t :: r, w => by
    have ih := val_any (e := e) hP (x := x) w.tail
    unfold val
    rw [List.any_cons]
    by_cases q : t.1 ≤ x ∧ x < t.2.1
    · rw [if_pos q]
      have : (r.any fun t => decide (t.1 ≤ x ∧ x < t.2.1) && P t.2.2) = false := by
        rw [List.any_eq_false]
        intro u hu
        have := (List.pairwise_cons.mp w.ord).1 u hu
        rw [show decide (u.1 ≤ x ∧ x < u.2.1) = false by rw [decide_eq_false_iff_not]; omega]
        simp
      rw [this]
      simp [q]
    · rw [if_neg q, ih]
      rw [show decide (t.1 ≤ x ∧ x < t.2.1) = false by rw [decide_eq_false_iff_not]; exact q]
      simp
theorem any_and {β : Type} (a : Bool) (f : β → Bool) : ∀ l : List β, (a && l.any f) = l.any fun x => a && f x := fun l => by
  cases a <;> simp
theorem has1_any {r : Row} (w : Wk r.s) (x : Int) : has1 r x = r.any fun p => decide (p.1 ≤ x ∧ x < p.2) := by
  unfold has1
  rw [show val false r.s x = id (val false r.s x) from rfl, val_any (P := id) rfl w]
  unfold Row.s
  rw [List.any_map]
  congr 1
  funext p
  simp
/-- a solid has what its boxes have -/
theorem boxes_has {S : Solid} (h : okSolid S) (z y x : Int) : (boxesOf S).any (inB · z y x) = has3 S z y x := by
  unfold has3
  rw [val_any (P := fun l => has2 l y x) rfl h.wk]
  unfold boxesOf
  rw [List.any_flatMap]
  have key : ∀ t ∈ S, (bxT t).any (inB · z y x) = (decide (t.1 ≤ z ∧ z < t.2.1) && has2 t.2.2 y x) := by
    intro t ht
    have ol := h.ok t ht
    unfold has2
    rw [val_any (P := fun l => has1 l x) rfl ol.wk]
    unfold bxT
    rw [List.any_flatMap, any_and]
    have key2 : ∀ u ∈ t.2.2, (bxU t u).any (inB · z y x) = (decide (t.1 ≤ z ∧ z < t.2.1) && (decide (u.1 ≤ y ∧ y < u.2.1) && has1 u.2.2 x)) := by
      intro u hu
      rw [has1_any (ol.ok u hu).wk]
      unfold bxU
      rw [List.any_map, any_and, any_and]
      congr 1
      funext p
      show decide _ = _
      rw [← Bool.decide_and, ← Bool.decide_and]
      dsimp only
      exact decide_eq_decide.mpr ⟨fun q => ⟨q.2.2, q.2.1, q.1⟩, fun q => ⟨q.2.2, q.2.1, q.1⟩⟩
    rw [Bool.eq_iff_iff, List.any_eq_true, List.any_eq_true]
    exact ⟨fun ⟨u, hu, q⟩ => ⟨u, hu, by rw [← key2 u hu]; exact q⟩, fun ⟨u, hu, q⟩ => ⟨u, hu, by rw [key2 u hu]; exact q⟩⟩
  rw [Bool.eq_iff_iff, List.any_eq_true, List.any_eq_true]
  exact ⟨fun ⟨u, hu, q⟩ => ⟨u, hu, by rw [← key u hu]; exact q⟩, fun ⟨u, hu, q⟩ => ⟨u, hu, by rw [key u hu]; exact q⟩⟩
def InsOk (f : List DV → Hd → Res DV) : Prop := ∀ (S : Solid) (h : Hd), S.length ≤ 9 → (∀ t ∈ S, t.2.2.length ≤ 9 ∧ ∀ u ∈ t.2.2, u.2.2.length ≤ 9) → To (f [encSol S] h) fun v h' => ∃ n, v = .ref n ∧ h'[n]? = some (.lst ((boxesOf S).map encBx)) ∧ (boxesOf S).length < 1000000 ∧ Kp h.length h h'
theorem ins_fn {F : Nat → List DV → Hd → Res DV} : InsOk (runF F D__law_inside) := by
  intro S h hS hS2
  refine runF_to rfl ?_
  simp only [B__law_inside, encSol, encS]
  simp only [List.map_cons, List.map_nil, List.cons_append, List.nil_append, List.replicate, Nat.reduceSub, FT_step, evS_asg, ev_lst, evs_nil, mkLst, List.length_nil, Nat.zero_le, if_true, alloc, ok_bind, FT_fl, To_ok, asg_nm, FT_nx, List.set_cons_succ, List.set_cons_zero, evS_fo, evi_sq, ev_var, List.getElem?_cons_zero]
  obtain ⟨I, eI⟩ : ∃ I : Nat → Sl → Hd → Prop, ∀ i s h', I i s h' ↔ ∃ (n : Nat) (x2 x3 x4 x5 x6 x7 : Option DV), s = [some (.tup (S.map (encSg encLay))), some (.ref n), x2, x3, x4, x5, x6, x7, none, none] ∧ h.length ≤ n ∧ h'[n]? = some (.lst ((boxesOf (S.take i)).map encBx)) ∧ (boxesOf (S.take i)).length ≤ 81 * i ∧ Kp h.length h h' := ⟨_, fun _ _ _ => Iff.rfl⟩
  simp only [FT_aft, unlk_tup, unlk_lst, unlk_rng, unlk_zp]
  refine loopF_rule (S.map (encSg encLay)) I (fun i s h' _ _ => rfl) (fun i d σ h' hd hI => ?_) (fun σ h' hI => ?_) _ _ _ _ (Nat.zero_le _) (by rw [List.length_map]; simp only [FUEL]; omega) ((eI ..).mpr ⟨h.length, none, none, none, none, none, none, rfl, Nat.le_refl _, get_new _ _, Nat.zero_le _, Kp.app _ (Nat.le_refl _)⟩)
  · obtain ⟨n, x2, x3, x4, x5, x6, x7, rfl, n1, e1, e2, kp⟩ := (eI ..).mp hI
    rw [List.getElem?_map] at hd
    obtain ⟨t, ht, rfl⟩ := Option.map_eq_some_iff.mp hd
    have tm := List.mem_of_getElem? ht
    have hi : i < S.length := (List.getElem?_eq_some_iff.mp ht).1
    have gt := hS2 t tm
    have bT : boxesOf (S.take (i + 1)) = boxesOf (S.take i) ++ bxT t := by
      unfold boxesOf
      rw [List.take_add_one, ht, List.flatMap_append]
      simp
    simp only [encSg, bind1_tp, bindAll_cons, bindAll_nil, bind1_nm, List.set_cons_succ, List.set_cons_zero, FT_step, evS_fo, evi_sq, ev_var, List.getElem?_cons_succ, List.getElem?_cons_zero, ok_bind, encLay, encS, FT_fl, To_ok]
    obtain ⟨J, eJ⟩ : ∃ J : Nat → Sl → Hd → Prop, ∀ j s h', J j s h' ↔ ∃ (n : Nat) (x5 x6 x7 : Option DV), s = [some (.tup (S.map (encSg encLay))), some (.ref n), some (.int t.1), some (.int t.2.1), some (.tup (t.2.2.map (encSg encRow))), x5, x6, x7, none, none] ∧ h.length ≤ n ∧
      h'[n]? = some (.lst ((boxesOf (S.take i) ++ (t.2.2.take j).flatMap (bxU t)).map encBx)) ∧ (boxesOf (S.take i) ++ (t.2.2.take j).flatMap (bxU t)).length ≤ 81 * i + 9 * j ∧ Kp h.length h h' := ⟨_, fun _ _ _ => Iff.rfl⟩
    simp only [FT_aft, unlk_tup, unlk_lst, unlk_rng, unlk_zp]
    refine loopF_rule (t.2.2.map (encSg encRow)) J (fun i s h' _ _ => rfl) (fun j d σ h2 hd hJ => ?_) (fun σ h2 hJ => ?_) _ _ _ _ (Nat.zero_le _) (by rw [List.length_map]; have := gt.1; simp only [FUEL]; omega) ((eJ ..).mpr ⟨n, _, _, _, rfl, n1, by simpa using e1, by simpa using e2, kp⟩)
    · obtain ⟨n, x5, x6, x7, rfl, n1, f1, f2, kp⟩ := (eJ ..).mp hJ
      rw [List.getElem?_map] at hd
      obtain ⟨u, hu, rfl⟩ := Option.map_eq_some_iff.mp hd
      have um := List.mem_of_getElem? hu
      have hj : j < t.2.2.length := (List.getElem?_eq_some_iff.mp hu).1
      have gu := gt.2 u um
      have bU : boxesOf (S.take i) ++ (t.2.2.take (j + 1)).flatMap (bxU t) = boxesOf (S.take i) ++ (t.2.2.take j).flatMap (bxU t) ++ bxU t u := by
        rw [List.take_add_one, hu, List.flatMap_append, List.append_assoc]
        simp
      have lU : (bxU t u).length ≤ 9 := by unfold bxU; rw [List.length_map]; exact gu
      have nlt : n < h2.length := lt_of_get f1
      simp only [encSg, bind1_tp, bindAll_cons, bindAll_nil, bind1_nm, List.set_cons_succ, List.set_cons_zero, FT_step, evS_asg, ev_bin, ev_lc, evi_sq, ev_var, List.getElem?_cons_succ, List.getElem?_cons_zero, ok_bind, encRow, FT_fl, To_bind]
      simp only [To_aft, unlk_tup, unlk_lst, unlk_rng, unlk_zp]
      refine loopC_pure (u.2.2.map encP) ((bxU t u).map encBx) rfl (by unfold bxU; simp) (by rw [List.length_map]; omega) (fun i h' _ _ => rfl) (fun q d v h3 hd hv _ => ?_) (fun h3 hg k3 => ?_)
      · rw [List.getElem?_map] at hd hv
        unfold bxU at hv
        rw [List.getElem?_map] at hv
        obtain ⟨p, hp, rfl⟩ := Option.map_eq_some_iff.mp hd
        rw [hp] at hv
        cases hv
        simp [wip, encP, encBx, encPt, mkTup, LN]
        exact Kp.refl
      · have f3 := k3.get nlt f1
        have ad : bop .add (.ref n) (.ref h2.length) h3 = .ok (.ref h3.length) (h3 ++ [.lst ((boxesOf (S.take i) ++ (t.2.2.take (j + 1)).flatMap (bxU t)).map encBx)]) := by
          unfold Lil.bop
          simp only [f3, hg]
          rw [← List.map_append, ← bU]
          unfold mkLst
          rw [if_pos (by rw [List.length_map, bU, List.length_append]; simp only [LN]; omega)]
          rfl
        simp only [To_ok, ad, asg_nm, FT_nx, List.set_cons_succ, List.set_cons_zero, FT_nil]
        exact (eJ ..).mpr ⟨h3.length, _, _, _, rfl, by have := k3.len; have := kp.len; omega, get_new _ _, by rw [bU, List.length_append]; omega, (kp.trans k3 kp.len).trans (Kp.app _ (Nat.le_refl _)) (by have := k3.len; have := kp.len; omega)⟩
    · obtain ⟨n, x5, x6, x7, rfl, n1, f1, f2, kp⟩ := (eJ ..).mp hJ
      simp only [List.length_map, List.take_length] at f1 f2
      simp only [FT_nil]
      have e3 : boxesOf (S.take (i + 1)) = boxesOf (S.take i) ++ t.2.2.flatMap (bxU t) := bT
      exact (eI ..).mpr ⟨n, _, _, _, _, _, _, rfl, n1, by rw [e3]; exact f1, by rw [e3]; have := gt.1; omega, kp⟩
  · obtain ⟨n, x2, x3, x4, x5, x6, x7, rfl, n1, e1, e2, kp⟩ := (eI ..).mp hI
    simp only [List.length_map, List.take_length] at e1 e2
    simp only [FT_step, evS_ret, ev_var, List.getElem?_cons_succ, List.getElem?_cons_zero, FT_fl, To_ok, FT_rt]
    exact ⟨n, rfl, e1, by omega, kp⟩
end Lil
/-! Bod1: more bodies, the called defs as places. Written by gen.py. -/
set_option linter.all false
set_option Elab.async false
namespace Lil
/-- meet: 0 one, 1 other -/
def B_meet (i_stretches_made i_layers_made : Nat) : Ss := (.cons (.ret (.cal i_stretches_made (.cons (.var 0) (.cons (.var 1) (.cons (.lit (.str [98, 111, 116, 104])) (.cons (.lit (.fn i_layers_made)) .nil)))))) .nil)
def D_meet (i_stretches_made i_layers_made : Nat) : FD := ⟨2, 2, B_meet i_stretches_made i_layers_made⟩
/-- less: 0 one, 1 other -/
def B_less (i_stretches_made i_layers_made : Nat) : Ss := (.cons (.ret (.cal i_stretches_made (.cons (.var 0) (.cons (.var 1) (.cons (.lit (.str [102, 105, 114, 115, 116])) (.cons (.lit (.fn i_layers_made)) .nil)))))) .nil)
def D_less (i_stretches_made i_layers_made : Nat) : FD := ⟨2, 2, B_less i_stretches_made i_layers_made⟩
/-- is_within: 0 one, 1 other -/
def B_is_within (i_less : Nat) : Ss := (.cons (.ret (.cmp .eq (.cal i_less (.cons (.var 0) (.cons (.var 1) .nil))) (.tup .nil))) .nil)
def D_is_within (i_less : Nat) : FD := ⟨2, 2, B_is_within i_less⟩
/-- do_meet: 0 one, 1 other -/
def B_do_meet (i_meet : Nat) : Ss := (.cons (.ret (.cmp .ne (.cal i_meet (.cons (.var 0) (.cons (.var 1) .nil))) (.tup .nil))) .nil)
def D_do_meet (i_meet : Nat) : FD := ⟨2, 2, B_do_meet i_meet⟩
/-- boxes_of: 0 solid, 1 found, 2 z0, 3 z1, 4 layer, 5 y0, 6 y1, 7 row, 8 x0, 9 x1 -/
def B_boxes_of : Ss := (.cons (.asg (.pt (.nm 1)) (.lst .nil)) (.cons (.fo (.tp (.cons (.nm 2) (.cons (.nm 3) (.cons (.nm 4) .nil)))) (.sq (.var 0)) (.cons (.fo (.tp (.cons (.nm 5) (.cons (.nm 6) (.cons (.nm 7) .nil)))) (.sq (.var 4)) (.cons (.exp (.mth .extend (.var 1) (.cons (.lc (.tup (.cons (.tup (.cons (.var 8) (.cons (.var 5) (.cons (.var 2) .nil)))) (.cons (.tup (.cons (.var 9) (.cons (.var 6) (.cons (.var 3) .nil)))) .nil))) (.tp (.cons (.nm 8) (.cons (.nm 9) .nil))) (.sq (.var 7)) .no [8, 9]) .nil))) .nil)) .nil)) (.cons (.ret (.var 1)) .nil)))
def D_boxes_of : FD := ⟨1, 10, B_boxes_of⟩
/-- volume: 0 solid, 1 found, 2 low, 3 high -/
def B_volume (i_boxes_of : Nat) : Ss := (.cons (.asg (.pt (.nm 1)) (.lit (.int (0)))) (.cons (.fo (.tp (.cons (.nm 2) (.cons (.nm 3) .nil))) (.sq (.cal i_boxes_of (.cons (.var 0) .nil))) (.cons (.aug 1 .add (.bin .mul (.bin .mul (.bin .sub (.idx (.var 3) (.lit (.int (0)))) (.idx (.var 2) (.lit (.int (0))))) (.bin .sub (.idx (.var 3) (.lit (.int (1)))) (.idx (.var 2) (.lit (.int (1)))))) (.bin .sub (.idx (.var 3) (.lit (.int (2)))) (.idx (.var 2) (.lit (.int (2))))))) .nil)) (.cons (.ret (.var 1)) .nil)))
def D_volume (i_boxes_of : Nat) : FD := ⟨1, 4, B_volume i_boxes_of⟩
/-- bounds: 0 solid, 1 boxes, 2 low, 3 one, 4 other, 5 axis -/
def B_bounds (i_boxes_of : Nat) : Ss := (.cons (.asg (.pt (.nm 1)) (.cal i_boxes_of (.cons (.var 0) .nil))) (.cons (.ift (.cmp .eq (.var 1) (.lst .nil)) (.cons (.ret (.lit .non)) .nil) .nil) (.cons (.asg (.pt (.nm 2)) (.blt .tuple (.cons (.lc (.blt .min (.cons (.lc (.idx (.var 3) (.var 5)) (.tp (.cons (.nm 3) (.cons (.nm 4) .nil))) (.sq (.var 1)) .no [3, 4]) .nil)) (.nm 5) (.sq (.lit (.tup [.int (0), .int (1), .int (2)]))) .no [5]) .nil))) (.cons (.ret (.tup (.cons (.var 2) (.cons (.blt .tuple (.cons (.lc (.blt .max (.cons (.lc (.idx (.var 4) (.var 5)) (.tp (.cons (.nm 3) (.cons (.nm 4) .nil))) (.sq (.var 1)) .no [3, 4]) .nil)) (.nm 5) (.sq (.lit (.tup [.int (0), .int (1), .int (2)]))) .no [5]) .nil)) .nil)))) .nil))))
def D_bounds (i_boxes_of : Nat) : FD := ⟨1, 6, B_bounds i_boxes_of⟩
/-- moved: 0 solid, 1 by, 2 x, 3 y, 4 z, 5 found, 6 z0, 7 z1, 8 layer, 9 rows, 10 x0, 11 x1, 12 y0, 13 y1, 14 row -/
def B_moved : Ss := (.cons (.asg (.tp (.cons (.pt (.nm 2)) (.cons (.pt (.nm 3)) (.cons (.pt (.nm 4)) .nil)))) (.var 1)) (.cons (.asg (.pt (.nm 5)) (.lst .nil)) (.cons (.fo (.tp (.cons (.nm 6) (.cons (.nm 7) (.cons (.nm 8) .nil)))) (.sq (.var 0)) (.cons (.asg (.pt (.nm 9)) (.blt .tuple (.cons (.lc (.tup (.cons (.bin .add (.var 12) (.var 3)) (.cons (.bin .add (.var 13) (.var 3)) (.cons (.blt .tuple (.cons (.lc (.tup (.cons (.bin .add (.var 10) (.var 2)) (.cons (.bin .add (.var 11) (.var 2)) .nil))) (.tp (.cons (.nm 10) (.cons (.nm 11) .nil))) (.sq (.var 14)) .no [10, 11]) .nil)) .nil)))) (.tp (.cons (.nm 12) (.cons (.nm 13) (.cons (.nm 14) .nil)))) (.sq (.var 8)) .no [12, 13, 14]) .nil))) (.cons (.exp (.mth .append (.var 5) (.cons (.tup (.cons (.bin .add (.var 6) (.var 4)) (.cons (.bin .add (.var 7) (.var 4)) (.cons (.var 9) .nil)))) .nil))) .nil))) (.cons (.ret (.blt .tuple (.cons (.var 5) .nil))) .nil))))
def D_moved : FD := ⟨2, 15, B_moved⟩
/-- has: 0 solid, 1 point, 2 z0, 3 z1, 4 layer, 5 y0, 6 y1, 7 row, 8 x0, 9 x1 -/
def B_has : Ss := (.cons (.fo (.tp (.cons (.nm 2) (.cons (.nm 3) (.cons (.nm 4) .nil)))) (.sq (.var 0)) (.cons (.ift (.chn .le .lt (.var 2) (.idx (.var 1) (.lit (.int (2)))) (.var 3)) (.cons (.fo (.tp (.cons (.nm 5) (.cons (.nm 6) (.cons (.nm 7) .nil)))) (.sq (.var 4)) (.cons (.ift (.chn .le .lt (.var 5) (.idx (.var 1) (.lit (.int (1)))) (.var 6)) (.cons (.ret (.blt .any (.cons (.lc (.chn .le .lt (.var 8) (.idx (.var 1) (.lit (.int (0)))) (.var 9)) (.tp (.cons (.nm 8) (.cons (.nm 9) .nil))) (.sq (.var 7)) .no [8, 9]) .nil))) .nil) .nil) .nil)) .nil) .nil) .nil)) (.cons (.ret (.lit (.bl false))) .nil))
def D_has : FD := ⟨2, 10, B_has⟩
/-- area: 0 solid, 1 found, 2 axis, 3 by, 4 at -/
def B_area (i_less i_volume i_moved : Nat) : Ss := (.cons (.asg (.pt (.nm 1)) (.lit (.int (0)))) (.cons (.fo (.nm 2) (.sq (.lit (.tup [.int (0), .int (1), .int (2)]))) (.cons (.asg (.pt (.nm 3)) (.blt .tuple (.cons (.lc (.ife (.cmp .eq (.var 4) (.var 2)) (.lit (.int (1))) (.lit (.int (0)))) (.nm 4) (.sq (.lit (.tup [.int (0), .int (1), .int (2)]))) .no [4]) .nil))) (.cons (.aug 1 .add (.bin .mul (.lit (.int (2))) (.cal i_volume (.cons (.cal i_less (.cons (.var 0) (.cons (.cal i_moved (.cons (.var 0) (.cons (.var 3) .nil))) .nil))) .nil)))) .nil))) (.cons (.ret (.var 1)) .nil)))
def D_area (i_less i_volume i_moved : Nat) : FD := ⟨1, 5, B_area i_less i_volume i_moved⟩
/-- _law_cells: 0 _law_boxes_here, 1 _law_found, 2 _law_low, 3 _law_high, 4 _law_x, 5 _law_y, 6 _law_z -/
def B__law_cells : Ss := (.cons (.asg (.pt (.nm 1)) .dnt) (.cons (.fo (.tp (.cons (.nm 2) (.cons (.nm 3) .nil))) (.sq (.var 0)) (.cons (.fo (.nm 4) (.r2 (.idx (.var 2) (.lit (.int (0)))) (.idx (.var 3) (.lit (.int (0))))) (.cons (.fo (.nm 5) (.r2 (.idx (.var 2) (.lit (.int (1)))) (.idx (.var 3) (.lit (.int (1))))) (.cons (.fo (.nm 6) (.r2 (.idx (.var 2) (.lit (.int (2)))) (.idx (.var 3) (.lit (.int (2))))) (.cons (.asg (.sub (.var 1) (.tup (.cons (.var 4) (.cons (.var 5) (.cons (.var 6) .nil))))) (.lit (.bl true))) .nil)) .nil)) .nil)) .nil)) (.cons (.ret (.var 1)) .nil)))
def D__law_cells : FD := ⟨1, 7, B__law_cells⟩
/-- _law_is: 0 _law_solid_here, 1 _law_cells_here, 2 _law_found -/
def B__law_is (i_is_solid i_boxes_of i_volume i__law_cells : Nat) : Ss := (.cons (.ift (.nt (.cal i_is_solid (.cons (.var 0) .nil))) (.cons (.ret (.lit (.bl false))) .nil) .nil) (.cons (.asg (.pt (.nm 2)) (.cal i__law_cells (.cons (.cal i_boxes_of (.cons (.var 0) .nil)) .nil))) (.cons (.ret (.and (.cmp .eq (.var 2) (.var 1)) (.cmp .eq (.blt .len (.cons (.var 2) .nil)) (.cal i_volume (.cons (.var 0) .nil))))) .nil)))
def D__law_is (i_is_solid i_boxes_of i_volume i__law_cells : Nat) : FD := ⟨2, 3, B__law_is i_is_solid i_boxes_of i_volume i__law_cells⟩
/-- _law_faces: 0 _law_cells_here, 1 _law_found, 2 _law_point, 3 _law_axis, 4 _law_sign, 5 _law_near, 6 _law_at, 7 _law_one -/
def B__law_faces : Ss := (.cons (.asg (.pt (.nm 1)) (.lit (.int (0)))) (.cons (.fo (.nm 2) (.sq (.var 0)) (.cons (.fo (.nm 3) (.r1 (.lit (.int (3)))) (.cons (.fo (.nm 4) (.sq (.tup (.cons (.neg (.lit (.int (1)))) (.cons (.lit (.int (1))) .nil)))) (.cons (.asg (.pt (.nm 5)) (.blt .tuple (.cons (.lc (.ife (.cmp .eq (.var 6) (.var 3)) (.bin .add (.var 7) (.var 4)) (.var 7)) (.tp (.cons (.nm 6) (.cons (.nm 7) .nil))) (.en (.var 2)) .no [6, 7]) .nil))) (.cons (.asg (.pt (.nm 1)) (.bin .add (.var 1) (.ife (.cmp .inn (.var 5) (.var 0)) (.lit (.int (0))) (.lit (.int (1)))))) .nil))) .nil)) .nil)) (.cons (.ret (.var 1)) .nil)))
def D__law_faces : FD := ⟨1, 8, B__law_faces⟩
/-- law: 0 _law_script, 1 _law_draw_here, 2 _law_first, 3 _law_second, 4 _law_a, 5 _law_b, 6 _law_one, 7 _law_other, 8 _law_both, 9 _law_only, 10 _law_either, 11 _law_point, 12 _law_low, 13 _law_axis -/
def B_law01 (i_union i_meet i_less i_is_within i_do_meet i_bounds i_has i_area i__law_next i__law_boxes i__law_cells i__law_solid i__law_is i__law_faces : Nat) : Ss := (.cons (.asg (.pt (.nm 1)) (.lst (.cons (.slc (.var 0) .no (.so (.lit (.int (63))))) (.cons (.lit (.int (0))) (.cons (.lit (.int (0))) .nil))))) (.cons (.par [2, 3] (.cons (.cal i__law_boxes (.cons (.var 1) (.cons (.lit (.int (5))) (.cons (.lit (.int (4))) .nil)))) (.cons (.cal i__law_boxes (.cons (.var 1) (.cons (.lit (.int (5))) (.cons (.lit (.int (4))) .nil)))) .nil))) (.cons (.asg (.tp (.cons (.pt (.nm 4)) (.cons (.pt (.nm 5)) (.cons (.pt (.nm 6)) (.cons (.pt (.nm 7)) .nil))))) (.tup (.cons (.cal i__law_cells (.cons (.var 2) .nil)) (.cons (.cal i__law_cells (.cons (.var 3) .nil)) (.cons (.cal i__law_solid (.cons (.var 2) .nil)) (.cons (.cal i__law_solid (.cons (.var 3) .nil)) .nil)))))) (.cons (.ift (.or (.nt (.cal i__law_is (.cons (.var 6) (.cons (.var 4) .nil)))) (.or (.nt (.cal i__law_is (.cons (.var 7) (.cons (.var 5) .nil)))) (.cmp .ne (.cal i__law_solid (.cons (.rev (.var 2)) .nil)) (.var 6)))) (.cons (.ret (.lit (.bl false))) .nil) .nil) (.cons (.asg (.pt (.nm 8)) (.blt .dictt (.cons (.lc (.tup (.cons (.var 11) (.cons (.lit (.bl true)) .nil))) (.nm 11) (.sq (.var 4)) (.so (.cmp .inn (.var 11) (.var 5))) [11]) .nil))) (.cons (.asg (.pt (.nm 9)) (.blt .dictt (.cons (.lc (.tup (.cons (.var 11) (.cons (.lit (.bl true)) .nil))) (.nm 11) (.sq (.var 4)) (.so (.cmp .nin (.var 11) (.var 5))) [11]) .nil))) (.cons (.asg (.pt (.nm 10)) (.blt .dictt (.cons (.var 4) .nil))) (.cons (.exp (.mth .update (.var 10) (.cons (.var 5) .nil))) (.cons (.ift (.or (.nt (.cal i__law_is (.cons (.cal i_union (.cons (.var 6) (.cons (.var 7) .nil))) (.cons (.var 10) .nil)))) (.or (.nt (.cal i__law_is (.cons (.cal i_meet (.cons (.var 6) (.cons (.var 7) .nil))) (.cons (.var 8) .nil)))) (.nt (.cal i__law_is (.cons (.cal i_less (.cons (.var 6) (.cons (.var 7) .nil))) (.cons (.var 9) .nil)))))) (.cons (.ret (.lit (.bl false))) .nil) .nil) (.cons (.ift (.or (.cmp .ne (.cal i_union (.cons (.cal i_less (.cons (.var 6) (.cons (.var 7) .nil))) (.cons (.cal i_meet (.cons (.var 6) (.cons (.var 7) .nil))) .nil))) (.var 6)) (.or (.cmp .ne (.cal i_is_within (.cons (.var 6) (.cons (.var 7) .nil))) (.cmp .eq (.var 9) .dnt)) (.cmp .ne (.cal i_do_meet (.cons (.var 6) (.cons (.var 7) .nil))) (.cmp .ne (.var 8) .dnt)))) (.cons (.ret (.lit (.bl false))) .nil) .nil) (.cons (.asg (.pt (.nm 11)) (.blt .tuple (.cons (.lc (.bin .sub (.cal i__law_next (.cons (.var 1) (.cons (.lit (.int (8))) .nil))) (.lit (.int (2)))) (.nm 13) (.r1 (.lit (.int (3)))) .no [13]) .nil))) (.cons (.ift (.or (.cmp .ne (.cal i_has (.cons (.var 6) (.cons (.var 11) .nil))) (.cmp .inn (.var 11) (.var 4))) (.or (.cmp .ne (.cal i_area (.cons (.var 6) .nil)) (.cal i__law_faces (.cons (.var 4) .nil))) (.cmp .ne (.cmp .eq (.var 6) (.var 7)) (.cmp .eq (.var 4) (.var 5))))) (.cons (.ret (.lit (.bl false))) .nil) .nil) (.cons (.ift (.cmp .eq (.var 4) .dnt) (.cons (.ret (.isn (.cal i_bounds (.cons (.var 6) .nil)))) .nil) .nil) (.cons (.asg (.pt (.nm 12)) (.blt .tuple (.cons (.lc (.blt .min (.cons (.lc (.idx (.var 11) (.var 13)) (.nm 11) (.sq (.var 4)) .no [11]) .nil)) (.nm 13) (.r1 (.lit (.int (3)))) .no [13]) .nil))) (.cons (.ret (.cmp .eq (.cal i_bounds (.cons (.var 6) .nil)) (.tup (.cons (.var 12) (.cons (.blt .tuple (.cons (.lc (.bin .add (.blt .max (.cons (.lc (.idx (.var 11) (.var 13)) (.nm 11) (.sq (.var 4)) .no [11]) .nil)) (.lit (.int (1)))) (.nm 13) (.r1 (.lit (.int (3)))) .no [13]) .nil)) .nil))))) .nil)))))))))))))))
def D_law01 (i_union i_meet i_less i_is_within i_do_meet i_bounds i_has i_area i__law_next i__law_boxes i__law_cells i__law_solid i__law_is i__law_faces : Nat) : FD := ⟨1, 14, B_law01 i_union i_meet i_less i_is_within i_do_meet i_bounds i_has i_area i__law_next i__law_boxes i__law_cells i__law_solid i__law_is i__law_faces⟩
end Lil
/-! Fn20: meet, less, is_within, do_meet, boxes_of, volume. Own work. -/
set_option linter.all false
set_option Elab.async false
set_option maxRecDepth 100000
set_option maxHeartbeats 2000000
namespace Lil
open Sol
set_option synthInstance.maxSize 1000 in
set_option synthInstance.maxHeartbeats 200000 in
instance decSol0 : DecidableEq Solid := inferInstance
theorem meet_ok {F : Nat → List DV → Hd → Res DV} {inner : List DV → Hd → Res DV} {iL iS : Nat} (hS : StrAt (F iS) inner iL) (hL : LayersOk inner) : SolOk .both (runF F (D_meet iS iL)) := by
  intro a b c h oa ob ba bb
  refine runF_to rfl ?_
  simp only [B_meet]
  simp
  exact sol_ok (w := .both) hS hL oa ob ba bb
theorem less_ok {F : Nat → List DV → Hd → Res DV} {inner : List DV → Hd → Res DV} {iL iS : Nat} (hS : StrAt (F iS) inner iL) (hL : LayersOk inner) : SolOk .first (runF F (D_less iS iL)) := by
  intro a b c h oa ob ba bb
  refine runF_to rfl ?_
  simp only [B_less]
  simp
  exact sol_ok (w := .first) hS hL oa ob ba bb
theorem sol_nil (S : Solid) (h : Hd) : cop .eq (encSol S) (.tup []) h = some (decide (S = [])) :=
  cop_eqd (idt_mono (idt_sol S) (by decide)) rfl ⟨fun e => encSol_inj (b := []) e, fun e => by rw [e]; rfl⟩
theorem sol_nnil (S : Solid) (h : Hd) : cop .ne (encSol S) (.tup []) h = some (!decide (S = [])) :=
  cop_ned (idt_mono (idt_sol S) (by decide)) rfl ⟨fun e => encSol_inj (b := []) e, fun e => by rw [e]; rfl⟩
theorem sol_eq (S T : Solid) (h : Hd) : cop .eq (encSol S) (encSol T) h = some (decide (S = T)) :=
  cop_eqd (idt_mono (idt_sol S) (by decide)) (idt_mono (idt_sol T) (by decide)) ⟨fun e => encSol_inj e, fun e => by rw [e]⟩
theorem sol_ne (S T : Solid) (h : Hd) : cop .ne (encSol S) (encSol T) h = some (!decide (S = T)) :=
  cop_ned (idt_mono (idt_sol S) (by decide)) (idt_mono (idt_sol T) (by decide)) ⟨fun e => encSol_inj e, fun e => by rw [e]⟩
def WithinOk (f : List DV → Hd → Res DV) : Prop := ∀ (a b : Solid) (c : Int) (h : Hd), okSolid a → okSolid b → bd3 (Rg c) a → bd3 (Rg c) b → To (f [encSol a, encSol b] h) fun v h' => v = .bl (decide (solidM .first a b = [])) ∧ Kp h.length h h'
theorem within_fn {F : Nat → List DV → Hd → Res DV} {iL : Nat} (hL : SolOk .first (F iL)) : WithinOk (runF F (D_is_within iL)) := by
  intro a b c h oa ob ba bb
  refine runF_to rfl ?_
  simp only [B_is_within]
  simp
  refine (hL a b c h oa ob ba bb).imp fun v h1 ⟨z1, z2⟩ => ?_
  subst z1
  simp [mkTup, sol_nil]
  exact z2
def MeetsOk (f : List DV → Hd → Res DV) : Prop := ∀ (a b : Solid) (c : Int) (h : Hd), okSolid a → okSolid b → bd3 (Rg c) a → bd3 (Rg c) b → To (f [encSol a, encSol b] h) fun v h' => v = .bl (!decide (solidM .both a b = [])) ∧ Kp h.length h h'
theorem meets_fn {F : Nat → List DV → Hd → Res DV} {iL : Nat} (hL : SolOk .both (F iL)) : MeetsOk (runF F (D_do_meet iL)) := by
  intro a b c h oa ob ba bb
  refine runF_to rfl ?_
  simp only [B_do_meet]
  simp
  refine (hL a b c h oa ob ba bb).imp fun v h1 ⟨z1, z2⟩ => ?_
  subst z1
  simp [mkTup, sol_nnil]
  exact z2

/-! ### boxes_of -/
/-- not too many stretches -/
def few (S : Solid) : Prop := S.length ≤ 60 ∧ ∀ t ∈ S, t.2.2.length ≤ 60 ∧ ∀ u ∈ t.2.2, u.2.2.length ≤ 60
theorem few_of {S : Solid} {c : Int} (o : okSolid S) (b : bd3 (Rg c) S) : few S := by
  refine ⟨wk_few o.wk (bd3_s b), fun t ht => ?_⟩
  have ol := o.ok t ht
  have bl := (b t ht).2.2
  refine ⟨wk_few ol.wk (bd2_s bl), fun u hu => ?_⟩
  have := wk_few (ol.ok u hu).wk (bd1_s (bl u hu).2.2)
  rw [row_len] at this
  exact this
theorem bxT_len {t : Sg Layer} (h1 : t.2.2.length ≤ 60) (h2 : ∀ u ∈ t.2.2, u.2.2.length ≤ 60) : (bxT t).length ≤ 3600 := by
  have : ∀ l : Layer, (∀ u ∈ l, u.2.2.length ≤ 60) → (l.flatMap (bxU t)).length ≤ 60 * l.length := by
    intro l
    induction l with
    | nil => intro _; simp
    | cons u r ih =>
      intro h
      have h3 := h u (.head _)
      have h4 := ih fun v hv => h v (.tail _ hv)
      rw [List.flatMap_cons, List.length_append, List.length_cons]
      have : (bxU t u).length ≤ 60 := by unfold bxU; rw [List.length_map]; exact h3
      omega
  have := this t.2.2 h2
  unfold bxT
  omega
theorem boxes_len {S : Solid} (h : few S) : (boxesOf S).length ≤ 216000 := by
  have : ∀ l : Solid, (∀ t ∈ l, t.2.2.length ≤ 60 ∧ ∀ u ∈ t.2.2, u.2.2.length ≤ 60) → (boxesOf l).length ≤ 3600 * l.length := by
    intro l
    induction l with
    | nil => intro _; simp [boxesOf]
    | cons t r ih =>
      intro h
      have h3 := h t (.head _)
      have h4 := ih fun v hv => h v (.tail _ hv)
      show ((t :: r).flatMap bxT).length ≤ _
      rw [List.flatMap_cons, List.length_append, List.length_cons]
      have := bxT_len h3.1 h3.2
      have h5 : (r.flatMap bxT).length ≤ 3600 * r.length := h4
      omega
  have := this S h.2
  have := h.1
  omega
def BoxesOfOk (f : List DV → Hd → Res DV) : Prop := ∀ (S : Solid) (h : Hd), few S → To (f [encSol S] h) fun v h' => ∃ n, h.length ≤ n ∧ v = .ref n ∧ h'[n]? = some (.lst ((boxesOf S).map encBx)) ∧ Kp h.length h h'
theorem boxes_of_fn {F : Nat → List DV → Hd → Res DV} : BoxesOfOk (runF F D_boxes_of) := by
  intro S h ⟨hS, hS2⟩
  refine runF_to rfl ?_
  simp only [B_boxes_of, encSol, encS]
  simp only [List.map_cons, List.map_nil, List.cons_append, List.nil_append, List.replicate, Nat.reduceSub, FT_step, evS_asg, ev_lst, evs_nil, mkLst, List.length_nil, Nat.zero_le, if_true, alloc, ok_bind, FT_fl, To_ok, asg_nm, FT_nx, List.set_cons_succ, List.set_cons_zero, evS_fo, evi_sq, ev_var, List.getElem?_cons_zero]
  obtain ⟨I, eI⟩ : ∃ I : Nat → Sl → Hd → Prop, ∀ i s h', I i s h' ↔ ∃ (x2 x3 x4 x5 x6 x7 : Option DV), s = [some (.tup (S.map (encSg encLay))), some (.ref h.length), x2, x3, x4, x5, x6, x7, none, none] ∧ h'[h.length]? = some (.lst ((boxesOf (S.take i)).map encBx)) ∧ (boxesOf (S.take i)).length ≤ 3600 * i ∧ Kp h.length h h' := ⟨_, fun _ _ _ => Iff.rfl⟩
  simp only [FT_aft, unlk_tup, unlk_lst, unlk_rng, unlk_zp]
  refine loopF_rule (S.map (encSg encLay)) I (fun i s h' _ _ => rfl) (fun i d σ h' hd hI => ?_) (fun σ h' hI => ?_) _ _ _ _ (Nat.zero_le _) (by rw [List.length_map]; simp only [FUEL]; omega) ((eI ..).mpr ⟨none, none, none, none, none, none, rfl, get_new _ _, Nat.zero_le _, Kp.app _ (Nat.le_refl _)⟩)
  · obtain ⟨x2, x3, x4, x5, x6, x7, rfl, e1, e2, kp⟩ := (eI ..).mp hI
    rw [List.getElem?_map] at hd
    obtain ⟨t, ht, rfl⟩ := Option.map_eq_some_iff.mp hd
    have tm := List.mem_of_getElem? ht
    have hi : i < S.length := (List.getElem?_eq_some_iff.mp ht).1
    have gt := hS2 t tm
    have bT : boxesOf (S.take (i + 1)) = boxesOf (S.take i) ++ bxT t := by
      unfold boxesOf
      rw [List.take_add_one, ht, List.flatMap_append]
      simp
    simp only [encSg, bind1_tp, bindAll_cons, bindAll_nil, bind1_nm, List.set_cons_succ, List.set_cons_zero, FT_step, evS_fo, evi_sq, ev_var, List.getElem?_cons_succ, List.getElem?_cons_zero, ok_bind, encLay, encS, FT_fl, To_ok]
    obtain ⟨J, eJ⟩ : ∃ J : Nat → Sl → Hd → Prop, ∀ j s h', J j s h' ↔ ∃ (x5 x6 x7 : Option DV), s = [some (.tup (S.map (encSg encLay))), some (.ref h.length), some (.int t.1), some (.int t.2.1), some (.tup (t.2.2.map (encSg encRow))), x5, x6, x7, none, none] ∧
      h'[h.length]? = some (.lst ((boxesOf (S.take i) ++ (t.2.2.take j).flatMap (bxU t)).map encBx)) ∧ (boxesOf (S.take i) ++ (t.2.2.take j).flatMap (bxU t)).length ≤ 3600 * i + 60 * j ∧ Kp h.length h h' := ⟨_, fun _ _ _ => Iff.rfl⟩
    simp only [FT_aft, unlk_tup, unlk_lst, unlk_rng, unlk_zp]
    refine loopF_rule (t.2.2.map (encSg encRow)) J (fun i s h' _ _ => rfl) (fun j d σ h2 hd hJ => ?_) (fun σ h2 hJ => ?_) _ _ _ _ (Nat.zero_le _) (by rw [List.length_map]; have := gt.1; simp only [FUEL]; omega) ((eJ ..).mpr ⟨_, _, _, rfl, by simpa using e1, by simpa using e2, kp⟩)
    · obtain ⟨x5, x6, x7, rfl, f1, f2, kp⟩ := (eJ ..).mp hJ
      rw [List.getElem?_map] at hd
      obtain ⟨u, hu, rfl⟩ := Option.map_eq_some_iff.mp hd
      have um := List.mem_of_getElem? hu
      have hj : j < t.2.2.length := (List.getElem?_eq_some_iff.mp hu).1
      have gu := gt.2 u um
      have bU : boxesOf (S.take i) ++ (t.2.2.take (j + 1)).flatMap (bxU t) = boxesOf (S.take i) ++ (t.2.2.take j).flatMap (bxU t) ++ bxU t u := by
        rw [List.take_add_one, hu, List.flatMap_append, List.append_assoc]
        simp
      have lU : (bxU t u).length ≤ 60 := by unfold bxU; rw [List.length_map]; exact gu
      have nlt : h.length < h2.length := lt_of_get f1
      have rc : recv .extend (.ref h.length) h2 = true := by unfold recv; simp only [f1]; rfl
      simp only [encSg, bind1_tp, bindAll_cons, bindAll_nil, bind1_nm, List.set_cons_succ, List.set_cons_zero, FT_step, evS_exp, ev_mth, evs_cons, evs_nil, rc, if_true, ev_lc, evi_sq, ev_var, List.getElem?_cons_succ, List.getElem?_cons_zero, ok_bind, encRow, FT_fl, To_bind]
      simp only [To_aft, unlk_tup, unlk_lst, unlk_rng, unlk_zp]
      refine loopC_pure (u.2.2.map encP) ((bxU t u).map encBx) rfl (by unfold bxU; simp) (by rw [List.length_map]; omega) (fun i h' _ _ => rfl) (fun q d v h3 hd hv _ => ?_) (fun h3 hg k3 => ?_)
      · rw [List.getElem?_map] at hd hv
        unfold bxU at hv
        rw [List.getElem?_map] at hv
        obtain ⟨p, hp, rfl⟩ := Option.map_eq_some_iff.mp hd
        rw [hp] at hv
        cases hv
        simp [wip, encP, encBx, encPt, mkTup, LN]
        exact Kp.refl
      · have f3 := k3.get nlt f1
        have ad : mth .extend (.ref h.length) [.ref h2.length] h3 = .ok .non (h3.set h.length (.lst ((boxesOf (S.take i) ++ (t.2.2.take (j + 1)).flatMap (bxU t)).map encBx))) := by
          unfold Lil.mth
          simp only [f3, hg]
          rw [← List.map_append, ← bU, if_pos (by rw [List.length_map, List.length_map]; simp only [LN]; omega)]
        simp only [To_ok, ad, FT_nx, FT_nil]
        exact (eJ ..).mpr ⟨_, _, _, rfl, get_set f3, by rw [bU, List.length_append]; omega, (kp.trans k3 kp.len).set (Nat.le_refl _)⟩
    · obtain ⟨x5, x6, x7, rfl, f1, f2, kp⟩ := (eJ ..).mp hJ
      simp only [List.length_map, List.take_length] at f1 f2
      simp only [FT_nil]
      have e3 : boxesOf (S.take (i + 1)) = boxesOf (S.take i) ++ t.2.2.flatMap (bxU t) := bT
      exact (eI ..).mpr ⟨_, _, _, _, _, _, rfl, by rw [e3]; exact f1, by rw [e3]; have := gt.1; omega, kp⟩
  · obtain ⟨x2, x3, x4, x5, x6, x7, rfl, e1, e2, kp⟩ := (eI ..).mp hI
    simp only [List.length_map, List.take_length] at e1 e2
    simp only [FT_step, evS_ret, ev_var, List.getElem?_cons_succ, List.getElem?_cons_zero, FT_fl, To_ok, FT_rt]
    exact ⟨h.length, Nat.le_refl _, rfl, e1, kp⟩

/-! ### volume -/
def volB (q : P3 × P3) : Int := (q.2.1 - q.1.1) * (q.2.2.1 - q.1.2.1) * (q.2.2.2 - q.1.2.2)
def volS (S : Solid) : Int := ((boxesOf S).map volB).sum
/-- all ends lie near -/
def nearB (q : P3 × P3) : Prop := (-1000 < q.1.1 ∧ q.1.1 < 1000) ∧ (-1000 < q.1.2.1 ∧ q.1.2.1 < 1000) ∧ (-1000 < q.1.2.2 ∧ q.1.2.2 < 1000) ∧ (-1000 < q.2.1 ∧ q.2.1 < 1000) ∧ (-1000 < q.2.2.1 ∧ q.2.2.1 < 1000) ∧ -1000 < q.2.2.2 ∧ q.2.2.2 < 1000
def VolOk (f : List DV → Hd → Res DV) : Prop := ∀ (S : Solid) (h : Hd), few S → (∀ q ∈ boxesOf S, nearB q) → To (f [encSol S] h) fun v h' => v = .int (volS S) ∧ Kp h.length h h'
theorem lst_item {h : Hd} {n : Nat} {ds : List DV} (e : h[n]? = some (.lst ds)) (i : Nat) : itemAt h (.lst n) i = match ds[i]? with | some d => .item d | none => .stop := by
  simp only [itemAt, e]
  try rfl
theorem vol_fn {F : Nat → List DV → Hd → Res DV} {iB : Nat} (hB : BoxesOfOk (F iB)) : VolOk (runF F (D_volume iB)) := by
  intro S h hf hn
  refine runF_to rfl ?_
  simp only [B_volume]
  simp only [List.map_cons, List.map_nil, List.cons_append, List.nil_append, List.replicate, Nat.reduceSub, FT_step, evS_asg, ev_lit, ok_bind, FT_fl, To_ok, asg_nm, FT_nx, List.set_cons_succ, List.set_cons_zero, evS_fo, evi_sq, ev_cal, evs_cons, evs_nil, ev_var, List.getElem?_cons_zero, To_bind]
  refine (hB S h hf).imp fun v h1 ⟨n, n1, e, e1, kp⟩ => ?_
  subst e
  simp only [e1, To_ok, FT_aft, unlk_lst]
  have bl := boxes_len hf
  refine loopF_rule ((boxesOf S).map encBx) (fun i s h' => ∃ x2 x3, h' = h1 ∧ s = [some (encSol S), some (.int (((boxesOf S).take i).map volB).sum), x2, x3]) (fun i s h' hI _ => by obtain ⟨_, _, rfl, _⟩ := hI; exact lst_item e1 i) (fun i d s h' hd hI => ?_) (fun s h' hI => ?_) _ _ _ _ (Nat.zero_le _) (by rw [List.length_map]; simp only [FUEL]; omega) ⟨none, none, rfl, rfl⟩
  · obtain ⟨x2, x3, rfl, rfl⟩ := hI
    rw [List.getElem?_map] at hd
    obtain ⟨q, hq, rfl⟩ := Option.map_eq_some_iff.mp hd
    have nq := hn q (List.mem_of_getElem? hq)
    unfold nearB at nq
    have m1 : bop .mul (.int (q.2.1 - q.1.1)) (.int (q.2.2.1 - q.1.2.1)) h' = .ok (.int ((q.2.1 - q.1.1) * (q.2.2.1 - q.1.2.1))) h' := mul_to (decide_eq_true (.inr ⟨by omega, by omega⟩))
    have m2 : bop .mul (.int ((q.2.1 - q.1.1) * (q.2.2.1 - q.1.2.1))) (.int (q.2.2.2 - q.1.2.2)) h' = .ok (.int ((q.2.1 - q.1.1) * (q.2.2.1 - q.1.2.1) * (q.2.2.2 - q.1.2.2))) h' := mul_to (decide_eq_true (.inr ⟨by omega, by omega⟩))
    simp [encBx, encPt, iop, m1, m2]
    rw [List.take_add_one, List.getElem?_map, hq]
    simp [volB]
  · obtain ⟨x2, x3, rfl, rfl⟩ := hI
    simp
    exact ⟨rfl, kp⟩
end Lil
/-! Pts: dicts of points. Own work. -/
set_option linter.all false
set_option Elab.async false
set_option maxRecDepth 100000
namespace Lil
open Sol
theorem encPt_inj {a b : P3} (h : encPt a = encPt b) : a = b := by
  unfold encPt at h
  injection h with h
  injection h with h1 h
  injection h with h2 h
  injection h with h3 _
  injection h1 with h1
  injection h2 with h2
  injection h3 with h3
  exact Prod.ext h1 (Prod.ext h2 h3)
theorem pt_key (p : P3) : isKey2 (encPt p) = true := rfl
def encC (P : List P3) : List (DV × DV) := P.map fun p => (encPt p, .bl true)
theorem encC_len (P : List P3) : (encC P).length = P.length := by simp [encC]
theorem getC : ∀ (P : List P3) (p : P3), getT (encC P) (encPt p) = if p ∈ P then some (.bl true) else none
  | [], _ => rfl
  | a :: r, p => by
    show (if encPt a = encPt p then some (.bl true) else getT (encC r) (encPt p)) = _
    rw [getC r p]
    by_cases q : a = p
    · subst q; simp
    · rw [if_neg fun e => q (encPt_inj e)]
      by_cases q2 : p ∈ r
      · rw [if_pos q2, if_pos (.tail _ q2)]
      · rw [if_neg q2, if_neg (by simp [q2, Ne.symm q])]
def addP (P : List P3) (p : P3) : List P3 := if p ∈ P then P else P ++ [p]
theorem putC (P : List P3) (p : P3) : putT (encC P) (encPt p) (.bl true) = encC (addP P p) := by
  unfold putT addP
  rw [getC]
  by_cases q : p ∈ P
  · rw [if_pos q, if_pos q]
    simp only [Option.isSome_some, if_true]
    unfold encC
    rw [List.map_map]
    refine List.map_congr_left fun a _ => ?_
    show (if encPt a = encPt p then _ else _) = _
    split <;> rfl
  · rw [if_neg q, if_neg q]
    simp [encC]
theorem addP_mem {P : List P3} {p y : P3} : y ∈ addP P p ↔ y ∈ P ∨ y = p := by
  unfold addP
  split
  · rename_i q
    exact ⟨.inl, fun h => h.elim id fun z => by rw [z]; exact q⟩
  · simp
theorem addP_nodup {P : List P3} {p : P3} (h : P.Nodup) : (addP P p).Nodup := by
  unfold addP
  split
  · exact h
  · rename_i q
    exact List.nodup_append.mpr ⟨h, by simp, fun a ha b hb => by rw [List.mem_singleton.mp hb]; intro z; subst z; exact q ha⟩
theorem addP_len {P : List P3} {p : P3} : (addP P p).length ≤ P.length + 1 := by
  unfold addP
  split <;> simp
theorem mergeC (Q : List P3) : ∀ P : List P3, mergeT (encC P) (encC Q) = encC (Q.foldl addP P) := by
  induction Q with
  | nil => intro P; rfl
  | cons q Q ih =>
    intro P
    show mergeT (putT (encC P) (encPt q) (.bl true)) (encC Q) = _
    rw [putC, ih]
    rfl
theorem foldP_mem {y : P3} : ∀ {Q P : List P3}, y ∈ Q.foldl addP P ↔ y ∈ P ∨ y ∈ Q
  | [], P => by simp
  | q :: Q, P => by
    show y ∈ Q.foldl addP (addP P q) ↔ _
    rw [foldP_mem, addP_mem, List.mem_cons, or_assoc]
theorem foldP_nodup : ∀ {Q P : List P3}, P.Nodup → (Q.foldl addP P).Nodup
  | [], _, h => h
  | q :: Q, P, h => foldP_nodup (Q := Q) (P := addP P q) (addP_nodup h)
theorem foldP_self : ∀ {Q P : List P3}, (P ++ Q).Nodup → Q.foldl addP P = P ++ Q
  | [], P, _ => by simp
  | q :: Q, P, h => by
    have hq : q ∉ P := by
      rw [List.nodup_append] at h
      intro z
      exact h.2.2 q z q (.head _) rfl
    show Q.foldl addP (addP P q) = _
    have e : addP P q = P ++ [q] := by unfold addP; rw [if_neg hq]
    rw [e, foldP_self (by simpa using h)]
    simp
/-- a list of pairs (p, True) -/
theorem pairsC : ∀ P : List P3, pairsT (P.map fun p => DV.tup [encPt p, .bl true]) = some (encC P)
  | [] => rfl
  | p :: P => by
    show (if isKey2 (encPt p) then (pairsT (P.map _)).map ((encPt p, DV.bl true) :: ·) else none) = _
    rw [pairsC P]
    rfl
theorem merge0 {P : List P3} (h : P.Nodup) : mergeT [] (encC P) = encC P := by
  have := mergeC P []
  rw [foldP_self (by simpa using h)] at this
  exact this
theorem eqC (P Q : List P3) : eqT (encC P) (encC Q) = some (P.length == Q.length && P.all fun p => decide (p ∈ Q)) := by
  unfold eqT
  have b : ∀ R : List P3, ((encC R).all fun kv => isBl kv.2) = true := fun R => by
    refine List.all_eq_true.mpr fun x hx => ?_
    obtain ⟨p, _, rfl⟩ := List.mem_map.mp hx
    rfl
  rw [b, b, Bool.and_self, if_pos rfl, encC_len, encC_len]
  congr 2
  unfold encC
  rw [List.all_map]
  congr 1
  funext p
  show decide (getT (encC Q) (encPt p) = some (.bl true)) = _
  rw [getC]
  by_cases q : p ∈ Q <;> simp [q]
theorem same_len {α : Type} [DecidableEq α] {P Q : List α} (hP : P.Nodup) (hQ : Q.Nodup) (h : ∀ p, p ∈ P ↔ p ∈ Q) : P.length = Q.length := ((List.perm_ext_iff_of_nodup hP hQ).mpr h).length_eq
theorem sub_len {α : Type} [DecidableEq α] : ∀ {P Q : List α}, P.Nodup → (∀ x ∈ P, x ∈ Q) → P.length ≤ Q.length
  | [], _, _, _ => Nat.zero_le _
  | a :: P, Q, hP, h => by
    rw [List.nodup_cons] at hP
    have ha := h a (.head _)
    have h2 : ∀ x ∈ P, x ∈ Q.erase a := fun x hx => (List.mem_erase_of_ne (fun z => by subst z; exact hP.1 hx)).mpr (h x (.tail _ hx))
    have h3 := sub_len hP.2 h2
    rw [List.length_erase_of_mem ha] at h3
    have : 0 < Q.length := List.length_pos_of_mem ha
    rw [List.length_cons]
    omega
def sameP (P Q : List P3) : Bool := P.length == Q.length && P.all fun p => decide (p ∈ Q)
theorem sameP_iff {P Q : List P3} (hP : P.Nodup) (hQ : Q.Nodup) : sameP P Q = true ↔ ∀ p, p ∈ P ↔ p ∈ Q := by
  unfold sameP
  rw [Bool.and_eq_true, beq_iff_eq, List.all_eq_true]
  constructor
  · rintro ⟨hl, h⟩ p
    refine ⟨fun q => of_decide_eq_true (h p q), fun q => ?_⟩
    refine Decidable.byContradiction fun hn => ?_
    have h1 : (p :: P).Nodup := List.nodup_cons.mpr ⟨hn, hP⟩
    have h2 : ∀ x ∈ p :: P, x ∈ Q := fun x hx => by
      rcases List.mem_cons.mp hx with rfl | hx
      · exact q
      · exact of_decide_eq_true (h x hx)
    have h3 := sub_len h1 h2
    rw [List.length_cons] at h3
    omega
  · intro h
    exact ⟨same_len hP hQ h, fun p hp => decide_eq_true ((h p).mp hp)⟩
theorem eqC' (P Q : List P3) : eqT (encC P) (encC Q) = some (sameP P Q) := eqC P Q
theorem dctT_get {h : Hd} {k : Nat} {ps : List (DV × DV)} (e : h[k]? = some (.dtt ps)) : dctT (.ref k) h = some ps := by
  unfold dctT
  dsimp only
  rw [e]
theorem dctT_lk {h : Hd} {k : Nat} {ps : List (DV × DV)} (e : h[k]? = some (.lkt ps)) : dctT (.ref k) h = some ps := by
  unfold dctT
  dsimp only
  rw [e]
theorem cop_eqC {h : Hd} {a b : Nat} {P Q : List P3} (e1 : h[a]? = some (.dtt (encC P))) (e2 : h[b]? = some (.dtt (encC Q))) : cop .eq (.ref a) (.ref b) h = some (sameP P Q) := by
  show eqq (.ref a) (.ref b) h = _
  unfold eqq
  rw [dctT_get e1, dctT_get e2]
  exact eqC' P Q
theorem cop_neC {h : Hd} {a b : Nat} {P Q : List P3} (e1 : h[a]? = some (.dtt (encC P))) (e2 : h[b]? = some (.dtt (encC Q))) : cop .ne (.ref a) (.ref b) h = some (!sameP P Q) := by
  show (eqq (.ref a) (.ref b) h).map (!·) = _
  unfold eqq
  rw [dctT_get e1, dctT_get e2]
  show (eqT (encC P) (encC Q)).map (!·) = _
  rw [eqC' P Q]
  rfl
theorem cop_inC {h : Hd} {a : Nat} {P : List P3} {p : P3} (e1 : dctT (.ref a) h = some (encC P)) : cop .inn (encPt p) (.ref a) h = some (decide (p ∈ P)) := by
  show isIn (encPt p) (.ref a) h = _
  unfold isIn
  unfold dctT at e1
  dsimp only at e1 ⊢
  split at e1
  · rename_i q
    cases e1
    rw [q]
    dsimp only
    rw [if_pos (pt_key p), getC]
    by_cases z : p ∈ P <;> simp [z]
  · rename_i q
    cases e1
    rw [q]
    dsimp only
    rw [if_pos (pt_key p), getC]
    by_cases z : p ∈ P <;> simp [z]
  · cases e1
theorem cop_ninC {h : Hd} {a : Nat} {P : List P3} {p : P3} (e1 : dctT (.ref a) h = some (encC P)) : cop .nin (encPt p) (.ref a) h = some (!decide (p ∈ P)) := by
  show (isIn (encPt p) (.ref a) h).map (!·) = _
  rw [show isIn (encPt p) (.ref a) h = some (decide (p ∈ P)) from cop_inC e1]
  rfl
theorem store_C {h : Hd} {a : Nat} {P : List P3} {p : P3} (e1 : h[a]? = some (.dtt (encC P))) (hl : P.length < LN) : store (.ref a) (encPt p) (.bl true) h = some (h.set a (.dtt (encC (addP P p)))) := by
  unfold store
  dsimp only
  rw [e1]
  dsimp only
  rw [if_pos ⟨pt_key p, by rw [encC_len]; exact hl⟩, putC]
/-! ### counting -/
theorem nodup_len {l : List Int} {N : Int} (hn : l.Nodup) (h : ∀ x ∈ l, 0 ≤ x ∧ x < N) : (l.length : Int) ≤ N ∨ l = [] := by
  obtain ⟨h1, h2⟩ := sortI_ok hn
  rcases up_len (lo := 0) (hi := N - 1) h1 (fun x hx => by have := h x ((h2 x).mp hx); omega) with q | q
  · rw [sortI_len] at q; left; omega
  · right
    have : (sortI l).length = l.length := sortI_len
    rw [q] at this
    exact List.length_eq_zero_iff.mp this.symm
/-- near c -/
def inCube (c : Int) (p : P3) : Prop := (c ≤ p.1 ∧ p.1 < c + 60) ∧ (c ≤ p.2.1 ∧ p.2.1 < c + 60) ∧ c ≤ p.2.2 ∧ p.2.2 < c + 60
theorem map_nodup {α β : Type} {f : α → β} : ∀ {l : List α}, l.Nodup → (∀ a ∈ l, ∀ b ∈ l, f a = f b → a = b) → (l.map f).Nodup
  | [], _, _ => List.nodup_nil
  | a :: l, hn, hf => by
    rw [List.nodup_cons] at hn
    rw [List.map_cons, List.nodup_cons]
    refine ⟨fun z => ?_, map_nodup hn.2 fun x hx y hy => hf x (.tail _ hx) y (.tail _ hy)⟩
    obtain ⟨b, hb, e⟩ := List.mem_map.mp z
    rw [hf b (.tail _ hb) a (.head _) e] at hb
    exact hn.1 hb
theorem cube_len {c : Int} {P : List P3} (hn : P.Nodup) (h : ∀ p ∈ P, inCube c p) : P.length ≤ 216000 := by
  have h2 : (P.map fun p => ((p.1 - c) * 60 + (p.2.1 - c)) * 60 + (p.2.2 - c)).Nodup := by
    refine map_nodup hn fun a ha b hb e => ?_
    obtain ⟨⟨a1, a2⟩, ⟨a3, a4⟩, a5, a6⟩ := h a ha
    obtain ⟨⟨b1, b2⟩, ⟨b3, b4⟩, b5, b6⟩ := h b hb
    refine Prod.ext ?_ (Prod.ext ?_ ?_) <;> omega
  rcases nodup_len (N := 216000) h2 (fun x hx => by
    obtain ⟨p, hp, rfl⟩ := List.mem_map.mp hx
    obtain ⟨⟨a1, a2⟩, ⟨a3, a4⟩, a5, a6⟩ := h p hp
    omega) with q | q
  · rw [List.length_map] at q; omega
  · rw [List.map_eq_nil_iff.mp q]; simp
/-! ### loops over numbers -/
theorem loop_rng {body : DV → Sl → Hd → Fl} {N : Sl → Hd → Prop} {R : DV → Hd → Prop} {lo hi : Int} {s : Sl} {h : Hd} (I : Int → Sl → Hd → Prop) (hs : hi - lo < 1000000) (h0 : I lo s h)
    (hb : ∀ x s h, lo ≤ x → x < hi → I x s h → FT (body (.int x) s h) (I (x + 1)) R) (hN : ∀ s h, I (if lo ≤ hi then hi else lo) s h → N s h) : FT (loopF (.rng lo (hi - lo).toNat) body FUEL 0 s h) N R := by
  refine loopF_rule ((List.range (hi - lo).toNat).map fun j => DV.int (lo + (j : Nat))) (fun i s h => I (lo + i) s h) (fun i s h' hI hi' => rng_item lo (hi - lo).toNat i h' (by simpa using hi')) (fun i d s h' hd hI => ?_) (fun s h' hI => ?_) _ _ _ _ (Nat.zero_le _) (by simp [FUEL]; omega) (by simpa using h0)
  · rw [List.getElem?_map] at hd
    obtain ⟨j, hj, rfl⟩ := Option.map_eq_some_iff.mp hd
    have hi' : i < (hi - lo).toNat := by have := (List.getElem?_eq_some_iff.mp hj).1; simpa using this
    have ej : j = i := by rw [List.getElem?_range hi'] at hj; exact (Option.some.inj hj).symm
    subst ej
    have := hb (lo + j) s h' (by omega) (by omega) hI
    refine this.imp (fun s h q => ?_) fun _ _ q => q
    have e : lo + ((j + 1 : Nat) : Int) = lo + j + 1 := by omega
    rw [e]
    exact q
  · rw [List.length_map, List.length_range] at hI
    refine hN s h' ?_
    split
    · rename_i q
      have e : lo + (((hi - lo).toNat : Nat) : Int) = hi := by omega
      rw [e] at hI
      exact hI
    · rename_i q
      have e : lo + (((hi - lo).toNat : Nat) : Int) = lo := by omega
      rw [e] at hI
      exact hI
end Lil
/-! Fn21: _law_cells. Own work. -/
set_option linter.all false
set_option Elab.async false
set_option maxRecDepth 100000
set_option maxHeartbeats 2000000
namespace Lil
open Sol
/-- the cube's box -/
def boxIn (c : Int) (q : P3 × P3) : Prop := (c ≤ q.1.1 ∧ q.2.1 ≤ c + 60 ∧ q.1.1 ≤ c + 60 ∧ c ≤ q.2.1) ∧ (c ≤ q.1.2.1 ∧ q.2.2.1 ≤ c + 60 ∧ q.1.2.1 ≤ c + 60 ∧ c ≤ q.2.2.1) ∧ c ≤ q.1.2.2 ∧ q.2.2.2 ≤ c + 60 ∧ q.1.2.2 ≤ c + 60 ∧ c ≤ q.2.2.2
def hasB (q : P3 × P3) (p : P3) : Prop := (q.1.1 ≤ p.1 ∧ p.1 < q.2.1) ∧ (q.1.2.1 ≤ p.2.1 ∧ p.2.1 < q.2.2.1) ∧ q.1.2.2 ≤ p.2.2 ∧ p.2.2 < q.2.2.2
theorem boxIn_cube {c : Int} {q : P3 × P3} {p : P3} (h : boxIn c q) (g : hasB q p) : inCube c p := by
  obtain ⟨⟨a1, a2, _⟩, ⟨a3, a4, _⟩, a5, a6, _⟩ := h
  obtain ⟨⟨b1, b2⟩, ⟨b3, b4⟩, b5, b6⟩ := g
  exact ⟨⟨by omega, by omega⟩, ⟨by omega, by omega⟩, by omega, by omega⟩
def CellsOk (f : List DV → Hd → Res DV) : Prop := ∀ (n : Nat) (B : List (P3 × P3)) (c : Int) (h : Hd), h[n]? = some (.lst (B.map encBx)) → (∀ q ∈ B, boxIn c q) → -1000 < c → c < 1000 → B.length < 1000000 →
  To (f [.ref n] h) fun v h' => ∃ (k : Nat) (P : List P3), v = .ref k ∧ h.length ≤ k ∧ h'[k]? = some (.dtt (encC P)) ∧ P.Nodup ∧ (∀ p, p ∈ P ↔ ∃ q ∈ B, hasB q p) ∧ Kp h.length h h'
theorem cells_fn {F : Nat → List DV → Hd → Res DV} : CellsOk (runF F D__law_cells) := by
  intro n B c h e hB c0 c1 hl
  refine runF_to rfl ?_
  have nl := lt_of_get e
  simp only [B__law_cells]
  simp only [List.map_cons, List.map_nil, List.cons_append, List.nil_append, List.replicate, Nat.reduceSub, FT_step, evS_asg, ev_dnt, alloc, ok_bind, FT_fl, To_ok, asg_nm, FT_nx, List.set_cons_succ, List.set_cons_zero, evS_fo, evi_sq, ev_var, List.getElem?_cons_zero]
  have e0 : (h ++ [DO.dtt []])[n]? = some (.lst (B.map encBx)) := by rw [List.getElem?_append_left nl]; exact e
  simp only [e0, To_ok, FT_aft, unlk_lst]
  -- what is found so far: of these boxes, and of the last one where T holds
  obtain ⟨W, eW⟩ : ∃ W : Nat → (P3 → Prop) → Hd → Prop, ∀ i T h', W i T h' ↔ ∃ P : List P3, h'[h.length]? = some (.dtt (encC P)) ∧ P.Nodup ∧ (∀ p, p ∈ P ↔ (∃ q ∈ B.take i, hasB q p) ∨ ((∃ q, B[i]? = some q ∧ hasB q p) ∧ T p)) ∧ Kp h.length h h' := ⟨_, fun _ _ _ => Iff.rfl⟩
  refine loopF_rule (B.map encBx) (fun i s h' => ∃ x2 x3 x4 x5 x6, s = [some (.ref n), some (.ref h.length), x2, x3, x4, x5, x6] ∧ W i (fun _ => False) h') (fun i s h' hI _ => by
    obtain ⟨_, _, _, _, _, _, hW⟩ := hI
    obtain ⟨P, _, _, _, kp⟩ := (eW ..).mp hW
    exact lst_item (kp.get nl e) i) (fun i d s h' hd hI => ?_) (fun s h' hI => ?_) _ _ _ _ (Nat.zero_le _) (by rw [List.length_map]; simp only [FUEL]; omega) ⟨none, none, none, none, none, rfl, (eW ..).mpr ⟨[], get_new _ _, List.nodup_nil, fun p => by simp, Kp.app _ (Nat.le_refl _)⟩⟩
  · obtain ⟨x2, x3, x4, x5, x6, rfl, hW⟩ := hI
    rw [List.getElem?_map] at hd
    obtain ⟨q, hq, rfl⟩ := Option.map_eq_some_iff.mp hd
    have bq := hB q (List.mem_of_getElem? hq)
    obtain ⟨⟨a1, a2, a3, a4⟩, ⟨a5, a6, a7, a8⟩, a9, a10, a11, a12⟩ := id bq
    have cube : ∀ {P : List P3} {T : P3 → Prop}, (∀ p, p ∈ P ↔ (∃ q ∈ B.take i, hasB q p) ∨ ((∃ q, B[i]? = some q ∧ hasB q p) ∧ T p)) → ∀ p ∈ P, inCube c p := fun {P T} hm p hp => by
      rcases (hm p).mp hp with ⟨r, hr, g⟩ | ⟨⟨r, hr, g⟩, _⟩
      · exact boxIn_cube (hB r (List.mem_of_mem_take hr)) g
      · exact boxIn_cube (hB r (List.mem_of_getElem? hr)) g
    simp only [encBx, encPt, bind1_tp, bindAll_cons, bindAll_nil, bind1_nm, List.set_cons_succ, List.set_cons_zero, FT_step, evS_fo, evi_r2, ev_idx, ev_var, ev_lit, List.getElem?_cons_succ, List.getElem?_cons_zero, ok_bind, ix_0, ix_1, ix_2, ofO_some, FT_fl]
    rw [if_pos ⟨⟨by omega, by omega⟩, by omega, by omega⟩]
    simp only [To_ok, FT_aft, unlk_rng]
    refine loop_rng (fun x s h' => ∃ x4 x5 x6, s = [some (.ref n), some (.ref h.length), some (.tup [.int q.1.1, .int q.1.2.1, .int q.1.2.2]), some (.tup [.int q.2.1, .int q.2.2.1, .int q.2.2.2]), x4, x5, x6] ∧ W i (fun p => p.1 < x) h') (by omega) ⟨_, _, _, rfl, ?_⟩ (fun x s h2 l1 l2 hI => ?_) (fun s h2 hI => ?_)
    · obtain ⟨P, f1, f2, f3, f4⟩ := (eW ..).mp hW
      refine (eW ..).mpr ⟨P, f1, f2, fun p => ?_, f4⟩
      rw [f3 p]
      refine ⟨fun z => z.elim .inl fun z => z.2.elim, fun z => z.elim .inl fun ⟨⟨r, hr, g⟩, z⟩ => ?_⟩
      rw [hq] at hr
      cases hr
      have := g.1.1
      omega
    · obtain ⟨x4, x5, x6, rfl, hW⟩ := hI
      simp only [bind1_nm, List.set_cons_succ, List.set_cons_zero, FT_step, evS_fo, evi_r2, ev_idx, ev_var, ev_lit, List.getElem?_cons_succ, List.getElem?_cons_zero, ok_bind, ix_0, ix_1, ix_2, ofO_some, FT_fl]
      rw [if_pos ⟨⟨by omega, by omega⟩, by omega, by omega⟩]
      simp only [To_ok, FT_aft, unlk_rng]
      refine loop_rng (fun y s h' => ∃ x5 x6, s = [some (.ref n), some (.ref h.length), some (.tup [.int q.1.1, .int q.1.2.1, .int q.1.2.2]), some (.tup [.int q.2.1, .int q.2.2.1, .int q.2.2.2]), some (.int x), x5, x6] ∧ W i (fun p => p.1 < x ∨ (p.1 = x ∧ p.2.1 < y)) h') (by omega) ⟨_, _, rfl, ?_⟩ (fun y s h3 m1 m2 hI => ?_) (fun s h3 hI => ?_)
      · obtain ⟨P, f1, f2, f3, f4⟩ := (eW ..).mp hW
        refine (eW ..).mpr ⟨P, f1, f2, fun p => ?_, f4⟩
        rw [f3 p]
        refine ⟨fun z => z.elim .inl fun z => .inr ⟨z.1, .inl z.2⟩, fun z => z.elim .inl fun ⟨⟨r, hr, g⟩, z⟩ => ?_⟩
        refine .inr ⟨⟨r, hr, g⟩, ?_⟩
        rw [hq] at hr
        cases hr
        have := g.2.1.1
        omega
      · obtain ⟨x5, x6, rfl, hW⟩ := hI
        simp only [bind1_nm, List.set_cons_succ, List.set_cons_zero, FT_step, evS_fo, evi_r2, ev_idx, ev_var, ev_lit, List.getElem?_cons_succ, List.getElem?_cons_zero, ok_bind, ix_0, ix_1, ix_2, ofO_some, FT_fl]
        rw [if_pos ⟨⟨by omega, by omega⟩, by omega, by omega⟩]
        simp only [To_ok, FT_aft, unlk_rng]
        refine loop_rng (fun z s h' => ∃ x6, s = [some (.ref n), some (.ref h.length), some (.tup [.int q.1.1, .int q.1.2.1, .int q.1.2.2]), some (.tup [.int q.2.1, .int q.2.2.1, .int q.2.2.2]), some (.int x), some (.int y), x6] ∧ W i (fun p => p.1 < x ∨ (p.1 = x ∧ (p.2.1 < y ∨ (p.2.1 = y ∧ p.2.2 < z)))) h') (by omega) ⟨_, rfl, ?_⟩ (fun z s h4 k1 k2 hI => ?_) (fun s h4 hI => ?_)
        · obtain ⟨P, f1, f2, f3, f4⟩ := (eW ..).mp hW
          refine (eW ..).mpr ⟨P, f1, f2, fun p => ?_, f4⟩
          rw [f3 p]
          refine ⟨fun z => z.elim .inl fun z => .inr ⟨z.1, z.2.elim .inl fun z => .inr ⟨z.1, .inl z.2⟩⟩, fun z => z.elim .inl fun ⟨⟨r, hr, g⟩, z⟩ => ?_⟩
          refine .inr ⟨⟨r, hr, g⟩, ?_⟩
          rw [hq] at hr
          cases hr
          have := g.2.2.1
          omega
        · obtain ⟨x6, rfl, hW⟩ := hI
          obtain ⟨P, f1, f2, f3, f4⟩ := (eW ..).mp hW
          have pl := cube_len f2 (cube f3)
          have st := store_C (p := (x, y, z)) f1 (by simp only [LN]; omega)
          unfold encPt at st
          simp only [bind1_nm, List.set_cons_succ, List.set_cons_zero, FT_step, evS_asg, ev_lit, ok_bind, FT_fl, To_ok, asg_sub, ev_var, ev_tup, evs_cons, evs_nil, List.getElem?_cons_succ, List.getElem?_cons_zero, mkTup, List.length_cons, List.length_nil, Nat.zero_add, Nat.reduceAdd, LN, Nat.reduceLeDiff, if_true, st, FT_nx, FT_nil]
          refine ⟨_, rfl, (eW ..).mpr ⟨addP P (x, y, z), get_set f1, addP_nodup f2, fun p => ?_, f4.set (Nat.le_refl _)⟩⟩
          rw [addP_mem, f3 p]
          constructor
          · rintro (z1 | rfl)
            · rcases z1 with z1 | ⟨z1, z2⟩
              · exact .inl z1
              · exact .inr ⟨z1, by omega⟩
            · exact .inr ⟨⟨q, hq, ⟨l1, l2⟩, ⟨m1, m2⟩, k1, k2⟩, .inr ⟨rfl, .inr ⟨rfl, by show z < z + 1; omega⟩⟩⟩
          · rintro (z1 | ⟨z1, z2⟩)
            · exact .inl (.inl z1)
            · by_cases w : p = (x, y, z)
              · exact .inr w
              · refine .inl (.inr ⟨z1, ?_⟩)
                have : ¬ (p.1 = x ∧ p.2.1 = y ∧ p.2.2 = z) := fun ⟨u1, u2, u3⟩ => w (Prod.ext u1 (Prod.ext u2 u3))
                omega
        · obtain ⟨x6, rfl, hW⟩ := hI
          simp only [FT_nil]
          obtain ⟨P, f1, f2, f3, f4⟩ := (eW ..).mp hW
          refine ⟨_, _, rfl, (eW ..).mpr ⟨P, f1, f2, fun p => ?_, f4⟩⟩
          rw [f3 p]
          refine or_congr Iff.rfl (and_congr_right fun ⟨r, hr, g⟩ => ?_)
          rw [hq] at hr
          cases hr
          have g1 := g.2.2
          split <;> omega
      · obtain ⟨x5, x6, rfl, hW⟩ := hI
        simp only [FT_nil]
        obtain ⟨P, f1, f2, f3, f4⟩ := (eW ..).mp hW
        refine ⟨_, _, _, rfl, (eW ..).mpr ⟨P, f1, f2, fun p => ?_, f4⟩⟩
        rw [f3 p]
        refine or_congr Iff.rfl (and_congr_right fun ⟨r, hr, g⟩ => ?_)
        rw [hq] at hr
        cases hr
        have g1 := g.2.1
        split <;> omega
    · obtain ⟨x4, x5, x6, rfl, hW⟩ := hI
      simp only [FT_nil]
      obtain ⟨P, f1, f2, f3, f4⟩ := (eW ..).mp hW
      refine ⟨_, _, _, _, _, rfl, (eW ..).mpr ⟨P, f1, f2, fun p => ?_, f4⟩⟩
      rw [f3 p, List.take_add_one, hq]
      constructor
      · rintro (⟨r, hr, g⟩ | ⟨⟨r, hr, g⟩, _⟩)
        · exact .inl ⟨r, List.mem_append_left _ hr, g⟩
        · cases hr
          exact .inl ⟨q, List.mem_append_right _ (by simp), g⟩
      · rintro (⟨r, hr, g⟩ | ⟨_, z⟩)
        · rcases List.mem_append.mp hr with hr | hr
          · exact .inl ⟨r, hr, g⟩
          · simp only [Option.toList_some, List.mem_singleton] at hr
            subst hr
            refine .inr ⟨⟨r, rfl, g⟩, ?_⟩
            have g1 := g.1
            split <;> omega
        · exact z.elim
  · obtain ⟨x2, x3, x4, x5, x6, rfl, hW⟩ := hI
    obtain ⟨P, f1, f2, f3, f4⟩ := (eW ..).mp hW
    rw [List.length_map] at f3
    simp only [FT_step, evS_ret, ev_var, List.getElem?_cons_succ, List.getElem?_cons_zero, FT_fl, To_ok, FT_rt]
    refine ⟨h.length, P, rfl, Nat.le_refl _, f1, f2, fun p => ?_, f4⟩
    rw [f3 p, List.take_length]
    exact ⟨fun z => z.elim id fun ⟨_, z⟩ => z.elim, .inl⟩
end Lil
/-! Pt2: the points of a solid, counted. Own work. -/
set_option linter.all false
set_option Elab.async false
set_option maxRecDepth 100000
namespace Lil
open Sol
def irange (lo hi : Int) : List Int := (List.range (hi - lo).toNat).map fun j => lo + (j : Nat)
theorem mem_irange {lo hi x : Int} : x ∈ irange lo hi ↔ lo ≤ x ∧ x < hi := by
  unfold irange
  rw [List.mem_map]
  constructor
  · rintro ⟨j, hj, rfl⟩
    have := List.mem_range.mp hj
    omega
  · intro ⟨a, b⟩
    exact ⟨(x - lo).toNat, List.mem_range.mpr (by omega), by omega⟩
theorem irange_nodup {lo hi : Int} : (irange lo hi).Nodup := map_nodup List.nodup_range fun a _ b _ e => by omega
theorem irange_len {lo hi : Int} : (irange lo hi).length = (hi - lo).toNat := by simp [irange]
theorem flat_len {α β : Type} {f : α → List β} {n : Nat} : ∀ {l : List α}, (∀ a ∈ l, (f a).length = n) → (l.flatMap f).length = l.length * n
  | [], _ => by simp
  | a :: l, h => by
    rw [List.flatMap_cons, List.length_append, flat_len fun b hb => h b (.tail _ hb), h a (.head _), List.length_cons, Nat.add_mul, Nat.one_mul, Nat.add_comm]
theorem flat_nodup {α β : Type} {f : α → List β} {l : List α} (h1 : ∀ a ∈ l, (f a).Nodup) (h2 : l.Pairwise fun a b => ∀ x ∈ f a, ∀ y ∈ f b, x ≠ y) : (l.flatMap f).Nodup :=
  List.pairwise_flatMap.mpr ⟨h1, h2⟩
def ptsB (q : P3 × P3) : List P3 := (irange q.1.1 q.2.1).flatMap fun x => (irange q.1.2.1 q.2.2.1).flatMap fun y => (irange q.1.2.2 q.2.2.2).map fun z => (x, y, z)
theorem mem_ptsB {q : P3 × P3} {p : P3} : p ∈ ptsB q ↔ hasB q p := by
  unfold ptsB hasB
  rw [List.mem_flatMap]
  constructor
  · rintro ⟨x, hx, h⟩
    obtain ⟨y, hy, h⟩ := List.mem_flatMap.mp h
    obtain ⟨z, hz, rfl⟩ := List.mem_map.mp h
    exact ⟨mem_irange.mp hx, mem_irange.mp hy, mem_irange.mp hz⟩
  · intro ⟨a, b, c⟩
    exact ⟨p.1, mem_irange.mpr a, List.mem_flatMap.mpr ⟨p.2.1, mem_irange.mpr b, List.mem_map.mpr ⟨p.2.2, mem_irange.mpr c, rfl⟩⟩⟩
theorem ptsB_nodup {q : P3 × P3} : (ptsB q).Nodup := by
  refine flat_nodup (fun x _ => flat_nodup (fun y _ => map_nodup irange_nodup fun a _ b _ e => ?_) ?_) ?_
  · injection e with _ e; injection e with _ e
  · refine (show (irange _ _).Pairwise (· ≠ ·) from irange_nodup).imp fun {a b} hab p hp r hr e => ?_
    obtain ⟨z, _, rfl⟩ := List.mem_map.mp hp
    obtain ⟨z', _, rfl⟩ := List.mem_map.mp hr
    injection e with _ e
    injection e with e _
    exact hab e
  · refine (show (irange _ _).Pairwise (· ≠ ·) from irange_nodup).imp fun {a b} hab p hp r hr e => ?_
    obtain ⟨y, _, hp⟩ := List.mem_flatMap.mp hp
    obtain ⟨z, _, rfl⟩ := List.mem_map.mp hp
    obtain ⟨y', _, hr⟩ := List.mem_flatMap.mp hr
    obtain ⟨z', _, rfl⟩ := List.mem_map.mp hr
    injection e with e _
    exact hab e
/-- a box with its ends in order -/
def ordB (q : P3 × P3) : Prop := q.1.1 ≤ q.2.1 ∧ q.1.2.1 ≤ q.2.2.1 ∧ q.1.2.2 ≤ q.2.2.2
theorem ptsB_len {q : P3 × P3} (h : ordB q) : ((ptsB q).length : Int) = volB q := by
  have e : (ptsB q).length = (q.2.1 - q.1.1).toNat * ((q.2.2.1 - q.1.2.1).toNat * (q.2.2.2 - q.1.2.2).toNat) := by
    unfold ptsB
    rw [flat_len (n := (q.2.2.1 - q.1.2.1).toNat * (q.2.2.2 - q.1.2.2).toNat) fun x _ => by
      rw [flat_len (n := (q.2.2.2 - q.1.2.2).toNat) fun y _ => by rw [List.length_map, irange_len], irange_len], irange_len]
  rw [e]
  obtain ⟨a, b, c⟩ := h
  unfold volB
  rw [Int.natCast_mul, Int.natCast_mul, Int.toNat_of_nonneg (by omega), Int.toNat_of_nonneg (by omega), Int.toNat_of_nonneg (by omega), Int.mul_assoc]
def pts (S : Solid) : List P3 := (boxesOf S).flatMap ptsB
def hasS (S : Solid) (p : P3) : Prop := has3 S p.2.2 p.2.1 p.1 = true
instance (S : Solid) (p : P3) : Decidable (hasS S p) := by unfold hasS; infer_instance
theorem inB_hasB {q : P3 × P3} {p : P3} : inB q p.2.2 p.2.1 p.1 = true ↔ hasB q p := by
  unfold inB hasB
  exact decide_eq_true_iff
theorem hasS_iff {S : Solid} (o : okSolid S) {p : P3} : hasS S p ↔ ∃ q ∈ boxesOf S, hasB q p := by
  unfold hasS
  rw [← boxes_has o, List.any_eq_true]
  exact ⟨fun ⟨q, h, g⟩ => ⟨q, h, inB_hasB.mp g⟩, fun ⟨q, h, g⟩ => ⟨q, h, inB_hasB.mpr g⟩⟩
theorem mem_pts {S : Solid} (o : okSolid S) {p : P3} : p ∈ pts S ↔ hasS S p := by
  rw [hasS_iff o]
  unfold pts
  rw [List.mem_flatMap]
  exact ⟨fun ⟨q, h, g⟩ => ⟨q, h, mem_ptsB.mp g⟩, fun ⟨q, h, g⟩ => ⟨q, h, mem_ptsB.mpr g⟩⟩
theorem mem_boxes {S : Solid} {q : P3 × P3} : q ∈ boxesOf S ↔ ∃ t ∈ S, ∃ u ∈ t.2.2, ∃ p ∈ u.2.2, q = ((p.1, u.1, t.1), (p.2, u.2.1, t.2.1)) := by
  constructor
  · intro h
    obtain ⟨t, ht, h⟩ := List.mem_flatMap.mp h
    obtain ⟨u, hu, h⟩ := List.mem_flatMap.mp h
    obtain ⟨p, hp, rfl⟩ := List.mem_map.mp h
    exact ⟨t, ht, u, hu, p, hp, rfl⟩
  · rintro ⟨t, ht, u, hu, p, hp, rfl⟩
    exact List.mem_flatMap.mpr ⟨t, ht, List.mem_flatMap.mpr ⟨u, hu, List.mem_map.mpr ⟨p, hp, rfl⟩⟩⟩
theorem boxes_ord {S : Solid} (o : okSolid S) : ∀ q ∈ boxesOf S, q.1.1 < q.2.1 ∧ q.1.2.1 < q.2.2.1 ∧ q.1.2.2 < q.2.2.2 := fun q hq => by
  obtain ⟨t, ht, u, hu, p, hp, rfl⟩ := mem_boxes.mp hq
  have ol := o.ok t ht
  have or := ol.ok u hu
  exact ⟨or.ne (p.1, p.2, true) (List.mem_map.mpr ⟨p, hp, rfl⟩), ol.ne u hu, o.ne t ht⟩
theorem boxes_bd {S : Solid} {R : Int → Prop} (b : bd3 R S) : ∀ q ∈ boxesOf S, bdP R q.1 ∧ bdP R q.2 := fun q hq => by
  obtain ⟨t, ht, u, hu, p, hp, rfl⟩ := mem_boxes.mp hq
  have b1 := b t ht
  have b2 := b1.2.2 u hu
  have b3 := b2.2.2 p hp
  exact ⟨⟨b3.1, b2.1, b1.1⟩, b3.2, b2.2.1, b1.2.1⟩
theorem boxes_apart {S : Solid} (o : okSolid S) : (boxesOf S).Pairwise fun a b => ∀ x ∈ ptsB a, ∀ y ∈ ptsB b, x ≠ y := by
  unfold boxesOf
  refine List.pairwise_flatMap.mpr ⟨fun t ht => ?_, ?_⟩
  · have ol := o.ok t ht
    refine List.pairwise_flatMap.mpr ⟨fun u hu => ?_, ?_⟩
    · have or := ol.ok u hu
      have w := or.wk.ord
      unfold Row.s at w
      rw [List.pairwise_map] at w
      unfold bxU
      rw [List.pairwise_map]
      refine w.imp fun {a b} hab x hx y hy e => ?_
      subst e
      have h1 := (mem_ptsB.mp hx).1
      have h2 := (mem_ptsB.mp hy).1
      dsimp only at h1 h2 hab
      omega
    · refine ol.wk.ord.imp fun {a b} hab q hq r hr x hx y hy e => ?_
      subst e
      obtain ⟨p, _, rfl⟩ := List.mem_map.mp hq
      obtain ⟨p', _, rfl⟩ := List.mem_map.mp hr
      have h1 := (mem_ptsB.mp hx).2.1
      have h2 := (mem_ptsB.mp hy).2.1
      dsimp only at h1 h2
      omega
  · refine o.wk.ord.imp fun {a b} hab q hq r hr x hx y hy e => ?_
    subst e
    obtain ⟨u, _, hq⟩ := List.mem_flatMap.mp hq
    obtain ⟨u', _, hr⟩ := List.mem_flatMap.mp hr
    obtain ⟨p, _, rfl⟩ := List.mem_map.mp hq
    obtain ⟨p', _, rfl⟩ := List.mem_map.mp hr
    have h1 := (mem_ptsB.mp hx).2.2
    have h2 := (mem_ptsB.mp hy).2.2
    dsimp only at h1 h2
    omega
theorem pts_nodup {S : Solid} (o : okSolid S) : (pts S).Nodup := flat_nodup (fun _ _ => ptsB_nodup) (boxes_apart o)
theorem pts_len {S : Solid} (o : okSolid S) : ((pts S).length : Int) = volS S := by
  have : ∀ B : List (P3 × P3), (∀ q ∈ B, ordB q) → ((B.flatMap ptsB).length : Int) = (B.map volB).sum := by
    intro B
    induction B with
    | nil => intro _; rfl
    | cons q B ih =>
      intro h
      rw [List.flatMap_cons, List.length_append, List.map_cons, List.sum_cons, Int.natCast_add, ih fun r hr => h r (.tail _ hr), ptsB_len (h q (.head _))]
  exact this _ fun q hq => by have := boxes_ord o q hq; unfold ordB; omega
/-! ### faces -/
def cnt (f : P3 → Bool) (P : List P3) : Nat := (P.filter f).length
theorem cnt_not {f : P3 → Bool} : ∀ P : List P3, cnt f P + cnt (fun p => !f p) P = P.length
  | [] => rfl
  | p :: P => by
    have := cnt_not (f := f) P
    unfold cnt at *
    rw [List.filter_cons, List.filter_cons, List.length_cons]
    cases f p <;> simp <;> omega
def addV (p d : P3) : P3 := (p.1 + d.1, p.2.1 + d.2.1, p.2.2 + d.2.2)
def negV (d : P3) : P3 := (-d.1, -d.2.1, -d.2.2)
theorem addV_neg (p d : P3) : addV (addV p d) (negV d) = p := by
  unfold addV negV
  refine Prod.ext ?_ (Prod.ext ?_ ?_) <;> dsimp only <;> omega
theorem addV_neg' (p d : P3) : addV (addV p (negV d)) d = p := by
  unfold addV negV
  refine Prod.ext ?_ (Prod.ext ?_ ?_) <;> dsimp only <;> omega
theorem addV_inj {p q d : P3} (h : addV p d = addV q d) : p = q := by
  rw [← addV_neg p d, h, addV_neg]
/-- as many have none behind as have none before -/
theorem cnt_flip {P : List P3} (hP : P.Nodup) (d : P3) : cnt (fun p => !decide (addV p d ∈ P)) P = cnt (fun p => !decide (addV p (negV d) ∈ P)) P := by
  have h1 := cnt_not (f := fun p => decide (addV p d ∈ P)) P
  have h2 := cnt_not (f := fun p => decide (addV p (negV d) ∈ P)) P
  have h3 : cnt (fun p => decide (addV p d ∈ P)) P = cnt (fun p => decide (addV p (negV d) ∈ P)) P := by
    unfold cnt
    have n1 : ((P.filter fun p => decide (addV p d ∈ P)).map fun p => addV p d).Nodup := map_nodup (hP.filter _) fun a _ b _ e => addV_inj e
    rw [← List.length_map (f := fun p => addV p d)]
    refine same_len n1 (hP.filter _) fun p => ?_
    rw [List.mem_map, List.mem_filter]
    constructor
    · rintro ⟨a, ha, rfl⟩
      obtain ⟨a1, a2⟩ := List.mem_filter.mp ha
      exact ⟨of_decide_eq_true a2, decide_eq_true (by rw [addV_neg]; exact a1)⟩
    · intro ⟨a1, a2⟩
      refine ⟨addV p (negV d), List.mem_filter.mpr ⟨of_decide_eq_true a2, decide_eq_true (by rw [addV_neg']; exact a1)⟩, addV_neg' p d⟩
  omega
end Lil
/-! Pt3: moved solids; areas. Own work. -/
set_option linter.all false
set_option Elab.async false
set_option maxRecDepth 100000
namespace Lil
open Sol
def sh {α β : Type} (k : Int) (f : α → β) (s : List (Sg α)) : List (Sg β) := s.map fun t => (t.1 + k, t.2.1 + k, f t.2.2)
theorem ch_map {α β : Type} {R : α → α → Prop} {R' : β → β → Prop} {f : α → β} (h : ∀ a b, R a b → R' (f a) (f b)) : ∀ {s : List α}, Ch R s → Ch R' (s.map f)
  | [], _ => trivial
  | [a], _ => trivial
  | a :: b :: s, g => ⟨h a b g.1, ch_map (s := b :: s) h g.2⟩
theorem sh_cn {α β : Type} {k : Int} {f : α → β} {e : α} {e' : β} {p : α → Prop} {p' : β → Prop} {s : List (Sg α)} (hf : ∀ a b, f a = f b → a = b) (he : f e = e') (hp : ∀ a, p a → p' (f a)) (c : Cn e p s) : Cn e' p' (sh k f s) := by
  refine ⟨fun t ht => ?_, fun t ht => ?_, fun t ht => ?_, ch_map (fun a b h => ?_) c.ch⟩
  · obtain ⟨u, hu, rfl⟩ := List.mem_map.mp ht
    have := c.ne u hu
    dsimp only
    omega
  · obtain ⟨u, hu, rfl⟩ := List.mem_map.mp ht
    intro z
    dsimp only at z
    exact c.nz u hu (hf _ _ (z.trans he.symm))
  · obtain ⟨u, hu, rfl⟩ := List.mem_map.mp ht
    exact hp _ (c.ok u hu)
  · rcases h with h | ⟨h, g⟩
    · left; dsimp only; omega
    · right; dsimp only; exact ⟨by omega, fun z => g (hf _ _ z)⟩
theorem sh_val {α β : Type} {k : Int} {f : α → β} {e : α} {e' : β} (he : f e = e') {x : Int} : ∀ {s : List (Sg α)}, val e' (sh k f s) x = f (val e s (x - k))
  | [] => he.symm
  | t :: s => by
    show (if t.1 + k ≤ x ∧ x < t.2.1 + k then f t.2.2 else val e' (sh k f s) x) = f (if t.1 ≤ x - k ∧ x - k < t.2.1 then t.2.2 else val e s (x - k))
    rw [sh_val he]
    by_cases q : t.1 ≤ x - k ∧ x - k < t.2.1
    · rw [if_pos q, if_pos (by omega)]
    · rw [if_neg q, if_neg (by omega)]
theorem sh_inj {α β : Type} {k : Int} {f : α → β} (hf : ∀ a b, f a = f b → a = b) : ∀ s t : List (Sg α), sh k f s = sh k f t → s = t := fun s t h => map_inj (fun a b z => by
  injection z with z1 z
  injection z with z2 z3
  exact Prod.ext (by omega) (Prod.ext (by omega) (hf _ _ z3))) h
def mvR (k : Int) (r : Row) : Row := r.map fun q => (q.1 + k, q.2 + k)
def mvL (kx ky : Int) (l : Layer) : Layer := sh ky (mvR kx) l
def mvS (d : P3) (S : Solid) : Solid := sh d.2.2 (mvL d.1 d.2.1) S
theorem mvR_s (k : Int) (r : Row) : (mvR k r).s = sh k id r.s := by
  unfold mvR Row.s sh
  rw [List.map_map, List.map_map]
  rfl
theorem mvR_inj {k : Int} : ∀ a b : Row, mvR k a = mvR k b → a = b := fun a b h => map_inj (fun a b z => by
  injection z with z1 z2
  exact Prod.ext (by omega) (by omega)) h
theorem mvL_inj {k j : Int} : ∀ a b : Layer, mvL k j a = mvL k j b → a = b := sh_inj mvR_inj
theorem mvS_inj {d : P3} : ∀ a b : Solid, mvS d a = mvS d b → a = b := sh_inj mvL_inj
theorem mvR_ok {k : Int} (r : Row) (o : okRow r) : okRow (mvR k r) := by
  unfold okRow
  rw [mvR_s]
  exact sh_cn (fun _ _ h => h) rfl (fun _ h => h) o
theorem mvL_ok {k j : Int} (l : Layer) (o : okLayer l) : okLayer (mvL k j l) := sh_cn mvR_inj rfl mvR_ok o
theorem mvS_ok {d : P3} {S : Solid} (o : okSolid S) : okSolid (mvS d S) := sh_cn mvL_inj rfl mvL_ok o
theorem mvS_has {d : P3} {S : Solid} {z y x : Int} : has3 (mvS d S) z y x = has3 S (z - d.2.2) (y - d.2.1) (x - d.1) := by
  unfold has3 has2 has1 mvS
  rw [sh_val (e := []) (e' := []) rfl]
  unfold mvL
  rw [sh_val (e := []) (e' := []) rfl, mvR_s, sh_val (e := false) (e' := false) rfl]
  rfl
theorem mvS_bd {R R' : Int → Prop} {d : P3} {S : Solid} (hx : ∀ x, R x → R' (x + d.1)) (hy : ∀ x, R x → R' (x + d.2.1)) (hz : ∀ x, R x → R' (x + d.2.2)) (b : bd3 R S) : bd3 R' (mvS d S) := fun t ht => by
  obtain ⟨t, h, rfl⟩ := List.mem_map.mp ht
  have b1 := b t h
  refine ⟨hz _ b1.1, hz _ b1.2.1, fun u hu => ?_⟩
  obtain ⟨u, g, rfl⟩ := List.mem_map.mp hu
  have b2 := b1.2.2 u g
  refine ⟨hy _ b2.1, hy _ b2.2.1, fun q hq => ?_⟩
  obtain ⟨q, i, rfl⟩ := List.mem_map.mp hq
  have b3 := b2.2.2 q i
  exact ⟨hx _ b3.1, hx _ b3.2⟩
/-- what stands out against the solid moved by d -/
theorem out_len {S : Solid} (o : okSolid S) {P : List P3} (hP : P.Nodup) (hm : ∀ p, p ∈ P ↔ hasS S p) (d : P3) : volS (solidM .first S (mvS d S)) = cnt (fun p => !decide (addV p (negV d) ∈ P)) P := by
  obtain ⟨o1, o2⟩ := solid_ok (w := .first) o (mvS_ok (d := d) o)
  rw [← pts_len o1]
  congr 1
  unfold cnt
  refine same_len (pts_nodup o1) (hP.filter _) fun p => ?_
  rw [mem_pts o1, List.mem_filter, hm]
  unfold hasS
  rw [o2, mvS_has]
  have e : addV p (negV d) ∈ P ↔ has3 S (p.2.2 - d.2.2) (p.2.1 - d.2.1) (p.1 - d.1) = true := by
    rw [hm]
    rfl
  have e2 : (!decide (addV p (negV d) ∈ P)) = !(has3 S (p.2.2 - d.2.2) (p.2.1 - d.2.1) (p.1 - d.1)) := by
    congr 1
    rw [Bool.eq_iff_iff, decide_eq_true_iff]
    exact e
  rw [e2]
  unfold Sol.bop
  simp
end Lil
/-! Fn22: _law_is, moved, has. Own work. -/
set_option linter.all false
set_option Elab.async false
set_option maxRecDepth 100000
set_option maxHeartbeats 2000000
namespace Lil
open Sol
theorem sol_sz {S : Solid} (f : few S) : sz3 (rsl S) := by
  refine ⟨by unfold rsl; rw [List.length_map]; have := f.1; omega, fun t0 ht0 => ?_⟩
  obtain ⟨t, ht, rfl⟩ := List.mem_map.mp ht0
  obtain ⟨g1, g2⟩ := f.2 t ht
  refine ⟨by show (rl t.2.2).length < _; unfold rl; rw [List.length_map]; omega, fun u0 hu0 => ?_⟩
  obtain ⟨u, hu, rfl⟩ := List.mem_map.mp hu0
  have := g2 u hu
  show (rr u.2.2).length < _
  unfold rr
  rw [List.length_map]
  omega
theorem rg_box {S : Solid} {c : Int} (o : okSolid S) (b : bd3 (Rg c) S) : ∀ q ∈ boxesOf S, boxIn c q := fun q hq => by
  have h1 := boxes_bd b q hq
  have h2 := boxes_ord o q hq
  unfold bdP Rg at h1
  unfold boxIn
  omega
theorem rg_near {S : Solid} {c : Int} (b : bd3 (Rg c) S) (c0 : -900 < c) (c1 : c < 900) : ∀ q ∈ boxesOf S, nearB q := fun q hq => by
  have h1 := boxes_bd b q hq
  unfold bdP Rg at h1
  unfold nearB
  omega
theorem blt_lenC {h : Hd} {n : Nat} {P : List P3} (e : h[n]? = some (.dtt (encC P))) : Lil.blt .len [.ref n] h = .ok (.int P.length) h := by
  unfold Lil.blt seqOf dctT
  dsimp only
  rw [e]
  dsimp only
  rw [encC_len]
def IsOk (f : List DV → Hd → Res DV) : Prop := ∀ (S : Solid) (P : List P3) (c : Int) (n : Nat) (h : Hd), okSolid S → bd3 (Rg c) S → -900 < c → c < 900 → h[n]? = some (.dtt (encC P)) → P.Nodup →
  To (f [encSol S, .ref n] h) fun v h' => ((∀ p, p ∈ P ↔ hasS S p) → v = .bl true) ∧ Kp h.length h h'
theorem is_fn {F : Nat → List DV → Hd → Res DV} {iS iB iV iC : Nat} (hS : SolIs (F iS)) (hB : BoxesOfOk (F iB)) (hV : VolOk (F iV)) (hC : CellsOk (F iC)) : IsOk (runF F (D__law_is iS iB iV iC)) := by
  intro S P c n h o b c0 c1 e hP
  refine runF_to rfl ?_
  have nl := lt_of_get e
  have fw := few_of o b
  simp only [B__law_is]
  simp only [List.map_cons, List.map_nil, List.cons_append, List.nil_append, List.replicate, Nat.reduceSub, FT_step, evS_ift, ev_nt, ev_cal, evs_cons, evs_nil, ev_var, List.getElem?_cons_zero, List.getElem?_cons_succ, ok_bind, FT_fl, To_bind]
  have h1 := hS (rsl S) h (sol_sz fw)
  rw [enc_rsl] at h1
  refine h1.imp fun v h1 ⟨⟨b1, e1, hb⟩, k1⟩ => ?_
  subst e1
  rw [hb.mpr (okRS_iff.mpr ⟨S, rfl, o⟩)]
  simp only [truR_bl, To_ok, Bool.not_true, Bool.false_eq_true, if_false, FT_nil, FT_step, evS_asg, ev_cal, evs_cons, evs_nil, ev_var, List.getElem?_cons_zero, List.getElem?_cons_succ, ok_bind, FT_fl, To_bind]
  refine (hB S h1 fw).imp fun v h2 ⟨m, m1, e2, f2, k2⟩ => ?_
  subst e2
  try simp only [ok_bind, To_ok]
  refine (hC m (boxesOf S) c h2 f2 (rg_box o b) (by omega) (by omega) (by have := boxes_len fw; omega)).imp fun v h3 ⟨k, Q, e3, l3, f3, nQ, mQ, k3⟩ => ?_
  subst e3
  have mQ' : ∀ p, p ∈ Q ↔ hasS S p := fun p => (mQ p).trans (hasS_iff o).symm
  have l1 := k1.len
  have l2 := k2.len
  have l4 := k3.len
  have g3 : h3[n]? = some (.dtt (encC P)) := k3.get (by omega) (k2.get (by omega) (k1.get nl e))
  simp only [asg_nm, To_ok, FT_nx, List.set_cons_succ, List.set_cons_zero, FT_step, evS_ret, ev_and, ev_cmp, ev_cal, ev_blt, evs_cons, evs_nil, ev_var, List.getElem?_cons_zero, List.getElem?_cons_succ, ok_bind, FT_fl, To_bind, cop_eqC f3 g3, litB_some, truR_bl]
  have kk : Kp h.length h h3 := (k1.trans k2 l1).trans k3 (by omega)
  by_cases z : sameP Q P = true
  · simp only [z, truR_bl, To_ok, To_bind, To_ite, if_true, blt_lenC f3, ok_bind]
    refine (hV S h3 fw (rg_near b c0 c1)).imp fun v h4 ⟨e4, k4⟩ => ?_
    subst e4
    have ln : (Q.length : Int) = volS S := by
      rw [← pts_len o]
      congr 1
      exact same_len nQ (pts_nodup o) fun p => (mQ' p).trans (mem_pts o).symm
    simp only [cop_eqi, litB_some, To_ok, FT_rt, ln, decide_true, ok_bind]
    exact ⟨fun _ => trivial, kk.trans k4 kk.len⟩
  · have z' : sameP Q P = false := by simpa using z
    simp only [z', truR_bl, To_ok, To_bind, To_ite, Bool.false_eq_true, if_false, FT_rt]
    refine ⟨fun hm => absurd ((sameP_iff nQ hP).mpr fun p => (mQ' p).trans (hm p).symm) z, kk⟩
/-! ### moved -/
def MovedOk (f : List DV → Hd → Res DV) : Prop := ∀ (S : Solid) (d : P3) (h : Hd), few S → To (f [encSol S, encPt d] h) fun v h' => v = encSol (mvS d S) ∧ Kp h.length h h'
theorem moved_fn {F : Nat → List DV → Hd → Res DV} : MovedOk (runF F D_moved) := by
  intro S d h ⟨hS, hS2⟩
  refine runF_to rfl ?_
  simp only [B_moved, encSol, encS, encPt]
  simp only [List.map_cons, List.map_nil, List.cons_append, List.nil_append, List.replicate, Nat.reduceSub, FT_step, evS_asg, ev_lst, evs_nil, ev_var, List.getElem?_cons_succ, List.getElem?_cons_zero, mkLst, List.length_nil, Nat.zero_le, if_true, alloc, ok_bind, FT_fl, To_ok, asg_tp, asgs_cons, asgs_nil, asg_nm, FT_nx, List.set_cons_succ, List.set_cons_zero, evS_fo, evi_sq]
  obtain ⟨I, eI⟩ : ∃ I : Nat → Sl → Hd → Prop, ∀ i s h', I i s h' ↔ ∃ (x6 x7 x8 x9 : Option DV), s = [some (.tup (S.map (encSg encLay))), some (.tup [.int d.1, .int d.2.1, .int d.2.2]), some (.int d.1), some (.int d.2.1), some (.int d.2.2), some (.ref h.length), x6, x7, x8, x9, none, none, none, none, none] ∧ h'[h.length]? = some (.lst (((mvS d S).take i).map (encSg encLay))) ∧ Kp h.length h h' := ⟨_, fun _ _ _ => Iff.rfl⟩
  simp only [FT_aft, unlk_tup]
  refine loopF_rule (S.map (encSg encLay)) I (fun i s h' _ _ => rfl) (fun i e σ h' hd hI => ?_) (fun σ h' hI => ?_) _ _ _ _ (Nat.zero_le _) (by rw [List.length_map]; simp only [FUEL]; omega) ((eI ..).mpr ⟨none, none, none, none, rfl, get_new _ _, Kp.app _ (Nat.le_refl _)⟩)
  · obtain ⟨x6, x7, x8, x9, rfl, e1, kp⟩ := (eI ..).mp hI
    rw [List.getElem?_map] at hd
    obtain ⟨t, ht, rfl⟩ := Option.map_eq_some_iff.mp hd
    have tm := List.mem_of_getElem? ht
    have gt := hS2 t tm
    have hi : i < S.length := (List.getElem?_eq_some_iff.mp ht).1
    have nl := lt_of_get e1
    simp only [encSg, bind1_tp, bindAll_cons, bindAll_nil, bind1_nm, List.set_cons_succ, List.set_cons_zero, FT_step, evS_asg, ev_blt, evs_cons, evs_nil, ev_lc, evi_sq, ev_var, List.getElem?_cons_succ, List.getElem?_cons_zero, ok_bind, encLay, encS, FT_fl, To_bind, To_aft, unlk_tup]
    refine loopC_pure (t.2.2.map (encSg encRow)) ((mvL d.1 d.2.1 t.2.2).map (encSg encRow)) rfl (by unfold mvL sh; simp) (by rw [List.length_map]; have := gt.1; omega) (fun i h' _ _ => rfl) (fun j e v h2 hd hv k2 => ?_) (fun h2 hg k2 => ?_)
    · rw [List.getElem?_map] at hd hv
      obtain ⟨u, hu, rfl⟩ := Option.map_eq_some_iff.mp hd
      unfold mvL sh at hv
      rw [List.getElem?_map, hu] at hv
      cases hv
      have gu := gt.2 u (List.mem_of_getElem? hu)
      simp only [wip, encSg, bind1_tp, bindAll_cons, bindAll_nil, bind1_nm, List.set_cons_succ, List.set_cons_zero, evc_no, ok_bind, ev_tup, evs_cons, evs_nil, ev_bin, ev_var, List.foldl_cons, List.foldl_nil, List.getElem?_cons_succ, List.getElem?_cons_zero, bop_add, ev_blt, ev_lc, evi_sq, encRow, To_bind, To_aft, unlk_tup, if_true]
      refine loopC_pure (u.2.2.map encP) ((mvR d.1 u.2.2).map encP) rfl (by unfold mvR; simp) (by rw [List.length_map]; omega) (fun i h' _ _ => rfl) (fun q e v h3 hd hv _ => ?_) (fun h3 hg k3 => ?_)
      · rw [List.getElem?_map] at hd hv
        unfold mvR at hv
        rw [List.getElem?_map] at hv
        obtain ⟨p, hp, rfl⟩ := Option.map_eq_some_iff.mp hd
        rw [hp] at hv
        cases hv
        simp [wip, encP, mkTup, LN]
        exact Kp.refl
      · have sq : Lil.blt .tuple [.ref h2.length] h3 = .ok (.tup ((mvR d.1 u.2.2).map encP)) h3 := by
          unfold Lil.blt seqOf
          simp only [hg]
        simp only [sq, To_ok, ok_bind, mkTup, List.length_cons, List.length_nil, LN, Nat.zero_add, Nat.reduceAdd, Nat.reduceLeDiff, if_true]
        exact ⟨trivial, k3⟩
    · have sq : Lil.blt .tuple [.ref h'.length] h2 = .ok (.tup ((mvL d.1 d.2.1 t.2.2).map (encSg encRow))) h2 := by
        unfold Lil.blt seqOf
        simp only [hg]
      have f2 := k2.get nl e1
      have ml : (mvS d S).length = S.length := by unfold mvS sh; rw [List.length_map]
      have rc : recv .append (.ref h.length) h2 = true := by unfold recv; simp only [f2]; rfl
      have mt : (mvS d S).take (i + 1) = (mvS d S).take i ++ [(t.1 + d.2.2, t.2.1 + d.2.2, mvL d.1 d.2.1 t.2.2)] := by
        rw [List.take_add_one]
        unfold mvS sh
        rw [List.getElem?_map, ht]
        rfl
      have ad : mth .append (.ref h.length) [.tup [.int (t.1 + d.2.2), .int (t.2.1 + d.2.2), .tup ((mvL d.1 d.2.1 t.2.2).map (encSg encRow))]] h2 = .ok .non (h2.set h.length (.lst (((mvS d S).take (i + 1)).map (encSg encLay)))) := by
        unfold Lil.mth
        simp only [f2]
        rw [if_pos (by rw [List.length_map, List.length_take]; simp only [LN]; omega), mt, List.map_append]
        rfl
      simp only [sq, To_ok, ok_bind, asg_nm, FT_nx, List.set_cons_succ, List.set_cons_zero, FT_step, evS_exp, ev_mth, ev_tup, evs_cons, evs_nil, ev_bin, bop_add, ev_var, List.getElem?_cons_succ, List.getElem?_cons_zero, mkTup, List.length_cons, List.length_nil, LN, Nat.zero_add, Nat.reduceAdd, Nat.reduceLeDiff, if_true, rc, ad, FT_fl, FT_nil]
      exact (eI ..).mpr ⟨_, _, _, _, rfl, get_set f2, (kp.trans k2 kp.len).set (Nat.le_refl _)⟩
  · obtain ⟨x6, x7, x8, x9, rfl, e1, kp⟩ := (eI ..).mp hI
    have ml : (mvS d S).length = S.length := by unfold mvS sh; rw [List.length_map]
    rw [List.length_map, ← ml, List.take_length] at e1
    have sq : Lil.blt .tuple [.ref h.length] h' = .ok (.tup ((mvS d S).map (encSg encLay))) h' := by
      unfold Lil.blt seqOf
      simp only [e1]
    simp only [FT_step, evS_ret, ev_blt, evs_cons, evs_nil, ev_var, List.getElem?_cons_succ, List.getElem?_cons_zero, ok_bind, sq, FT_fl, To_ok, FT_rt]
    exact ⟨trivial, kp⟩
end Lil
/-! Fn23: has, area, _law_faces. Own work. -/
set_option linter.all false
set_option Elab.async false
set_option maxRecDepth 100000
set_option maxHeartbeats 2000000
namespace Lil
open Sol
theorem blt_anyB {h : Hd} {n : Nat} {bs : List Bool} (e : h[n]? = some (.lst (bs.map .bl))) : Lil.blt .any [.ref n] h = .ok (.bl (bs.any id)) h := by
  unfold Lil.blt
  simp only [e]
  rw [allBls_map]
def HasOk (f : List DV → Hd → Res DV) : Prop := ∀ (S : Solid) (p : P3) (h : Hd), okSolid S → few S → To (f [encSol S, encPt p] h) fun v h' => v = .bl (decide (hasS S p)) ∧ Kp h.length h h'
theorem has_fn {F : Nat → List DV → Hd → Res DV} : HasOk (runF F D_has) := by
  intro S p h o ⟨hS, hS2⟩
  refine runF_to rfl ?_
  simp only [B_has, encSol, encS, encPt]
  simp only [List.map_cons, List.map_nil, List.cons_append, List.nil_append, List.replicate, Nat.reduceSub, FT_step, evS_fo, evi_sq, ev_var, List.getElem?_cons_succ, List.getElem?_cons_zero, ok_bind, FT_fl, To_ok, FT_aft, unlk_tup]
  refine loopF_rule (S.map (encSg encLay)) (fun i s h' => ∃ (x2 x3 x4 x5 x6 x7 : Option DV), s = [some (.tup (S.map (encSg encLay))), some (.tup [.int p.1, .int p.2.1, .int p.2.2]), x2, x3, x4, x5, x6, x7, none, none] ∧ (∀ t ∈ S.take i, t.1 ≤ p.2.2 ∧ p.2.2 < t.2.1 → has2 t.2.2 p.2.1 p.1 = false) ∧ h' = h) (fun i s h' _ _ => rfl) (fun i e σ h' hd hI => ?_) (fun σ h' hI => ?_) _ _ _ _ (Nat.zero_le _) (by rw [List.length_map]; simp only [FUEL]; omega) ⟨none, none, none, none, none, none, rfl, fun t ht => by simp at ht, rfl⟩
  · obtain ⟨x2, x3, x4, x5, x6, x7, rfl, e1, rfl⟩ := hI
    rw [List.getElem?_map] at hd
    obtain ⟨t, ht, rfl⟩ := Option.map_eq_some_iff.mp hd
    have tm := List.mem_of_getElem? ht
    have gt := hS2 t tm
    have ol := o.ok t tm
    have next : (t.1 ≤ p.2.2 ∧ p.2.2 < t.2.1 → has2 t.2.2 p.2.1 p.1 = false) → ∀ u ∈ S.take (i + 1), u.1 ≤ p.2.2 ∧ p.2.2 < u.2.1 → has2 u.2.2 p.2.1 p.1 = false := fun z u hu => by
      rw [List.take_add_one, ht] at hu
      rcases List.mem_append.mp hu with hu | hu
      · exact e1 u hu
      · rw [List.mem_singleton.mp hu]; exact z
    simp only [encSg, bind1_tp, bindAll_cons, bindAll_nil, bind1_nm, List.set_cons_succ, List.set_cons_zero, FT_step, evS_ift, ev_chn, ev_idx, ev_var, ev_lit, List.getElem?_cons_succ, List.getElem?_cons_zero, ok_bind, ix_0, ix_1, ix_2, ofO_some, cop_le, cop_lt]
    by_cases q1 : t.1 ≤ p.2.2
    · by_cases q2 : p.2.2 < t.2.1
      · simp only [q1, q2, decide_true, litB_some, truR_bl, ok_bind, FT_fl, To_ok, if_true, FT_step, evS_fo, evi_sq, ev_var, List.getElem?_cons_succ, List.getElem?_cons_zero, encLay, encS, FT_aft, unlk_tup]
        refine loopF_rule (t.2.2.map (encSg encRow)) (fun j s h2 => ∃ (x5 x6 x7 : Option DV), s = [some (.tup (S.map (encSg encLay))), some (.tup [.int p.1, .int p.2.1, .int p.2.2]), some (.int t.1), some (.int t.2.1), some (.tup (t.2.2.map (encSg encRow))), x5, x6, x7, none, none] ∧ (∀ u ∈ t.2.2.take j, ¬ (u.1 ≤ p.2.1 ∧ p.2.1 < u.2.1)) ∧ h2 = h') (fun i s h' _ _ => rfl) (fun j e σ h2 hd hI => ?_) (fun σ h2 hI => ?_) _ _ _ _ (Nat.zero_le _) (by rw [List.length_map]; have := gt.1; simp only [FUEL]; omega) ⟨_, _, _, rfl, fun t ht => by simp at ht, rfl⟩
        · obtain ⟨x5, x6, x7, rfl, e2, rfl⟩ := hI
          rw [List.getElem?_map] at hd
          obtain ⟨u, hu, rfl⟩ := Option.map_eq_some_iff.mp hd
          have um := List.mem_of_getElem? hu
          have gu := gt.2 u um
          have or := ol.ok u um
          have next2 : ¬ (u.1 ≤ p.2.1 ∧ p.2.1 < u.2.1) → ∀ v ∈ t.2.2.take (j + 1), ¬ (v.1 ≤ p.2.1 ∧ p.2.1 < v.2.1) := fun z v hv => by
            rw [List.take_add_one, hu] at hv
            rcases List.mem_append.mp hv with hv | hv
            · exact e2 v hv
            · rw [List.mem_singleton.mp hv]; exact z
          simp only [encSg, bind1_tp, bindAll_cons, bindAll_nil, bind1_nm, List.set_cons_succ, List.set_cons_zero, FT_step, evS_ift, ev_chn, ev_idx, ev_var, ev_lit, List.getElem?_cons_succ, List.getElem?_cons_zero, ok_bind, ix_0, ix_1, ix_2, ofO_some, cop_le, cop_lt]
          by_cases q3 : u.1 ≤ p.2.1
          · by_cases q4 : p.2.1 < u.2.1
            · simp only [q3, q4, decide_true, litB_some, truR_bl, ok_bind, FT_fl, To_ok, if_true, FT_step, evS_ret, ev_blt, evs_cons, evs_nil, ev_lc, evi_sq, ev_var, List.getElem?_cons_succ, List.getElem?_cons_zero, encRow, To_bind, To_aft, unlk_tup]
              refine loopC_pure (u.2.2.map encP) ((u.2.2.map fun r => decide (r.1 ≤ p.1 ∧ p.1 < r.2)).map DV.bl) rfl (by simp) (by rw [List.length_map]; omega) (fun i h' _ _ => rfl) (fun q e v h3 hd hv _ => ?_) (fun h3 hg k3 => ?_)
              · rw [List.getElem?_map] at hd hv
                rw [List.getElem?_map] at hv
                obtain ⟨r, hr, rfl⟩ := Option.map_eq_some_iff.mp hd
                rw [hr] at hv
                cases hv
                simp only [wip, encP, bind1_tp, bindAll_cons, bindAll_nil, bind1_nm, List.foldl_cons, List.foldl_nil, List.set_cons_succ, List.set_cons_zero, evc_no, ok_bind, if_true, ev_chn, ev_idx, ev_var, ev_lit, List.getElem?_cons_succ, List.getElem?_cons_zero, ix_0, ix_1, ix_2, ofO_some, cop_le, cop_lt]
                by_cases z1 : r.1 ≤ p.1
                · simp only [z1, decide_true, litB_some, ok_bind, To_ok, true_and]
                  exact Kp.refl
                · simp only [z1, decide_false, litB_some, ok_bind, To_ok, false_and, true_and]
                  exact Kp.refl
              · simp only [blt_anyB hg, To_ok, FT_rt]
                refine ⟨?_, k3⟩
                congr 1
                rw [Bool.eq_iff_iff, decide_eq_true_iff]
                unfold hasS has3
                rw [val_at o.wk tm q1 q2]
                unfold has2
                rw [val_at ol.wk um q3 q4, has1_any or.wk, List.any_map]
                rfl
            · simp only [q3, q4, decide_true, decide_false, litB_some, truR_bl, ok_bind, FT_fl, To_ok, Bool.false_eq_true, if_false, FT_nil]
              exact ⟨_, _, _, rfl, next2 fun z => q4 z.2, trivial⟩
          · simp only [q3, decide_false, litB_some, truR_bl, ok_bind, FT_fl, To_ok, Bool.false_eq_true, if_false, FT_nil]
            exact ⟨_, _, _, rfl, next2 fun z => q3 z.1, trivial⟩
        · obtain ⟨x5, x6, x7, rfl, e2, rfl⟩ := hI
          simp only [FT_nil]
          refine ⟨_, _, _, _, _, _, rfl, next fun _ => ?_, trivial⟩
          rw [List.length_map, List.take_length] at e2
          unfold has2
          rcases val_mem (e := []) (x := p.2.1) (s := t.2.2) with z | ⟨u, hu, z1, z2, z3⟩
          · rw [z]; rfl
          · exact absurd ⟨z1, z2⟩ (e2 u hu)
      · simp only [q1, q2, decide_true, decide_false, litB_some, truR_bl, ok_bind, FT_fl, To_ok, Bool.false_eq_true, if_false, FT_nil]
        exact ⟨_, _, _, _, _, _, rfl, next fun z => absurd z.2 q2, trivial⟩
    · simp only [q1, decide_false, litB_some, truR_bl, ok_bind, FT_fl, To_ok, Bool.false_eq_true, if_false, FT_nil]
      exact ⟨_, _, _, _, _, _, rfl, next fun z => absurd z.1 q1, trivial⟩
  · obtain ⟨x2, x3, x4, x5, x6, x7, rfl, e1, rfl⟩ := hI
    rw [List.length_map, List.take_length] at e1
    simp only [FT_step, evS_ret, ev_lit, FT_fl, To_ok, FT_rt, FT_nil]
    refine ⟨?_, Kp.refl⟩
    congr 1
    symm
    rw [decide_eq_false_iff_not]
    unfold hasS has3
    rcases val_mem (e := []) (x := p.2.2) (s := S) with z | ⟨t, ht, z1, z2, z3⟩
    · rw [z]; intro z; cases z
    · rw [← z3, e1 t ht ⟨z1, z2⟩]
      intro z; cases z
/-! ### area -/
/-- one step along an axis -/
def dv (a s : Int) : P3 := (if 0 = a then s else 0, if 1 = a then s else 0, if 2 = a then s else 0)
theorem vol_lt {S : Solid} {c : Int} (o : okSolid S) (b : bd3 (Rg c) S) : 0 ≤ volS S ∧ volS S ≤ 216000 := by
  rw [← pts_len o]
  have := cube_len (c := c) (pts_nodup o) fun p hp => by
    obtain ⟨q, hq, g⟩ := (hasS_iff o).mp ((mem_pts o).mp hp)
    exact boxIn_cube (rg_box o b q hq) g
  omega
def outA (S : Solid) (a : Int) : Int := volS (solidM .first S (mvS (dv a 1) S))
def AreaOk (f : List DV → Hd → Res DV) : Prop := ∀ (S : Solid) (c : Int) (h : Hd), okSolid S → bd3 (fun x => c ≤ x ∧ x ≤ c + 59) S → -900 < c → c < 900 → To (f [encSol S] h) fun v h' => v = .int (2 * outA S 0 + 2 * outA S 1 + 2 * outA S 2) ∧ Kp h.length h h'
theorem area_fn {F : Nat → List DV → Hd → Res DV} {iL iV iM : Nat} (hL : SolOk .first (F iL)) (hV : VolOk (F iV)) (hM : MovedOk (F iM)) : AreaOk (runF F (D_area iL iV iM)) := by
  intro S c h o b c0 c1
  have bS : bd3 (Rg c) S := bd3_imp (fun x h => ⟨h.1, by have := h.2; omega⟩) b
  refine runF_to rfl ?_
  simp only [B_area]
  simp only [List.map_cons, List.map_nil, List.cons_append, List.nil_append, List.replicate, Nat.reduceSub, FT_step, evS_asg, ev_lit, ok_bind, FT_fl, To_ok, asg_nm, FT_nx, List.set_cons_succ, List.set_cons_zero, evS_fo, evi_sq, FT_aft, unlk_tup]
  refine loopF_rule [DV.int 0, DV.int 1, DV.int 2] (fun i s h' => ∃ x2 x3, s = [some (encSol S), some (.int ((([0, 1, 2].take i).map fun a => 2 * outA S a).sum)), x2, x3, none] ∧ Kp h.length h h') (fun i s h' _ _ => rfl) (fun i d s h' hd hI => ?_) (fun s h' hI => ?_) _ _ _ _ (Nat.zero_le _) (by simp [FUEL]) ⟨none, none, rfl, Kp.refl⟩
  · obtain ⟨x2, x3, rfl, kp⟩ := hI
    obtain ⟨a, hd', rfl⟩ : ∃ a : Int, ([0, 1, 2] : List Int)[i]? = some a ∧ d = .int a := by
      rw [show [DV.int 0, DV.int 1, DV.int 2] = ([0, 1, 2] : List Int).map DV.int from rfl, List.getElem?_map] at hd
      obtain ⟨a, h1, h2⟩ := Option.map_eq_some_iff.mp hd
      exact ⟨a, h1, h2.symm⟩
    have bM : bd3 (Rg c) (mvS (dv a 1) S) := mvS_bd (fun x h => by unfold dv Rg; dsimp only; split <;> omega) (fun x h => by unfold dv Rg; dsimp only; split <;> omega) (fun x h => by unfold dv Rg; dsimp only; split <;> omega) b
    simp only [bind1_nm, List.set_cons_succ, List.set_cons_zero, FT_step, evS_asg, ev_blt, evs_cons, evs_nil, ev_lc, evi_sq, ev_lit, ok_bind, FT_fl, To_bind, To_aft, unlk_tup]
    refine loopC_pure [DV.int 0, DV.int 1, DV.int 2] [DV.int (dv a 1).1, DV.int (dv a 1).2.1, DV.int (dv a 1).2.2] rfl rfl (by decide) (fun i h' _ _ => rfl) (fun j e v h2 hd hv k2 => ?_) (fun h2 hg k2 => ?_)
    · obtain ⟨b, rfl, rfl⟩ : ∃ b : Int, e = .int b ∧ v = .int (if b = a then 1 else 0) := by
        match j, hd, hv with
        | 0, hd, hv => cases hd; cases hv; exact ⟨0, rfl, rfl⟩
        | 1, hd, hv => cases hd; cases hv; exact ⟨1, rfl, rfl⟩
        | 2, hd, hv => cases hd; cases hv; exact ⟨2, rfl, rfl⟩
        | j + 3, hd, hv => cases hd
      simp only [wip, bind1_nm, List.foldl_cons, List.foldl_nil, List.set_cons_succ, List.set_cons_zero, evc_no, ok_bind, if_true, ev_ife, ev_cmp, ev_var, ev_lit, List.getElem?_cons_succ, List.getElem?_cons_zero, cop_eqi, litB_some, truR_bl]
      by_cases z : b = a
      · simp only [z, decide_true, if_true, ok_bind, To_ok, true_and]
        exact Kp.refl
      · simp only [z, decide_false, Bool.false_eq_true, if_false, ok_bind, To_ok, true_and]
        exact Kp.refl
    · have sq : Lil.blt .tuple [.ref h'.length] h2 = .ok (encPt (dv a 1)) h2 := by
        unfold Lil.blt seqOf
        simp only [hg]
        rfl
      simp only [sq, To_ok, asg_nm, FT_nx, List.set_cons_succ, List.set_cons_zero, FT_step, evS_aug, ev_bin, ev_lit, ev_cal, evs_cons, evs_nil, ev_var, List.getElem?_cons_succ, List.getElem?_cons_zero, ok_bind, FT_fl, To_bind]
      refine (hM S (dv a 1) h2 (few_of o bS)).imp fun v h3 ⟨e3, k3⟩ => ?_
      subst e3
      try simp only [To_ok, ok_bind]
      refine (hL S (mvS (dv a 1) S) c h3 o (mvS_ok o) bS bM).imp fun v h4 ⟨e4, k4⟩ => ?_
      subst e4
      try simp only [To_ok, ok_bind]
      have oU := (solid_ok (w := .first) o (mvS_ok (d := dv a 1) o)).1
      have bU : bd3 (Rg c) (solidM .first S (mvS (dv a 1) S)) := solid_bd bS bM
      refine (hV _ h4 (few_of oU bU) (rg_near bU c0 c1)).imp fun v h5 ⟨e5, k5⟩ => ?_
      subst e5
      have m1 : bop .mul (.int 2) (.int (volS (solidM .first S (mvS (dv a 1) S)))) h5 = .ok (.int (2 * outA S a)) h5 := mul_to (decide_eq_true (.inl ⟨by omega, by omega⟩))
      have kk : Kp h.length h h5 := by
        have l1 := kp.len; have l2 := k2.len; have l3 := k3.len; have l4 := k4.len
        exact (((kp.trans k2 l1).trans k3 (by omega)).trans k4 (by omega)).trans k5 (by omega)
      have sm : (([0, 1, 2].take (i + 1)).map fun a => 2 * outA S a).sum = (([0, 1, 2].take i).map fun a => 2 * outA S a).sum + 2 * outA S a := by
        rw [List.take_add_one, hd']
        simp
      simp only [To_ok, m1, iop, bop_add, FT_nx, List.set_cons_succ, List.set_cons_zero, FT_nil]
      exact ⟨_, _, by rw [sm], kk⟩
  · obtain ⟨x2, x3, rfl, kp⟩ := hI
    simp only [FT_step, evS_ret, ev_var, List.getElem?_cons_succ, List.getElem?_cons_zero, FT_fl, To_ok, FT_rt, FT_nil]
    refine ⟨?_, kp⟩
    congr 1
    show 2 * outA S 0 + (2 * outA S 1 + (2 * outA S 2 + 0)) = _
    omega
end Lil
/-! Fn24: _law_faces, bounds. Own work. -/
set_option linter.all false
set_option Elab.async false
set_option maxRecDepth 100000
set_option maxHeartbeats 2000000
namespace Lil
open Sol
/-! ### walks over a dict of points -/
theorem dk_item {h : Hd} {n : Nat} {P : List P3} (e : h[n]? = some (.lkt (encC P))) (i : Nat) : itemAt h (.dk n) i = match (P.map encPt)[i]? with | some d => .item d | none => .stop := by
  simp only [itemAt, e]
  unfold encC
  rw [List.getElem?_map, List.getElem?_map]
  cases P[i]? <;> rfl
theorem unlk_dk {h : Hd} {n : Nat} {ps : List (DV × DV)} (e : h[n]? = some (.lkt ps)) : unlk (.dk n) h = h.set n (.dtt ps) := by
  simp only [unlk, e]
theorem Kp.back {h h' : Hd} {n : Nat} {o o' : DO} (e : h[n]? = some o) (k : Kp h.length (h.set n o') h') : Kp h.length h (h'.set n o) := by
  have nl := lt_of_get e
  refine ⟨by rw [List.length_set]; exact k.len, fun m hm => ?_⟩
  by_cases q : m = n
  · subst q
    rw [e, List.getElem?_set_self (by have := k.len; omega)]
  · rw [List.getElem?_set_ne (fun z => q z.symm), k.eq m hm, List.getElem?_set_ne (fun z => q z.symm)]
theorem Kp.backn {h h' : Hd} {n N : Nat} {o o' : DO} (e : h[n]? = some o) (k : Kp N (h.set n o') h') (q : n < h'.length) : Kp N h (h'.set n o) := by
  have nl := lt_of_get e
  refine ⟨by rw [List.length_set]; exact k.len, fun m hm => ?_⟩
  by_cases q : m = n
  · subst q
    rw [e, List.getElem?_set_self (by omega)]
  · rw [List.getElem?_set_ne (fun z => q z.symm), k.eq m hm, List.getElem?_set_ne (fun z => q z.symm)]
/-! ### faces -/
def isOut (P : List P3) (p : P3) (a s : Int) : Int := if addV p (dv a s) ∈ P then 0 else 1
def outs2 (P : List P3) (p : P3) (a : Int) : Int := isOut P p a (-1) + isOut P p a 1
def outs6 (P : List P3) (p : P3) : Int := outs2 P p 0 + outs2 P p 1 + outs2 P p 2
theorem sum_add {α : Type} (f g : α → Int) : ∀ l : List α, (l.map fun x => f x + g x).sum = (l.map f).sum + (l.map g).sum
  | [] => rfl
  | x :: l => by
    rw [List.map_cons, List.map_cons, List.map_cons, List.sum_cons, List.sum_cons, List.sum_cons, sum_add f g l]
    omega
theorem sum_cnt (f : P3 → Bool) : ∀ l : List P3, (l.map fun x => if f x = true then (0 : Int) else 1).sum = cnt (fun x => !f x) l
  | [] => rfl
  | x :: l => by
    rw [List.map_cons, List.sum_cons, sum_cnt f l]
    unfold cnt
    rw [List.filter_cons]
    cases f x <;> simp <;> omega
theorem dv_neg (a : Int) (h : a = 0 ∨ a = 1 ∨ a = 2) : negV (dv a 1) = dv a (-1) := by
  rcases h with rfl | rfl | rfl <;> rfl
theorem sum_out (P : List P3) (a s : Int) : (P.map fun p => isOut P p a s).sum = cnt (fun p => !decide (addV p (dv a s) ∈ P)) P := by
  rw [← sum_cnt (fun p => decide (addV p (dv a s) ∈ P)) P]
  congr 2
  funext p
  unfold isOut
  by_cases q : addV p (dv a s) ∈ P <;> simp [q]
theorem faces_sum {S : Solid} (o : okSolid S) {P : List P3} (hP : P.Nodup) (hm : ∀ p, p ∈ P ↔ hasS S p) : (P.map (outs6 P)).sum = 2 * outA S 0 + 2 * outA S 1 + 2 * outA S 2 := by
  have key : ∀ a : Int, a = 0 ∨ a = 1 ∨ a = 2 → (P.map fun p => outs2 P p a).sum = 2 * outA S a := fun a ha => by
    unfold outs2
    rw [sum_add, sum_out, sum_out]
    unfold outA
    rw [out_len o hP hm, cnt_flip hP (dv a 1), dv_neg a ha]
    omega
  unfold outs6
  rw [sum_add, sum_add, key 0 (.inl rfl), key 1 (.inr (.inl rfl)), key 2 (.inr (.inr rfl))]
def FacesOk (f : List DV → Hd → Res DV) : Prop := ∀ (P : List P3) (n : Nat) (h : Hd), h[n]? = some (.dtt (encC P)) → P.length < 1000000 → To (f [.ref n] h) fun v h' => v = .int (P.map (outs6 P)).sum ∧ Kp h.length h h'
theorem en3_item (a b c : DV) (h : Hd) : ∀ i : Nat, i ≤ 3 → itemAt h (.en (.tup [a, b, c])) i = match [DV.tup [.int 0, a], DV.tup [.int 1, b], DV.tup [.int 2, c]][i]? with | some d => .item d | none => .stop
  | 0, _ => rfl
  | 1, _ => rfl
  | 2, _ => rfl
  | 3, _ => rfl
theorem faces_fn {F : Nat → List DV → Hd → Res DV} : FacesOk (runF F D__law_faces) := by
  intro P n h e hl
  refine runF_to rfl ?_
  have nl := lt_of_get e
  simp only [B__law_faces]
  simp only [List.map_cons, List.map_nil, List.cons_append, List.nil_append, List.replicate, Nat.reduceSub, FT_step, evS_asg, ev_lit, ok_bind, FT_fl, To_ok, asg_nm, FT_nx, List.set_cons_succ, List.set_cons_zero, evS_fo, evi_sq, ev_var, List.getElem?_cons_zero, e, FT_aft]
  -- the dict is locked
  obtain ⟨g, eg⟩ : ∃ g : Hd, g = h.set n (.lkt (encC P)) := ⟨_, rfl⟩
  rw [← eg]
  have gn : g[n]? = some (.lkt (encC P)) := by rw [eg]; exact get_set e
  have gl : g.length = h.length := by rw [eg, List.length_set]
  refine loopF_rule (P.map encPt) (fun i s h' => ∃ x2 x3 x4 x5, s = [some (.ref n), some (.int ((P.take i).map (outs6 P)).sum), x2, x3, x4, x5, none, none] ∧ Kp g.length g h') (fun i s h' hI _ => by
    obtain ⟨_, _, _, _, _, kp⟩ := hI
    exact dk_item (kp.get (by omega) gn) i) (fun i d s h' hd hI => ?_) (fun s h' hI => ?_) _ _ _ _ (Nat.zero_le _) (by rw [List.length_map]; simp only [FUEL]; omega) ⟨none, none, none, none, rfl, Kp.refl⟩
  · obtain ⟨x2, x3, x4, x5, rfl, kp⟩ := hI
    rw [List.getElem?_map] at hd
    obtain ⟨p, hp, rfl⟩ := Option.map_eq_some_iff.mp hd
    have r3 : -(2 : Int) ^ 62 ≤ 3 ∧ (3 : Int) < 2 ^ 62 := by decide
    simp only [bind1_nm, List.set_cons_succ, List.set_cons_zero, FT_step, evS_fo, evi_r1, ev_lit, ok_bind, r3, and_self, if_true, FT_fl, To_ok, FT_aft, unlk_rng]
    refine loop_rng (lo := 0) (hi := 3) (fun a s h' => ∃ x3 x4 x5, s = [some (.ref n), some (.int (((P.take i).map (outs6 P)).sum + ((irange 0 a).map (outs2 P p)).sum)), some (encPt p), x3, x4, x5, none, none] ∧ Kp g.length g h') (by decide) ⟨_, _, _, by rw [show ((irange 0 0).map (outs2 P p)).sum = 0 from rfl, Int.add_zero], kp⟩ (fun a s h2 a0 a3 hI => ?_) (fun s h2 hI => ?_)
    · obtain ⟨x3, x4, x5, rfl, kp⟩ := hI
      simp only [bind1_nm, List.set_cons_succ, List.set_cons_zero, FT_step, evS_fo, evi_sq, ev_tup, ev_neg, evs_cons, evs_nil, ev_lit, ok_bind, mkTup, List.length_cons, List.length_nil, LN, Nat.zero_add, Nat.reduceAdd, Nat.reduceLeDiff, if_true, FT_fl, To_ok, FT_aft, unlk_tup]
      refine loopF_rule [DV.int (-1), DV.int 1] (fun j s h' => ∃ x4 x5, s = [some (.ref n), some (.int (((P.take i).map (outs6 P)).sum + ((irange 0 a).map (outs2 P p)).sum + (([-1, 1].take j).map (isOut P p a)).sum)), some (encPt p), some (.int a), x4, x5, none, none] ∧ Kp g.length g h') (fun i s h' _ _ => rfl) (fun j d s h3 hd hI => ?_) (fun s h3 hI => ?_) _ _ _ _ (Nat.zero_le _) (by simp [FUEL]) ⟨x4, x5, by simp only [List.take_zero, List.map_nil, List.sum_nil, Int.add_zero], kp⟩
      · obtain ⟨x4, x5, rfl, kp⟩ := hI
        obtain ⟨sg, hd', rfl⟩ : ∃ sg : Int, ([-1, 1] : List Int)[j]? = some sg ∧ d = .int sg := by
          rw [show [DV.int (-1), DV.int 1] = ([-1, 1] : List Int).map DV.int from rfl, List.getElem?_map] at hd
          obtain ⟨a, h1, h2⟩ := Option.map_eq_some_iff.mp hd
          exact ⟨a, h1, h2.symm⟩
        simp only [bind1_nm, List.set_cons_succ, List.set_cons_zero, FT_step, evS_asg, ev_blt, evs_cons, evs_nil, ev_lc, evi_en, ev_var, List.getElem?_cons_succ, List.getElem?_cons_zero, encPt, ok_bind, FT_fl, To_bind, To_aft, unlk_en]
        refine loopC_pure [DV.tup [.int 0, .int p.1], DV.tup [.int 1, .int p.2.1], DV.tup [.int 2, .int p.2.2]] [DV.int (if 0 = a then p.1 + sg else p.1), DV.int (if 1 = a then p.2.1 + sg else p.2.1), DV.int (if 2 = a then p.2.2 + sg else p.2.2)] rfl rfl (by simp) (fun i h' _ hi => en3_item _ _ _ h' i hi) (fun k e v h4 hd hv _ => ?_) (fun h4 hg k4 => ?_)
        · obtain ⟨b, x, rfl, rfl⟩ : ∃ b x : Int, e = .tup [.int b, .int x] ∧ v = .int (if b = a then x + sg else x) := by
            match k, hd, hv with
            | 0, hd, hv => cases hd; cases hv; exact ⟨0, _, rfl, rfl⟩
            | 1, hd, hv => cases hd; cases hv; exact ⟨1, _, rfl, rfl⟩
            | 2, hd, hv => cases hd; cases hv; exact ⟨2, _, rfl, rfl⟩
            | j + 3, hd, hv => cases hd
          simp only [wip, bind1_tp, bindAll_cons, bindAll_nil, bind1_nm, List.foldl_cons, List.foldl_nil, List.set_cons_succ, List.set_cons_zero, evc_no, ok_bind, if_true, ev_ife, ev_bin, bop_add, ev_cmp, ev_var, ev_lit, List.getElem?_cons_succ, List.getElem?_cons_zero, cop_eqi, litB_some, truR_bl]
          by_cases z : b = a
          · simp only [z, decide_true, if_true, ok_bind, To_ok, true_and]
            exact Kp.refl
          · simp only [z, decide_false, Bool.false_eq_true, if_false, ok_bind, To_ok, true_and]
            exact Kp.refl
        · have ea : ∀ b x : Int, (if b = a then x + sg else x) = x + if b = a then sg else 0 := fun b x => by split <;> omega
          have sq : Lil.blt .tuple [.ref h3.length] h4 = .ok (encPt (addV p (dv a sg))) h4 := by
            unfold Lil.blt seqOf
            simp only [hg, ea]
            rfl
          have kk : Kp g.length g h4 := kp.trans k4 kp.len
          have f4 : h4[n]? = some (.lkt (encC P)) := kk.get (by omega) gn
          have ci := cop_inC (h := h4) (p := addV p (dv a sg)) (dctT_lk f4)
          have sm : (([-1, 1].take (j + 1)).map (isOut P p a)).sum = (([-1, 1].take j).map (isOut P p a)).sum + isOut P p a sg := by
            rw [List.take_add_one, hd']
            simp
          simp only [sq, To_ok, asg_nm, FT_nx, List.set_cons_succ, List.set_cons_zero, FT_step, evS_asg, ev_bin, ev_ife, ev_cmp, ev_lit, ev_var, List.getElem?_cons_succ, List.getElem?_cons_zero, ok_bind, ci, litB_some, truR_bl, FT_fl]
          by_cases z : addV p (dv a sg) ∈ P
          · have eo : isOut P p a sg = 0 := if_pos z
            simp only [z, decide_true, if_true, ok_bind, bop_add, To_ok, asg_nm, FT_nx, List.set_cons_succ, List.set_cons_zero, FT_nil]
            exact ⟨_, _, by rw [sm, eo, Int.add_zero]; simp only [Int.add_zero]; rfl, kk⟩
          · have eo : isOut P p a sg = 1 := if_neg z
            simp only [z, decide_false, Bool.false_eq_true, if_false, ok_bind, bop_add, To_ok, asg_nm, FT_nx, List.set_cons_succ, List.set_cons_zero, FT_nil]
            exact ⟨_, _, by rw [sm, eo, Int.add_assoc, Int.add_assoc], kk⟩
      · obtain ⟨x4, x5, rfl, kp⟩ := hI
        simp only [FT_nil]
        refine ⟨some (.int a), x4, x5, ?_, kp⟩
        have es : ((irange 0 (a + 1)).map (outs2 P p)).sum = ((irange 0 a).map (outs2 P p)).sum + outs2 P p a := by
          have : irange 0 (a + 1) = irange 0 a ++ [a] := by
            unfold irange
            rw [show (a + 1 - 0).toNat = (a - 0).toNat + 1 by omega, List.range_succ, List.map_append, List.map_cons, List.map_nil]
            congr 2
            omega
          rw [this, List.map_append, List.sum_append]
          simp
        have e2 : (([-1, 1].take [DV.int (-1), DV.int 1].length).map (isOut P p a)).sum = outs2 P p a := by
          show isOut P p a (-1) + (isOut P p a 1 + 0) = _
          unfold outs2
          omega
        rw [es, e2, Int.add_assoc]
    · obtain ⟨x3, x4, x5, rfl, kp⟩ := hI
      simp only [FT_nil]
      refine ⟨some (encPt p), x3, x4, x5, ?_, kp⟩
      have e3 : ((irange 0 3).map (outs2 P p)).sum = outs6 P p := by
        show outs2 P p (0 + (0 : Nat)) + (outs2 P p (0 + (1 : Nat)) + (outs2 P p (0 + (2 : Nat)) + 0)) = _
        unfold outs6
        simp only [Int.add_zero, Int.add_assoc]
        rfl
      have e4 : ((P.take (i + 1)).map (outs6 P)).sum = ((P.take i).map (outs6 P)).sum + outs6 P p := by
        rw [List.take_add_one, hp]
        simp
      rw [if_pos (by decide), e3, e4]
  · obtain ⟨x2, x3, x4, x5, rfl, kp⟩ := hI
    rw [List.length_map, List.take_length]
    have f4 : h'[n]? = some (.lkt (encC P)) := kp.get (by omega) gn
    rw [unlk_dk f4]
    simp only [FT_step, evS_ret, ev_var, List.getElem?_cons_succ, List.getElem?_cons_zero, FT_fl, To_ok, FT_rt, FT_nil]
    refine ⟨trivial, Kp.backn (o' := .lkt (encC P)) e ?_ (lt_of_get f4)⟩
    rw [← eg, ← gl]
    exact kp
end Lil
/-! Fn25: bounds. Own work. -/
set_option linter.all false
set_option Elab.async false
set_option maxRecDepth 100000
set_option maxHeartbeats 2000000
namespace Lil
open Sol
def mnL (l : List Int) : Int := (minI l).getD 0
def mxL (l : List Int) : Int := (maxI l).getD 0
theorem minI_some : ∀ {l : List Int}, l ≠ [] → ∃ m, minI l = some m ∧ m ∈ l ∧ ∀ x ∈ l, m ≤ x
  | [], h => absurd rfl h
  | [x], _ => ⟨x, rfl, by simp, fun y hy => by rw [List.mem_singleton.mp hy]; exact Int.le_refl _⟩
  | x :: y :: r, _ => by
    obtain ⟨m, h1, h2, h3⟩ := minI_some (l := y :: r) (by simp)
    unfold minI
    rw [h1]
    dsimp only
    by_cases q : x ≤ m
    · rw [if_pos q]
      exact ⟨x, rfl, .head _, fun z hz => by
        rcases List.mem_cons.mp hz with rfl | hz
        · exact Int.le_refl _
        · have := h3 z hz; omega⟩
    · rw [if_neg q]
      exact ⟨m, rfl, .tail _ h2, fun z hz => by
        rcases List.mem_cons.mp hz with rfl | hz
        · omega
        · exact h3 z hz⟩
theorem maxI_some : ∀ {l : List Int}, l ≠ [] → ∃ m, maxI l = some m ∧ m ∈ l ∧ ∀ x ∈ l, x ≤ m
  | [], h => absurd rfl h
  | [x], _ => ⟨x, rfl, by simp, fun y hy => by rw [List.mem_singleton.mp hy]; exact Int.le_refl _⟩
  | x :: y :: r, _ => by
    obtain ⟨m, h1, h2, h3⟩ := maxI_some (l := y :: r) (by simp)
    unfold maxI
    rw [h1]
    dsimp only
    by_cases q : m ≤ x
    · rw [if_pos q]
      exact ⟨x, rfl, .head _, fun z hz => by
        rcases List.mem_cons.mp hz with rfl | hz
        · exact Int.le_refl _
        · have := h3 z hz; omega⟩
    · rw [if_neg q]
      exact ⟨m, rfl, .tail _ h2, fun z hz => by
        rcases List.mem_cons.mp hz with rfl | hz
        · omega
        · exact h3 z hz⟩
theorem mnL_ok {l : List Int} (h : l ≠ []) : minI l = some (mnL l) ∧ mnL l ∈ l ∧ ∀ x ∈ l, mnL l ≤ x := by
  obtain ⟨m, h1, h2, h3⟩ := minI_some h
  have : mnL l = m := by unfold mnL; rw [h1]; rfl
  rw [this]
  exact ⟨h1, h2, h3⟩
theorem mxL_ok {l : List Int} (h : l ≠ []) : maxI l = some (mxL l) ∧ mxL l ∈ l ∧ ∀ x ∈ l, x ≤ mxL l := by
  obtain ⟨m, h1, h2, h3⟩ := maxI_some h
  have : mxL l = m := by unfold mxL; rw [h1]; rfl
  rw [this]
  exact ⟨h1, h2, h3⟩
theorem blt_minI {h : Hd} {n : Nat} {l : List Int} (e : h[n]? = some (.lst (l.map .int))) (hl : l ≠ []) : Lil.blt .min [.ref n] h = .ok (.int (mnL l)) h := by
  unfold Lil.blt
  simp only [e]
  rw [allInts_map]
  simp only [Option.bind_some, (mnL_ok hl).1]
theorem blt_maxI {h : Hd} {n : Nat} {l : List Int} (e : h[n]? = some (.lst (l.map .int))) (hl : l ≠ []) : Lil.blt .max [.ref n] h = .ok (.int (mxL l)) h := by
  unfold Lil.blt
  simp only [e]
  rw [allInts_map]
  simp only [Option.bind_some, (mxL_ok hl).1]
theorem blt_tup {h : Hd} {n : Nat} {ds : List DV} (e : h[n]? = some (.lst ds)) : Lil.blt .tuple [.ref n] h = .ok (.tup ds) h := by
  unfold Lil.blt seqOf
  simp only [e]
theorem cop_eqnil {h : Hd} {n m : Nat} {xs : List DV} (e1 : h[n]? = some (.lst xs)) (e2 : h[m]? = some (.lst [])) (hx : ∀ x ∈ xs, idt 39 x = true) : cop .eq (.ref n) (.ref m) h = some (decide (xs = [])) := by
  show eqq (.ref n) (.ref m) h = _
  rw [eqq_no (lst_nod e1), eq_nil e1 e2 hx]
/-- the axes of a point -/
def ax (a : Int) (p : P3) : Int := if a = 0 then p.1 else if a = 1 then p.2.1 else p.2.2
def isAx (a : Int) : Prop := a = 0 ∨ a = 1 ∨ a = 2
theorem ix_ax {a : Int} (ha : isAx a) (p : P3) (h : Hd) : index (encPt p) (.int a) h = some (.int (ax a p)) := by
  unfold encPt
  rcases ha with rfl | rfl | rfl
  · rw [ix_0]; rfl
  · rw [ix_1]; rfl
  · rw [ix_2]; rfl
def mk3 (f : Int → Int) : P3 := (f 0, f 1, f 2)
theorem ax_mk3 {a : Int} (ha : isAx a) (f : Int → Int) : ax a (mk3 f) = f a := by
  rcases ha with rfl | rfl | rfl <;> rfl
theorem ax_ext {p q : P3} (h : ∀ a, isAx a → ax a p = ax a q) : p = q := Prod.ext (h 0 (.inl rfl)) (Prod.ext (h 1 (.inr (.inl rfl))) (h 2 (.inr (.inr rfl))))
/-- turns over the axes -/
theorem ax_turn {f : Int → Int} {j : Nat} {e v : DV} (hd : [DV.int 0, DV.int 1, DV.int 2][j]? = some e) (hv : [DV.int (f 0), DV.int (f 1), DV.int (f 2)][j]? = some v) : ∃ a, isAx a ∧ e = .int a ∧ v = .int (f a) := by
  match j, hd, hv with
  | 0, hd, hv => cases hd; cases hv; exact ⟨0, .inl rfl, rfl, rfl⟩
  | 1, hd, hv => cases hd; cases hv; exact ⟨1, .inr (.inl rfl), rfl, rfl⟩
  | 2, hd, hv => cases hd; cases hv; exact ⟨2, .inr (.inr rfl), rfl, rfl⟩
  | j + 3, hd, hv => cases hd
def bLo (B : List (P3 × P3)) : P3 := mk3 fun a => mnL (B.map fun q => ax a q.1)
def bHi (B : List (P3 × P3)) : P3 := mk3 fun a => mxL (B.map fun q => ax a q.2)
def BoundsOk (f : List DV → Hd → Res DV) : Prop := ∀ (S : Solid) (h : Hd), few S → To (f [encSol S] h) fun v h' => (if boxesOf S = [] then v = .non else v = .tup [encPt (bLo (boxesOf S)), encPt (bHi (boxesOf S))]) ∧ Kp h.length h h'
theorem bounds_fn {F : Nat → List DV → Hd → Res DV} {iB : Nat} (hB : BoxesOfOk (F iB)) : BoundsOk (runF F (D_bounds iB)) := by
  intro S h hf
  refine runF_to rfl ?_
  simp only [B_bounds]
  simp only [List.map_cons, List.map_nil, List.cons_append, List.nil_append, List.replicate, Nat.reduceSub, FT_step, evS_asg, ev_cal, evs_cons, evs_nil, ev_var, List.getElem?_cons_zero, ok_bind, FT_fl, To_bind]
  refine (hB S h hf).imp fun v h1 ⟨n, n1, e, e1, kp⟩ => ?_
  subst e
  have bl := boxes_len hf
  generalize hBB : boxesOf S = B at e1 bl
  have nl := lt_of_get e1
  have l1 := kp.len
  have idf : ∀ x ∈ B.map encBx, idt 39 x = true := fun x hx => by
    obtain ⟨q, _, rfl⟩ := List.mem_map.mp hx
    rfl
  have e1' : (h1 ++ [DO.lst []])[n]? = some (.lst (B.map encBx)) := by rw [List.getElem?_append_left nl]; exact e1
  have ce := cop_eqnil e1' (get_new h1 (.lst [])) idf
  have kp' : Kp h.length h (h1 ++ [DO.lst []]) := kp.trans (Kp.app _ (Nat.le_refl _)) l1
  simp only [asg_nm, To_ok, FT_nx, List.set_cons_succ, List.set_cons_zero, FT_step, evS_ift, ev_cmp, ev_lst, evs_nil, mkLst, List.length_nil, Nat.zero_le, if_true, alloc, ev_var, List.getElem?_cons_succ, List.getElem?_cons_zero, ok_bind, ce, litB_some, truR_bl, FT_fl]
  by_cases q : B = []
  · subst q
    simp only [List.map_nil, decide_true, if_true, FT_step, evS_ret, ev_lit, FT_fl, To_ok, FT_rt, true_and]
    exact kp'
  · have q1 : ¬ B.map encBx = [] := fun z => q (List.map_eq_nil_iff.mp z)
    simp only [q1, decide_false, Bool.false_eq_true, if_false, FT_nil, FT_step, evS_asg, ev_blt, evs_cons, evs_nil, ev_lc, evi_sq, ev_lit, ok_bind, FT_fl, To_bind, To_aft, unlk_tup]
    refine loopC_pure [DV.int 0, DV.int 1, DV.int 2] [DV.int (mnL (B.map fun q => ax 0 q.1)), DV.int (mnL (B.map fun q => ax 1 q.1)), DV.int (mnL (B.map fun q => ax 2 q.1))] rfl rfl (by decide) (fun i h' _ _ => rfl) (fun j e v h2 hd hv k2 => ?_) (fun h2 hg k2 => ?_)
    · obtain ⟨a, ha, rfl, rfl⟩ := ax_turn (f := fun a => mnL (B.map fun q => ax a q.1)) hd hv
      have f2 := k2.get (lt_of_get e1') e1'
      simp only [wip, bind1_nm, List.foldl_cons, List.foldl_nil, List.set_cons_succ, List.set_cons_zero, evc_no, ok_bind, if_true, ev_blt, evs_cons, evs_nil, ev_lc, evi_sq, ev_var, List.getElem?_cons_succ, List.getElem?_cons_zero, f2, To_bind, To_aft, unlk_lst]
      refine loopC_pure (B.map encBx) ((B.map fun q => ax a q.1).map DV.int) rfl (by simp) (by rw [List.length_map]; omega) (fun i h' k _ => lst_item (k.get (lt_of_get f2) f2) i) (fun j e v h3 hd hv _ => ?_) (fun h3 hg k3 => ?_)
      · rw [List.getElem?_map] at hd hv
        rw [List.getElem?_map] at hv
        obtain ⟨r, hr, rfl⟩ := Option.map_eq_some_iff.mp hd
        rw [hr] at hv
        cases hv
        simp only [wip, encBx, bind1_tp, bindAll_cons, bindAll_nil, bind1_nm, List.foldl_cons, List.foldl_nil, List.set_cons_succ, List.set_cons_zero, evc_no, ok_bind, if_true, ev_idx, ev_var, List.getElem?_cons_succ, List.getElem?_cons_zero, ix_ax ha, ofO_some, To_ok, true_and]
        exact Kp.refl
      · simp only [blt_minI hg (fun z => q (List.map_eq_nil_iff.mp z)), To_ok, ok_bind, true_and]
        exact k3
    · have f2 := k2.get (lt_of_get e1') e1'
      have t2 : Lil.blt .tuple [.ref (h1 ++ [DO.lst []]).length] h2 = .ok (encPt (bLo B)) h2 := blt_tup hg
      simp only [t2, To_ok, asg_nm, FT_nx, List.set_cons_succ, List.set_cons_zero, FT_step, evS_ret, ev_tup, ev_blt, evs_cons, evs_nil, ev_lc, evi_sq, ev_lit, ev_var, List.getElem?_cons_succ, List.getElem?_cons_zero, ok_bind, FT_fl, To_bind, To_aft, unlk_tup]
      refine loopC_pure [DV.int 0, DV.int 1, DV.int 2] [DV.int (mxL (B.map fun q => ax 0 q.2)), DV.int (mxL (B.map fun q => ax 1 q.2)), DV.int (mxL (B.map fun q => ax 2 q.2))] rfl rfl (by decide) (fun i h' _ _ => rfl) (fun j e v h3 hd hv k3 => ?_) (fun h3 hg k3 => ?_)
      · obtain ⟨a, ha, rfl, rfl⟩ := ax_turn (f := fun a => mxL (B.map fun q => ax a q.2)) hd hv
        have f3 := k3.get (lt_of_get f2) f2
        simp only [wip, bind1_nm, List.foldl_cons, List.foldl_nil, List.set_cons_succ, List.set_cons_zero, evc_no, ok_bind, if_true, ev_blt, evs_cons, evs_nil, ev_lc, evi_sq, ev_var, List.getElem?_cons_succ, List.getElem?_cons_zero, f3, To_bind, To_aft, unlk_lst]
        refine loopC_pure (B.map encBx) ((B.map fun q => ax a q.2).map DV.int) rfl (by simp) (by rw [List.length_map]; omega) (fun i h' k _ => lst_item (k.get (lt_of_get f3) f3) i) (fun j e v h4 hd hv _ => ?_) (fun h4 hg k4 => ?_)
        · rw [List.getElem?_map] at hd hv
          rw [List.getElem?_map] at hv
          obtain ⟨r, hr, rfl⟩ := Option.map_eq_some_iff.mp hd
          rw [hr] at hv
          cases hv
          simp only [wip, encBx, bind1_tp, bindAll_cons, bindAll_nil, bind1_nm, List.foldl_cons, List.foldl_nil, List.set_cons_succ, List.set_cons_zero, evc_no, ok_bind, if_true, ev_idx, ev_var, List.getElem?_cons_succ, List.getElem?_cons_zero, ix_ax ha, ofO_some, To_ok, true_and]
          exact Kp.refl
        · simp only [blt_maxI hg (fun z => q (List.map_eq_nil_iff.mp z)), To_ok, ok_bind, true_and]
          exact k4
      · have t3 : Lil.blt .tuple [.ref h2.length] h3 = .ok (encPt (bHi B)) h3 := blt_tup hg
        simp only [t3, To_ok, ok_bind, mkTup, List.length_cons, List.length_nil, LN, Nat.zero_add, Nat.reduceAdd, Nat.reduceLeDiff, if_true, FT_rt, true_and]
        rw [if_neg q]
        refine ⟨trivial, (kp'.trans k2 kp'.len).trans k3 ?_⟩
        have := k2.len; have := kp'.len; omega
end Lil
/-! Fn26: for the law k01. Own work. -/
set_option linter.all false
set_option Elab.async false
set_option maxRecDepth 100000
set_option maxHeartbeats 2000000
namespace Lil
open Sol
/-- a comprehension with a test whose turns only read what was there -/
theorem loopC_filt {it : It} {turn : DV → Hd → Res (Option DV)} {h : Hd} {n : Nat} {Q : DV → Hd → Prop} (items : List DV) (f : DV → Bool) (g : DV → DV) (hn : n = h.length) (hsz : items.length < 1000000)
    (hit : ∀ (i : Nat) (h' : Hd), Kp h.length h h' → i ≤ items.length → itemAt h' it i = match items[i]? with | some d => .item d | none => .stop)
    (hb : ∀ (i : Nat) (d : DV) (h' : Hd), items[i]? = some d → Kp h.length h h' → To (turn d h') fun o h'' => o = (if f d = true then some (g d) else none) ∧ Kp h'.length h' h'')
    (hQ : ∀ h', h'[n]? = some (.lst ((items.filter f).map g)) → Kp h.length h h' → Q (.ref n) h') : To (loopC it turn n FUEL 0 (h ++ [.lst []])) Q := by
  subst hn
  refine loopC_rule items (fun i ds h' => ds = ((items.take i).filter f).map g ∧ Kp h.length h h') (fun i ds h' hJ hi => hit i h' hJ.2 hi) (fun i d ds h' hd hJ hg => ?_) (fun ds h' hJ hg => ?_) FUEL 0 [] _ (Nat.zero_le _) (by simp [FUEL]; omega) ⟨rfl, Kp.app _ (Nat.le_refl _)⟩ (get_new _ _)
  · have hi : i < items.length := (List.getElem?_eq_some_iff.mp hd).1
    refine (hb i d h' hd hJ.2).imp fun o h'' ⟨q1, q2⟩ => ?_
    have t1 : items.take (i + 1) = items.take i ++ [d] := by rw [List.take_add_one, hd]; rfl
    subst q1
    refine ⟨q2.get (lt_of_get hg) hg, ?_⟩
    by_cases q : f d = true
    · rw [if_pos q]
      dsimp only
      refine ⟨?_, ?_, ?_⟩
      · rw [hJ.1, List.length_map]
        have := List.length_filter_le f (items.take i)
        rw [List.length_take] at this
        simp only [LN]
        omega
      · rw [hJ.1, t1, List.filter_append, List.map_append, List.filter_cons, if_pos q]
        rfl
      · exact (hJ.2.trans q2 (by have := lt_of_get hg; omega)).set (Nat.le_refl _)
    · rw [if_neg q]
      dsimp only
      refine ⟨?_, hJ.2.trans q2 (by have := lt_of_get hg; omega)⟩
      rw [hJ.1, t1, List.filter_append, List.filter_cons, if_neg q, List.filter_nil, List.append_nil]
  · obtain ⟨q1, q2⟩ := hJ
    subst q1
    rw [List.take_length] at hg
    exact hQ h' hg q2
theorem cop_neb (a b : Bool) (h : Hd) : cop .ne (.bl a) (.bl b) h = some (a != b) := by cases a <;> cases b <;> rfl
theorem blt_dict {h : Hd} {n : Nat} {Q : List P3} (e : h[n]? = some (.lst (Q.map fun p => DV.tup [encPt p, .bl true]))) (hQ : Q.Nodup) : Lil.blt .dictt [.ref n] h = .ok (.ref h.length) (h ++ [.dtt (encC Q)]) := by
  unfold Lil.blt
  simp only [e]
  rw [pairsC]
  dsimp only
  rw [merge0 hQ]
  rfl
theorem apart_C {P : List P3} (h : ∀ p ∈ P, (-1 ≤ p.1 ∧ p.1 ≤ 6) ∧ (-1 ≤ p.2.1 ∧ p.2.1 ≤ 6) ∧ -1 ≤ p.2.2 ∧ p.2.2 ≤ 6) : apart (encC P) = true := by
  unfold apart
  refine List.all_eq_true.mpr fun kv hkv => ?_
  obtain ⟨p, hp, rfl⟩ := List.mem_map.mp hkv
  obtain ⟨a, b, c⟩ := h p hp
  show (decide _ && decide _ && decide _) = true
  rw [decide_eq_true a, decide_eq_true b, decide_eq_true c]
  rfl
theorem blt_dictd {h : Hd} {n : Nat} {P : List P3} (e : h[n]? = some (.dtt (encC P))) (ha : apart (encC P) = true) : Lil.blt .dictt [.ref n] h = .ok (.ref h.length) (h ++ [.dtt (encC P)]) := by
  unfold Lil.blt
  simp only [e]
  rw [if_pos ha]
  rfl
theorem mth_upd {h : Hd} {n m : Nat} {P Q : List P3} (e1 : h[n]? = some (.dtt (encC P))) (e2 : h[m]? = some (.dtt (encC Q))) (hnm : n ≠ m) (ha : apart (encC Q) = true) (hl : P.length + Q.length ≤ LN) : mth .update (.ref n) [.ref m] h = .ok .non (h.set n (.dtt (encC (Q.foldl addP P)))) := by
  unfold mth
  simp only [e1, e2]
  rw [if_pos ⟨hnm, .inr ha, by rw [encC_len, encC_len]; exact hl⟩, mergeC]
theorem recv_upd {h : Hd} {n : Nat} {P : List (DV × DV)} (e1 : h[n]? = some (.dtt P)) : recv .update (.ref n) h = true := by
  unfold recv
  simp only [e1]
  rfl
theorem same_nil {P : List P3} : sameP P [] = decide (P = []) := by
  cases P <;> rfl
/-! ### solids and points -/
theorem has_ext {S T : Solid} (oS : okSolid S) (oT : okSolid T) (h : ∀ p, hasS S p ↔ hasS T p) : S = T :=
  ext3 oS oT fun z y x => by
    have := h (x, y, z)
    unfold hasS at this
    rw [Bool.eq_iff_iff]
    exact this
theorem nil_iff {S : Solid} (o : okSolid S) : S = [] ↔ ∀ p, ¬ hasS S p :=
  ⟨fun e p => (by rw [e]; intro z; cases z), fun h => has_ext o okSolid_nil fun p => ⟨fun z => absurd z (h p), fun z => (by cases z)⟩⟩
theorem has_u {S T : Solid} (oS : okSolid S) (oT : okSolid T) (p : P3) : (hasS (solidM .either S T) p ↔ hasS S p ∨ hasS T p) ∧ (hasS (solidM .both S T) p ↔ hasS S p ∧ hasS T p) ∧ (hasS (solidM .first S T) p ↔ hasS S p ∧ ¬ hasS T p) := by
  unfold hasS
  rw [(solid_ok (w := .either) oS oT).2, (solid_ok (w := .both) oS oT).2, (solid_ok (w := .first) oS oT).2]
  unfold Sol.bop
  simp
theorem ax_has {a : Int} (ha : isAx a) {q : P3 × P3} {p : P3} (h : hasB q p) : ax a q.1 ≤ ax a p ∧ ax a p < ax a q.2 := by
  obtain ⟨h1, h2, h3⟩ := h
  rcases ha with rfl | rfl | rfl
  · exact h1
  · exact h2
  · exact h3
/-- the ends of the boxes are the ends of the points -/
theorem bnd_pts {S : Solid} (o : okSolid S) {P : List P3} (hm : ∀ p, p ∈ P ↔ hasS S p) (hB : boxesOf S ≠ []) (a : Int) (ha : isAx a) :
    mnL ((boxesOf S).map fun q => ax a q.1) = mnL (P.map (ax a)) ∧ mxL ((boxesOf S).map fun q => ax a q.2) = mxL (P.map (ax a)) + 1 := by
  have lo_in : ∀ q ∈ boxesOf S, q.1 ∈ P := fun q hq => by
    have := boxes_ord o q hq
    refine (hm _).mpr ((hasS_iff o).mpr ⟨q, hq, ?_⟩)
    unfold hasB
    omega
  have hi_in : ∀ q ∈ boxesOf S, ((q.2.1 - 1, q.2.2.1 - 1, q.2.2.2 - 1) : P3) ∈ P := fun q hq => by
    have := boxes_ord o q hq
    refine (hm _).mpr ((hasS_iff o).mpr ⟨q, hq, ?_⟩)
    unfold hasB
    dsimp only
    omega
  have ax1 : ∀ q : P3 × P3, ax a ((q.2.1 - 1, q.2.2.1 - 1, q.2.2.2 - 1) : P3) = ax a q.2 - 1 := fun q => by
    rcases ha with rfl | rfl | rfl <;> rfl
  obtain ⟨q0, hq0⟩ := List.exists_mem_of_ne_nil _ hB
  have nP : P ≠ [] := fun z => by have := lo_in q0 hq0; rw [z] at this; cases this
  obtain ⟨_, b1, b2⟩ := mnL_ok (l := (boxesOf S).map fun q => ax a q.1) (fun z => hB (List.map_eq_nil_iff.mp z))
  obtain ⟨_, c1, c2⟩ := mnL_ok (l := P.map (ax a)) (fun z => nP (List.map_eq_nil_iff.mp z))
  obtain ⟨_, d1, d2⟩ := mxL_ok (l := (boxesOf S).map fun q => ax a q.2) (fun z => hB (List.map_eq_nil_iff.mp z))
  obtain ⟨_, e1, e2⟩ := mxL_ok (l := P.map (ax a)) (fun z => nP (List.map_eq_nil_iff.mp z))
  constructor
  · obtain ⟨q, hq, z⟩ := List.mem_map.mp b1
    obtain ⟨p, hp, y⟩ := List.mem_map.mp c1
    obtain ⟨r, hr, g⟩ := (hasS_iff o).mp ((hm p).mp hp)
    have h1 := c2 _ (List.mem_map.mpr ⟨_, lo_in q hq, rfl⟩)
    have h2 := b2 _ (List.mem_map.mpr ⟨r, hr, rfl⟩)
    have h3 := (ax_has ha g).1
    rw [z] at h1
    rw [y] at h3
    omega
  · obtain ⟨q, hq, z⟩ := List.mem_map.mp d1
    obtain ⟨p, hp, y⟩ := List.mem_map.mp e1
    obtain ⟨r, hr, g⟩ := (hasS_iff o).mp ((hm p).mp hp)
    have h1 := e2 _ (List.mem_map.mpr ⟨_, hi_in q hq, rfl⟩)
    have h2 := d2 _ (List.mem_map.mpr ⟨r, hr, rfl⟩)
    have h3 := (ax_has ha g).2
    rw [ax1, z] at h1
    rw [y] at h3
    omega
end Lil
/-! Pt4: sums of boxes, points and solids. Own work. -/
set_option linter.all false
set_option Elab.async false
set_option maxRecDepth 100000
namespace Lil
open Sol
/-- how many points a lot within a box has -/
theorem box_len {P : List P3} (hn : P.Nodup) (q : P3 × P3) (ho : ordB q) (h : ∀ p ∈ P, hasB q p) : (P.length : Int) ≤ volB q := by
  have := sub_len hn fun p hp => mem_ptsB.mpr (h p hp)
  rw [← ptsB_len ho]
  omega
theorem bxT_le {m : Nat} {t : Sg Layer} (h1 : t.2.2.length ≤ m) (h2 : ∀ u ∈ t.2.2, u.2.2.length ≤ m) : (bxT t).length ≤ m * m := by
  have : ∀ l : Layer, (∀ u ∈ l, u.2.2.length ≤ m) → (l.flatMap (bxU t)).length ≤ l.length * m := by
    intro l
    induction l with
    | nil => intro _; simp
    | cons u r ih =>
      intro h
      have h3 := h u (.head _)
      have h4 := ih fun v hv => h v (.tail _ hv)
      rw [List.flatMap_cons, List.length_append, List.length_cons, Nat.add_mul, Nat.one_mul]
      have : (bxU t u).length ≤ m := by unfold bxU; rw [List.length_map]; exact h3
      omega
  have := this t.2.2 h2
  unfold bxT
  exact Nat.le_trans this (Nat.mul_le_mul_right _ h1)
theorem boxes_le {m : Nat} {S : Solid} (h : S.length ≤ m ∧ ∀ t ∈ S, t.2.2.length ≤ m ∧ ∀ u ∈ t.2.2, u.2.2.length ≤ m) : (boxesOf S).length ≤ m * (m * m) := by
  have : ∀ l : Solid, (∀ t ∈ l, t.2.2.length ≤ m ∧ ∀ u ∈ t.2.2, u.2.2.length ≤ m) → (boxesOf l).length ≤ l.length * (m * m) := by
    intro l
    induction l with
    | nil => intro _; simp [boxesOf]
    | cons t r ih =>
      intro h
      have h3 := h t (.head _)
      have h4 := ih fun v hv => h v (.tail _ hv)
      show ((t :: r).flatMap bxT).length ≤ _
      rw [List.flatMap_cons, List.length_append, List.length_cons, Nat.add_mul, Nat.one_mul]
      have := bxT_le h3.1 h3.2
      have h5 : (r.flatMap bxT).length ≤ r.length * (m * m) := h4
      omega
  exact Nat.le_trans (this S h.2) (Nat.mul_le_mul_right _ h.1)
theorem wk_m {α : Type} {lo : Int} {m : Nat} {s : List (Sg α)} (w : Wk s) (h : ∀ t ∈ s, (lo ≤ t.1 ∧ t.1 ≤ lo + m) ∧ lo ≤ t.2.1 ∧ t.2.1 ≤ lo + m) : s.length ≤ m := by
  rcases wk_len (lo := lo) (hi := lo + m) w fun t ht => ⟨(h t ht).1.1, (h t ht).2.2⟩ with q | q
  · omega
  · rw [q]; exact Nat.zero_le _
/-- a solid between lo and lo + m -/
theorem few_m {S : Solid} {lo : Int} {m : Nat} (o : okSolid S) (b : bd3 (fun x => lo ≤ x ∧ x ≤ lo + m) S) : S.length ≤ m ∧ ∀ t ∈ S, t.2.2.length ≤ m ∧ ∀ u ∈ t.2.2, u.2.2.length ≤ m := by
  refine ⟨wk_m (lo := lo) o.wk fun t ht => ⟨(b t ht).1, (b t ht).2.1⟩, fun t ht => ?_⟩
  have ol := o.ok t ht
  have bl := (b t ht).2.2
  refine ⟨wk_m (lo := lo) ol.wk fun u hu => ⟨(bl u hu).1, (bl u hu).2.1⟩, fun u hu => ?_⟩
  have or := ol.ok u hu
  have br := (bl u hu).2.2
  have := wk_m (lo := lo) (m := m) or.wk fun r hr => by
    obtain ⟨p, hp, rfl⟩ := List.mem_map.mp hr
    exact br p hp
  rw [row_len] at this
  exact this
/-! ### axes -/
theorem hasB_ax {q : P3 × P3} {p : P3} : hasB q p ↔ ∀ a, isAx a → ax a q.1 ≤ ax a p ∧ ax a p < ax a q.2 :=
  ⟨fun h a ha => ax_has ha h, fun h => ⟨h 0 (.inl rfl), h 1 (.inr (.inl rfl)), h 2 (.inr (.inr rfl))⟩⟩
theorem bdP_ax {R : Int → Prop} {p : P3} : bdP R p ↔ ∀ a, isAx a → R (ax a p) :=
  ⟨fun h a ha => (by rcases ha with rfl | rfl | rfl; exact h.1; exact h.2.1; exact h.2.2), fun h => ⟨h 0 (.inl rfl), h 1 (.inr (.inl rfl)), h 2 (.inr (.inr rfl))⟩⟩
theorem ord_ax {S : Solid} (o : okSolid S) {q : P3 × P3} (hq : q ∈ boxesOf S) {a : Int} (ha : isAx a) : ax a q.1 < ax a q.2 := by
  have := boxes_ord o q hq
  rcases ha with rfl | rfl | rfl
  · exact this.1
  · exact this.2.1
  · exact this.2.2
def mulV (s : Int) (p : P3) : P3 := (s * p.1, s * p.2.1, s * p.2.2)
theorem ax_add {a : Int} (ha : isAx a) (p d : P3) : ax a (addV p d) = ax a p + ax a d := by
  rcases ha with rfl | rfl | rfl <;> rfl
theorem ax_mul {a : Int} (ha : isAx a) (s : Int) (p : P3) : ax a (mulV s p) = s * ax a p := by
  rcases ha with rfl | rfl | rfl <;> rfl
/-- a box swept by a box -/
def swB (q r : P3 × P3) : P3 × P3 := (mk3 fun a => ax a q.1 + ax a r.1, mk3 fun a => ax a q.2 - 1 + ax a r.2)
/-- where a box meets a box -/
def baB (q r : P3 × P3) : P3 × P3 := (mk3 fun a => ax a q.1 - ax a r.2 + 1, mk3 fun a => ax a q.2 - ax a r.1)
/-- a box grown along an axis -/
def nbB (q : P3 × P3) (b : Int) : P3 × P3 := (mk3 fun a => if a = b then ax a q.1 - 1 else ax a q.1, mk3 fun a => if a = b then ax a q.2 + 1 else ax a q.2)
theorem swB_has {q r : P3 × P3} (oq : ∀ a, isAx a → ax a q.1 < ax a q.2) (or : ∀ a, isAx a → ax a r.1 < ax a r.2) {p : P3} : hasB (swB q r) p ↔ ∃ x y, hasB q x ∧ hasB r y ∧ p = addV x y := by
  constructor
  · intro h
    have h := hasB_ax.mp h
    -- x as low as may be
    let f : Int → Int := fun a => if ax a p - (ax a r.2 - 1) ≤ ax a q.1 then ax a q.1 else ax a p - (ax a r.2 - 1)
    refine ⟨mk3 f, mk3 fun a => ax a p - f a, hasB_ax.mpr fun a ha => ?_, hasB_ax.mpr fun a ha => ?_, ax_ext fun a ha => ?_⟩
    · have := h a ha
      unfold swB at this
      rw [ax_mk3 ha, ax_mk3 ha] at this
      have := oq a ha
      have := or a ha
      rw [ax_mk3 ha]
      simp only [f]
      split <;> omega
    · have := h a ha
      unfold swB at this
      rw [ax_mk3 ha, ax_mk3 ha] at this
      have := oq a ha
      have := or a ha
      rw [ax_mk3 ha]
      simp only [f]
      split <;> omega
    · rw [ax_add ha, ax_mk3 ha, ax_mk3 ha]
      omega
  · rintro ⟨x, y, hx, hy, rfl⟩
    refine hasB_ax.mpr fun a ha => ?_
    have h1 := ax_has ha hx
    have h2 := ax_has ha hy
    unfold swB
    rw [ax_mk3 ha, ax_mk3 ha, ax_add ha]
    omega
theorem baB_has {q r : P3 × P3} (oq : ∀ a, isAx a → ax a q.1 < ax a q.2) (or : ∀ a, isAx a → ax a r.1 < ax a r.2) {p : P3} : hasB (baB q r) p ↔ ∃ x y, hasB q x ∧ hasB r y ∧ p = addV x (mulV (-1) y) := by
  constructor
  · intro h
    have h := hasB_ax.mp h
    let f : Int → Int := fun a => if ax a p + ax a r.1 ≤ ax a q.1 then ax a q.1 else ax a p + ax a r.1
    refine ⟨mk3 f, mk3 fun a => f a - ax a p, hasB_ax.mpr fun a ha => ?_, hasB_ax.mpr fun a ha => ?_, ax_ext fun a ha => ?_⟩
    · have := h a ha
      unfold baB at this
      rw [ax_mk3 ha, ax_mk3 ha] at this
      have := oq a ha
      have := or a ha
      rw [ax_mk3 ha]
      simp only [f]
      split <;> omega
    · have := h a ha
      unfold baB at this
      rw [ax_mk3 ha, ax_mk3 ha] at this
      have := oq a ha
      have := or a ha
      rw [ax_mk3 ha]
      simp only [f]
      split <;> omega
    · rw [ax_add ha, ax_mul ha, ax_mk3 ha, ax_mk3 ha]
      omega
  · rintro ⟨x, y, hx, hy, rfl⟩
    refine hasB_ax.mpr fun a ha => ?_
    have h1 := ax_has ha hx
    have h2 := ax_has ha hy
    unfold baB
    rw [ax_mk3 ha, ax_mk3 ha, ax_add ha, ax_mul ha]
    omega
theorem ax_dv {a b s : Int} (ha : isAx a) : ax a (dv b s) = if a = b then s else 0 := by
  rcases ha with rfl | rfl | rfl <;> rfl
theorem nbB_has {q : P3 × P3} (oq : ∀ a, isAx a → ax a q.1 < ax a q.2) {b : Int} (hb : isAx b) {p : P3} : hasB (nbB q b) p ↔ hasB q p ∨ ∃ x, hasB q x ∧ (p = addV x (dv b (-1)) ∨ p = addV x (dv b 1)) := by
  constructor
  · intro h
    have h := hasB_ax.mp h
    have hh : ∀ a, isAx a → (if a = b then ax a q.1 - 1 ≤ ax a p ∧ ax a p < ax a q.2 + 1 else ax a q.1 ≤ ax a p ∧ ax a p < ax a q.2) := fun a ha => by
      have := h a ha
      unfold nbB at this
      rw [ax_mk3 ha, ax_mk3 ha] at this
      by_cases z : a = b
      · rw [if_pos z]; rw [if_pos z, if_pos z] at this; exact this
      · rw [if_neg z]; rw [if_neg z, if_neg z] at this; exact this
    have mv : ∀ s : Int, (ax b q.1 ≤ ax b p - s ∧ ax b p - s < ax b q.2) → hasB q (addV p (dv b (-s))) ∧ p = addV (addV p (dv b (-s))) (dv b s) := fun s hs => by
      refine ⟨hasB_ax.mpr fun a ha => ?_, ax_ext fun a ha => ?_⟩
      · rw [ax_add ha, ax_dv ha]
        have := hh a ha
        by_cases z : a = b
        · subst z; rw [if_pos rfl]; omega
        · rw [if_neg z]; rw [if_neg z] at this; omega
      · rw [ax_add ha, ax_add ha, ax_dv ha, ax_dv ha]
        split <;> omega
    have h1 := hh b hb
    rw [if_pos rfl] at h1
    by_cases c1 : ax b q.1 ≤ ax b p
    · by_cases c2 : ax b p < ax b q.2
      · left
        refine hasB_ax.mpr fun a ha => ?_
        have := hh a ha
        by_cases z : a = b
        · subst z; exact ⟨c1, c2⟩
        · rw [if_neg z] at this; exact this
      · have := oq b hb
        obtain ⟨g1, g2⟩ := mv 1 (by omega)
        exact .inr ⟨_, g1, .inr g2⟩
    · have := oq b hb
      obtain ⟨g1, g2⟩ := mv (-1) (by omega)
      exact .inr ⟨_, g1, .inl g2⟩
  · intro h
    refine hasB_ax.mpr fun a ha => ?_
    unfold nbB
    rw [ax_mk3 ha, ax_mk3 ha]
    rcases h with h | ⟨x, hx, rfl | rfl⟩
    · have := ax_has ha h
      split <;> omega
    · have := ax_has ha hx
      rw [ax_add ha, ax_dv ha]
      by_cases z : a = b
      · rw [if_pos z, if_pos z, if_pos z]; omega
      · rw [if_neg z, if_neg z, if_neg z]; omega
    · have := ax_has ha hx
      rw [ax_add ha, ax_dv ha]
      by_cases z : a = b
      · rw [if_pos z, if_pos z, if_pos z]; omega
      · rw [if_neg z, if_neg z, if_neg z]; omega
end Lil
/-! Bod4: more bodies, the called defs as places. Written by gen.py. -/
set_option linter.all false
set_option Elab.async false
namespace Lil
/-- of_boxes: 0 boxes, 1 low, 2 high -/
def B_of_boxes (i_union_of i_box : Nat) : Ss := (.cons (.ret (.cal i_union_of (.cons (.lc (.cal i_box (.cons (.var 1) (.cons (.var 2) .nil))) (.tp (.cons (.nm 1) (.cons (.nm 2) .nil))) (.sq (.var 0)) .no [1, 2]) .nil))) .nil)
def D_of_boxes (i_union_of i_box : Nat) : FD := ⟨1, 3, B_of_boxes i_union_of i_box⟩
/-- swept: 0 lot, 1 tool, 2 found, 3 low, 4 high, 5 one, 6 other, 7 start, 8 axis -/
def B_swept (i_boxes_of i_of_boxes : Nat) : Ss := (.cons (.asg (.pt (.nm 2)) (.lst .nil)) (.cons (.fo (.tp (.cons (.nm 3) (.cons (.nm 4) .nil))) (.sq (.cal i_boxes_of (.cons (.var 0) .nil))) (.cons (.fo (.tp (.cons (.nm 5) (.cons (.nm 6) .nil))) (.sq (.cal i_boxes_of (.cons (.var 1) .nil))) (.cons (.asg (.pt (.nm 7)) (.blt .tuple (.cons (.lc (.bin .add (.idx (.var 3) (.var 8)) (.idx (.var 5) (.var 8))) (.nm 8) (.sq (.lit (.tup [.int (0), .int (1), .int (2)]))) .no [8]) .nil))) (.cons (.exp (.mth .append (.var 2) (.cons (.tup (.cons (.var 7) (.cons (.blt .tuple (.cons (.lc (.bin .add (.bin .sub (.idx (.var 4) (.var 8)) (.lit (.int (1)))) (.idx (.var 6) (.var 8))) (.nm 8) (.sq (.lit (.tup [.int (0), .int (1), .int (2)]))) .no [8]) .nil)) .nil))) .nil))) .nil))) .nil)) (.cons (.ret (.cal i_of_boxes (.cons (.var 2) .nil))) .nil)))
def D_swept (i_boxes_of i_of_boxes : Nat) : FD := ⟨2, 9, B_swept i_boxes_of i_of_boxes⟩
/-- barred: 0 tool, 1 solid, 2 found, 3 low, 4 high, 5 one, 6 other, 7 start, 8 axis -/
def B_barred (i_boxes_of i_of_boxes : Nat) : Ss := (.cons (.asg (.pt (.nm 2)) (.lst .nil)) (.cons (.fo (.tp (.cons (.nm 3) (.cons (.nm 4) .nil))) (.sq (.cal i_boxes_of (.cons (.var 1) .nil))) (.cons (.fo (.tp (.cons (.nm 5) (.cons (.nm 6) .nil))) (.sq (.cal i_boxes_of (.cons (.var 0) .nil))) (.cons (.asg (.pt (.nm 7)) (.blt .tuple (.cons (.lc (.bin .add (.bin .sub (.idx (.var 3) (.var 8)) (.idx (.var 6) (.var 8))) (.lit (.int (1)))) (.nm 8) (.sq (.lit (.tup [.int (0), .int (1), .int (2)]))) .no [8]) .nil))) (.cons (.exp (.mth .append (.var 2) (.cons (.tup (.cons (.var 7) (.cons (.blt .tuple (.cons (.lc (.bin .sub (.idx (.var 4) (.var 8)) (.idx (.var 5) (.var 8))) (.nm 8) (.sq (.lit (.tup [.int (0), .int (1), .int (2)]))) .no [8]) .nil)) .nil))) .nil))) .nil))) .nil)) (.cons (.ret (.cal i_of_boxes (.cons (.var 2) .nil))) .nil)))
def D_barred (i_boxes_of i_of_boxes : Nat) : FD := ⟨2, 9, B_barred i_boxes_of i_of_boxes⟩
/-- neighbours: 0 lot, 1 found, 2 low, 3 high, 4 axis, 5 start, 6 at -/
def B_neighbours (i_boxes_of i_of_boxes : Nat) : Ss := (.cons (.asg (.pt (.nm 1)) (.cal i_boxes_of (.cons (.var 0) .nil))) (.cons (.fo (.tp (.cons (.nm 2) (.cons (.nm 3) .nil))) (.sq (.cal i_boxes_of (.cons (.var 0) .nil))) (.cons (.fo (.nm 4) (.sq (.lit (.tup [.int (0), .int (1), .int (2)]))) (.cons (.asg (.pt (.nm 5)) (.blt .tuple (.cons (.lc (.ife (.cmp .eq (.var 6) (.var 4)) (.bin .sub (.idx (.var 2) (.var 6)) (.lit (.int (1)))) (.idx (.var 2) (.var 6))) (.nm 6) (.sq (.lit (.tup [.int (0), .int (1), .int (2)]))) .no [6]) .nil))) (.cons (.exp (.mth .append (.var 1) (.cons (.tup (.cons (.var 5) (.cons (.blt .tuple (.cons (.lc (.ife (.cmp .eq (.var 6) (.var 4)) (.bin .add (.idx (.var 3) (.var 6)) (.lit (.int (1)))) (.idx (.var 3) (.var 6))) (.nm 6) (.sq (.lit (.tup [.int (0), .int (1), .int (2)]))) .no [6]) .nil)) .nil))) .nil))) .nil))) .nil)) (.cons (.ret (.cal i_of_boxes (.cons (.var 1) .nil))) .nil)))
def D_neighbours (i_boxes_of i_of_boxes : Nat) : FD := ⟨1, 7, B_neighbours i_boxes_of i_of_boxes⟩
/-- _law_by: 0 _law_point, 1 _law_other, 2 _law_sign, 3 _law_one, 4 _law_two -/
def B__law_by : Ss := (.cons (.ret (.blt .tuple (.cons (.lc (.bin .add (.var 3) (.bin .mul (.var 2) (.var 4))) (.tp (.cons (.nm 3) (.cons (.nm 4) .nil))) (.zp (.var 0) (.var 1)) .no [3, 4]) .nil))) .nil)
def D__law_by : FD := ⟨3, 5, B__law_by⟩
/-- law: 0 _law_script, 1 _law_draw_here, 2 _law_lot, 3 _law_tool, 4 _law_stuff, 5 _law_points, 6 _law_cutter, 7 _law_due, 8 _law_point, 9 _law_one, 10 _law_found, 11 _law_near, 12 _law_axis, 13 _law_sign, 14 _law_at -/
def B_law04 (i_do_meet i_moved i_swept i_barred i_neighbours i__law_next i__law_boxes i__law_cells i__law_solid i__law_is i__law_by : Nat) : Ss := (.cons (.asg (.pt (.nm 1)) (.lst (.cons (.slc (.var 0) .no (.so (.lit (.int (63))))) (.cons (.lit (.int (0))) (.cons (.lit (.int (0))) .nil))))) (.cons (.par [2, 3, 4] (.cons (.cal i__law_boxes (.cons (.var 1) (.cons (.lit (.int (3))) (.cons (.lit (.int (4))) .nil)))) (.cons (.cal i__law_boxes (.cons (.var 1) (.cons (.lit (.int (3))) (.cons (.lit (.int (3))) .nil)))) (.cons (.cal i__law_boxes (.cons (.var 1) (.cons (.lit (.int (3))) (.cons (.lit (.int (4))) .nil)))) .nil)))) (.cons (.par [5, 6] (.cons (.cal i__law_cells (.cons (.var 2) .nil)) (.cons (.cal i__law_cells (.cons (.var 3) .nil)) .nil))) (.cons (.asg (.pt (.nm 7)) .dnt) (.cons (.fo (.nm 8) (.sq (.var 5)) (.cons (.fo (.nm 9) (.sq (.var 6)) (.cons (.asg (.sub (.var 7) (.cal i__law_by (.cons (.var 8) (.cons (.var 9) (.cons (.lit (.int (1))) .nil))))) (.lit (.bl true))) .nil)) .nil)) (.cons (.ift (.nt (.cal i__law_is (.cons (.cal i_swept (.cons (.cal i__law_solid (.cons (.var 2) .nil)) (.cons (.cal i__law_solid (.cons (.var 3) .nil)) .nil))) (.cons (.var 7) .nil)))) (.cons (.ret (.lit (.bl false))) .nil) .nil) (.cons (.asg (.pt (.nm 7)) .dnt) (.cons (.fo (.nm 8) (.sq (.cal i__law_cells (.cons (.var 4) .nil))) (.cons (.fo (.nm 9) (.sq (.var 6)) (.cons (.asg (.sub (.var 7) (.cal i__law_by (.cons (.var 8) (.cons (.var 9) (.cons (.neg (.lit (.int (1)))) .nil))))) (.lit (.bl true))) .nil)) .nil)) (.cons (.asg (.pt (.nm 10)) (.cal i_barred (.cons (.cal i__law_solid (.cons (.var 3) .nil)) (.cons (.cal i__law_solid (.cons (.var 4) .nil)) .nil)))) (.cons (.ift (.nt (.cal i__law_is (.cons (.var 10) (.cons (.var 7) .nil)))) (.cons (.ret (.lit (.bl false))) .nil) .nil) (.cons (.asg (.pt (.nm 11)) (.blt .dictt (.cons (.var 5) .nil))) (.cons (.fo (.nm 8) (.sq (.var 5)) (.cons (.fo (.nm 12) (.r1 (.lit (.int (3)))) (.cons (.fo (.nm 13) (.sq (.tup (.cons (.neg (.lit (.int (1)))) (.cons (.lit (.int (1))) .nil)))) (.cons (.asg (.sub (.var 11) (.blt .tuple (.cons (.lc (.ife (.cmp .eq (.var 14) (.var 12)) (.bin .add (.var 9) (.var 13)) (.var 9)) (.tp (.cons (.nm 14) (.cons (.nm 9) .nil))) (.en (.var 8)) .no [14, 9]) .nil))) (.lit (.bl true))) .nil)) .nil)) .nil)) (.cons (.ift (.nt (.cal i__law_is (.cons (.cal i_neighbours (.cons (.cal i__law_solid (.cons (.var 2) .nil)) .nil)) (.cons (.var 11) .nil)))) (.cons (.ret (.lit (.bl false))) .nil) .nil) (.cons (.asg (.pt (.nm 14)) (.blt .tuple (.cons (.lc (.bin .sub (.cal i__law_next (.cons (.var 1) (.cons (.lit (.int (8))) .nil))) (.lit (.int (3)))) (.nm 12) (.r1 (.lit (.int (3)))) .no [12]) .nil))) (.cons (.ret (.cmp .eq (.cal i_do_meet (.cons (.cal i_moved (.cons (.cal i__law_solid (.cons (.var 3) .nil)) (.cons (.var 14) .nil))) (.cons (.cal i__law_solid (.cons (.var 4) .nil)) .nil))) (.cmp .inn (.var 14) (.var 7)))) .nil)))))))))))))))
def D_law04 (i_do_meet i_moved i_swept i_barred i_neighbours i__law_next i__law_boxes i__law_cells i__law_solid i__law_is i__law_by : Nat) : FD := ⟨1, 15, B_law04 i_do_meet i_moved i_swept i_barred i_neighbours i__law_next i__law_boxes i__law_cells i__law_solid i__law_is i__law_by⟩
end Lil
/-! Fn28: swept, barred, neighbours. Own work. -/
set_option linter.all false
set_option Elab.async false
set_option maxRecDepth 100000
set_option maxHeartbeats 4000000
namespace Lil
open Sol
def B_nest (iB iOf o i : Nat) (T1 T2 : E) : Ss := (.cons (.asg (.pt (.nm 2)) (.lst .nil)) (.cons (.fo (.tp (.cons (.nm 3) (.cons (.nm 4) .nil))) (.sq (.cal iB (.cons (.var o) .nil))) (.cons (.fo (.tp (.cons (.nm 5) (.cons (.nm 6) .nil))) (.sq (.cal iB (.cons (.var i) .nil))) (.cons (.asg (.pt (.nm 7)) T1) (.cons (.exp (.mth .append (.var 2) (.cons (.tup (.cons (.var 7) (.cons T2 .nil))) .nil))) .nil))) .nil)) (.cons (.ret (.cal iOf (.cons (.var 2) .nil))) .nil)))
def TOk (F : Nat → List DV → Hd → Res DV) (T : E) (g : P3 × P3 → P3 × P3 → P3) : Prop := ∀ (q r : P3 × P3) (x0 x1 x2 x7 x8 : Option DV) (h : Hd), To (ev F T [x0, x1, x2, some (encPt q.1), some (encPt q.2), some (encPt r.1), some (encPt r.2), x7, x8] h) fun v h' => v = encPt (g q r) ∧ Kp h.length h h'
def nestB (fB : P3 × P3 → P3 × P3 → P3 × P3) (L M : List (P3 × P3)) : List (P3 × P3) := L.flatMap fun q => M.map (fB q)
theorem nest_len {fB : P3 × P3 → P3 × P3 → P3 × P3} {L M : List (P3 × P3)} : (nestB fB L M).length = L.length * M.length := flat_len fun q _ => by rw [List.length_map]
theorem nest_ok {F : Nat → List DV → Hd → Res DV} {iB iOf o i : Nat} {T1 T2 : E} (fB : P3 × P3 → P3 × P3 → P3 × P3) (hB : BoxesOfOk (F iB)) (hOf : LawSolidOk (F iOf)) (h1 : TOk F T1 fun q r => (fB q r).1) (h2 : TOk F T2 fun q r => (fB q r).2)
    {a0 a1 : DV} {SO SI : Solid} (ho : ∀ l : Sl, (some a0 :: some a1 :: l)[o]? = some (some (encSol SO))) (hi : ∀ l : Sl, (some a0 :: some a1 :: l)[i]? = some (some (encSol SI))) (fO : few SO) (fI : few SI) (hl : (boxesOf SO).length * (boxesOf SI).length < 1000000)
    {R : Int → Prop} {c : Int} (hR : ∀ x, R x → Rg c x) (hb : ∀ q ∈ boxesOf SO, ∀ r ∈ boxesOf SI, bdP R (fB q r).1 ∧ bdP R (fB q r).2) (h : Hd) :
    To (runF F ⟨2, 9, B_nest iB iOf o i T1 T2⟩ [a0, a1] h) fun v h' => ∃ s, v = encSol s ∧ okSolid s ∧ bd3 R s ∧ (∀ z y x, has3 s z y x = (nestB fB (boxesOf SO) (boxesOf SI)).any (inB · z y x)) ∧ Kp h.length h h' := by
  refine runF_to rfl ?_
  simp only [B_nest]
  simp only [List.map_cons, List.map_nil, List.cons_append, List.nil_append, List.replicate, Nat.reduceSub, FT_step, evS_asg, ev_lst, evs_nil, mkLst, List.length_nil, Nat.zero_le, if_true, alloc, ok_bind, FT_fl, To_ok, asg_nm, FT_nx, List.set_cons_succ, List.set_cons_zero, evS_fo, evi_sq, ev_cal, evs_cons, ev_var, ho, To_bind]
  refine (hB SO (h ++ [.lst []]) fO).imp fun v h1' ⟨n1, l1, e, e1, k1⟩ => ?_
  subst e
  have hlen : (h ++ [DO.lst []]).length = h.length + 1 := by simp
  rw [hlen] at l1 k1
  have f0 : h1'[h.length]? = some (.lst []) := k1.get (by omega) (get_new _ _)
  have k0 : Kp h.length h h1' := (Kp.app (h := h) [DO.lst []] (Nat.le_refl _)).trans k1 (by omega)
  have bO := boxes_len fO
  have bI := boxes_len fI
  generalize hLL : boxesOf SO = L at *
  generalize hMM : boxesOf SI = M at *
  simp only [e1, To_ok, FT_aft, unlk_lst]
  obtain ⟨I, eI⟩ : ∃ I : Nat → Sl → Hd → Prop, ∀ j s h', I j s h' ↔ ∃ (x3 x4 x5 x6 x7 x8 : Option DV), s = [some a0, some a1, some (.ref h.length), x3, x4, x5, x6, x7, x8] ∧ h'[h.length]? = some (.lst ((nestB fB (L.take j) M).map encBx)) ∧ h'[n1]? = some (.lst (L.map encBx)) ∧ Kp h.length h h' := ⟨_, fun _ _ _ => Iff.rfl⟩
  refine loopF_rule (L.map encBx) I (fun j s h' hI _ => by
    obtain ⟨_, _, _, _, _, _, _, _, g, _⟩ := (eI ..).mp hI
    exact lst_item g j) (fun j d s h' hd hI => ?_) (fun s h' hI => ?_) _ _ _ _ (Nat.zero_le _) (by rw [List.length_map]; simp only [FUEL]; omega) ((eI ..).mpr ⟨none, none, none, none, none, none, rfl, f0, e1, k0⟩)
  · obtain ⟨x3, x4, x5, x6, x7, x8, rfl, g0, g1, kp⟩ := (eI ..).mp hI
    rw [List.getElem?_map] at hd
    obtain ⟨q, hq, rfl⟩ := Option.map_eq_some_iff.mp hd
    have hj : j < L.length := (List.getElem?_eq_some_iff.mp hq).1
    simp only [encBx, bind1_tp, bindAll_cons, bindAll_nil, bind1_nm, List.set_cons_succ, List.set_cons_zero, FT_step, evS_fo, evi_sq, ev_cal, evs_cons, evs_nil, ev_var, hi, ok_bind, FT_fl, To_bind]
    refine (hB SI h' fI).imp fun v h3 ⟨n2, l2, e, e2, k2⟩ => ?_
    rw [hMM] at e2
    subst e
    have m0 := lt_of_get g0
    have m1 := lt_of_get g1
    simp only [e2, To_ok, FT_aft, unlk_lst]
    obtain ⟨J, eJ⟩ : ∃ J : Nat → Sl → Hd → Prop, ∀ k s h', J k s h' ↔ ∃ (x5 x6 x7 x8 : Option DV), s = [some a0, some a1, some (.ref h.length), some (encPt q.1), some (encPt q.2), x5, x6, x7, x8] ∧ h'[h.length]? = some (.lst ((nestB fB (L.take j) M ++ (M.take k).map (fB q)).map encBx)) ∧ h'[n1]? = some (.lst (L.map encBx)) ∧ h'[n2]? = some (.lst (M.map encBx)) ∧ Kp h.length h h' := ⟨_, fun _ _ _ => Iff.rfl⟩
    refine loopF_rule (M.map encBx) J (fun k s h' hJ _ => by
      obtain ⟨_, _, _, _, _, _, _, g, _⟩ := (eJ ..).mp hJ
      exact lst_item g k) (fun k d s h4 hd hJ => ?_) (fun s h4 hJ => ?_) _ _ _ _ (Nat.zero_le _) (by rw [List.length_map]; simp only [FUEL]; omega) ((eJ ..).mpr ⟨_, _, _, _, rfl, by simpa using k2.get m0 g0, k2.get m1 g1, e2, kp.trans k2 kp.len⟩)
    · obtain ⟨x5, x6, x7, x8, rfl, g0, g1, g2, kp⟩ := (eJ ..).mp hJ
      rw [List.getElem?_map] at hd
      obtain ⟨r, hr, rfl⟩ := Option.map_eq_some_iff.mp hd
      have hk : k < M.length := (List.getElem?_eq_some_iff.mp hr).1
      have m0 := lt_of_get g0
      have m1 := lt_of_get g1
      have m2 := lt_of_get g2
      simp only [encBx, bind1_tp, bindAll_cons, bindAll_nil, bind1_nm, List.set_cons_succ, List.set_cons_zero, FT_step, evS_asg, FT_fl]
      refine (h1 q r _ _ _ _ _ h4).imp fun v h5 ⟨e, k5⟩ => ?_
      subst e
      have g0' := k5.get m0 g0
      have rc : recv .append (.ref h.length) h5 = true := by unfold recv; simp only [g0']; rfl
      simp only [asg_nm, To_ok, FT_nx, List.set_cons_succ, List.set_cons_zero, FT_step, evS_exp, ev_mth, ev_var, List.getElem?_cons_succ, List.getElem?_cons_zero, ok_bind, rc, if_true, evs_cons, evs_nil, ev_tup, FT_fl, To_bind]
      refine (h2 q r _ _ _ _ _ h5).imp fun v h6 ⟨e, k6⟩ => ?_
      subst e
      have k46 : Kp h4.length h4 h6 := k5.trans k6 k5.len
      have g0'' := k46.get m0 g0
      have el : nestB fB (L.take j) M ++ (M.take (k + 1)).map (fB q) = nestB fB (L.take j) M ++ (M.take k).map (fB q) ++ [fB q r] := by
        rw [List.take_add_one, hr, List.map_append, List.append_assoc]
        rfl
      have ln : (nestB fB (L.take j) M ++ (M.take k).map (fB q)).length ≤ L.length * M.length := by
        rw [List.length_append, nest_len, List.length_take, List.length_map, List.length_take]
        have a1 : min j L.length = j := by omega
        have a2 : min k M.length ≤ M.length := by omega
        have a3 : (j + 1) * M.length ≤ L.length * M.length := Nat.mul_le_mul_right _ hj
        rw [Nat.add_mul, Nat.one_mul] at a3
        rw [a1]
        omega
      have ad : mth .append (.ref h.length) [.tup [encPt (fB q r).1, encPt (fB q r).2]] h6 = .ok .non (h6.set h.length (.lst ((nestB fB (L.take j) M ++ (M.take (k + 1)).map (fB q)).map encBx))) := by
        unfold mth
        simp only [g0'']
        rw [if_pos (by rw [List.length_map]; simp only [LN]; omega), el, List.map_append (l₁ := nestB fB (L.take j) M ++ (M.take k).map (fB q))]
        rfl
      simp only [To_ok, mkTup, List.length_cons, List.length_nil, LN, Nat.zero_add, Nat.reduceAdd, Nat.reduceLeDiff, if_true, ok_bind, ad, FT_nx, FT_nil]
      refine (eJ ..).mpr ⟨_, _, _, _, rfl, get_set g0'', ?_, ?_, (kp.trans k46 kp.len).set (Nat.le_refl _)⟩
      · rw [List.getElem?_set_ne (by omega)]; exact k46.get m1 g1
      · rw [List.getElem?_set_ne (by have := kp.len; omega)]; exact k46.get m2 g2
    · obtain ⟨x5, x6, x7, x8, rfl, g0, g1, g2, kp⟩ := (eJ ..).mp hJ
      simp only [List.length_map, List.take_length] at g0
      simp only [FT_nil]
      refine (eI ..).mpr ⟨_, _, _, _, _, _, rfl, ?_, g1, kp⟩
      have : nestB fB (L.take (j + 1)) M = nestB fB (L.take j) M ++ M.map (fB q) := by
        unfold nestB
        rw [List.take_add_one, hq, List.flatMap_append]
        simp
      rw [this]
      exact g0
  · obtain ⟨x3, x4, x5, x6, x7, x8, rfl, g0, g1, kp⟩ := (eI ..).mp hI
    simp only [List.length_map, List.take_length] at g0
    simp only [FT_step, evS_ret, ev_cal, evs_cons, evs_nil, ev_var, List.getElem?_cons_succ, List.getElem?_cons_zero, ok_bind, FT_fl, FT_rt]
    refine (hOf h.length (nestB fB L M) R c h' hR g0 (fun q hq => ?_) (by rw [nest_len]; exact hl)).imp fun v h7 ⟨s, e, o, b, a, k⟩ => ⟨s, e, o, b, a, kp.trans k kp.len⟩
    obtain ⟨q', hq', hq⟩ := List.mem_flatMap.mp hq
    obtain ⟨r, hr, rfl⟩ := List.mem_map.mp hq
    exact hb q' hq' r hr
end Lil
/-! Fn29: swept, barred, neighbours, _law_by. Own work. -/
set_option linter.all false
set_option Elab.async false
set_option maxRecDepth 100000
set_option maxHeartbeats 4000000
namespace Lil
open Sol
/-- a tuple of three, axis by axis -/
theorem ax_comp {F : Nat → List DV → Hd → Res DV} {e : E} {s : Sl} {m : Nat} {f : Int → Int} {h : Hd} (hE : ∀ a, isAx a → ∀ h', ev F e ((s.set m none).set m (some (.int a))) h' = .ok (.int (f a)) h') :
    To (ev F (.blt .tuple (.cons (.lc e (.nm m) (.sq (.lit (.tup [.int (0), .int (1), .int (2)]))) .no [m]) .nil)) s h) fun v h' => v = encPt (mk3 f) ∧ Kp h.length h h' := by
  simp only [ev_blt, evs_cons, evs_nil, ev_lc, evi_sq, ev_lit, ok_bind, To_bind, To_aft, unlk_tup]
  refine loopC_pure [DV.int 0, DV.int 1, DV.int 2] [DV.int (f 0), DV.int (f 1), DV.int (f 2)] rfl rfl (by decide) (fun i h' _ _ => rfl) (fun j d v h2 hd hv k2 => ?_) (fun h2 hg k2 => ?_)
  · obtain ⟨a, ha, rfl, rfl⟩ := ax_turn (f := f) hd hv
    simp only [wip, bind1_nm, evc_no, ok_bind, if_true, hE a ha, To_ok, true_and]
    exact Kp.refl
  · have t2 : Lil.blt .tuple [.ref h.length] h2 = .ok (encPt (mk3 f)) h2 := blt_tup hg
    simp only [t2, To_ok, true_and]
    exact k2
def SweptOk (f : List DV → Hd → Res DV) : Prop := ∀ (S T : Solid) (h : Hd), okSolid S → okSolid T → bd3 (fun x => -14 ≤ x ∧ x ≤ 14) S → bd3 (fun x => -14 ≤ x ∧ x ≤ 14) T → (boxesOf S).length * (boxesOf T).length < 1000000 →
  To (f [encSol S, encSol T] h) fun v h' => ∃ s, v = encSol s ∧ okSolid s ∧ bd3 (Rg (-30)) s ∧ (∀ p, hasS s p ↔ ∃ a b, hasS S a ∧ hasS T b ∧ p = addV a b) ∧ Kp h.length h h'
def BarredOk (f : List DV → Hd → Res DV) : Prop := ∀ (T S : Solid) (h : Hd), okSolid S → okSolid T → bd3 (fun x => -14 ≤ x ∧ x ≤ 14) S → bd3 (fun x => -14 ≤ x ∧ x ≤ 14) T → (boxesOf S).length * (boxesOf T).length < 1000000 →
  To (f [encSol T, encSol S] h) fun v h' => ∃ s, v = encSol s ∧ okSolid s ∧ bd3 (Rg (-30)) s ∧ (∀ p, hasS s p ↔ ∃ a b, hasS S a ∧ hasS T b ∧ p = addV a (mulV (-1) b)) ∧ Kp h.length h h'
theorem nest_has {fB : P3 × P3 → P3 × P3 → P3 × P3} {g : P3 → P3 → P3} {s S T : Solid} (oS : okSolid S) (oT : okSolid T) (hs : ∀ z y x, has3 s z y x = (nestB fB (boxesOf S) (boxesOf T)).any (inB · z y x))
    (hf : ∀ q ∈ boxesOf S, ∀ r ∈ boxesOf T, ∀ p, hasB (fB q r) p ↔ ∃ x y, hasB q x ∧ hasB r y ∧ p = g x y) : ∀ p, hasS s p ↔ ∃ a b, hasS S a ∧ hasS T b ∧ p = g a b := fun p => by
  unfold hasS
  rw [hs, List.any_eq_true]
  constructor
  · rintro ⟨u, hu, h⟩
    obtain ⟨q, hq, hu⟩ := List.mem_flatMap.mp hu
    obtain ⟨r, hr, rfl⟩ := List.mem_map.mp hu
    obtain ⟨x, y, hx, hy, e⟩ := (hf q hq r hr p).mp (inB_hasB.mp h)
    exact ⟨x, y, (hasS_iff oS).mpr ⟨q, hq, hx⟩, (hasS_iff oT).mpr ⟨r, hr, hy⟩, e⟩
  · rintro ⟨a, b, ha, hb, e⟩
    obtain ⟨q, hq, hx⟩ := (hasS_iff oS).mp ha
    obtain ⟨r, hr, hy⟩ := (hasS_iff oT).mp hb
    exact ⟨fB q r, List.mem_flatMap.mpr ⟨q, hq, List.mem_map.mpr ⟨r, hr, rfl⟩⟩, inB_hasB.mpr ((hf q hq r hr p).mpr ⟨a, b, hx, hy, e⟩)⟩
theorem few14 {S : Solid} (o : okSolid S) (b : bd3 (fun x => -14 ≤ x ∧ x ≤ 14) S) : few S := few_of (c := -14) o (bd3_imp (fun x h => ⟨h.1, by have := h.2; omega⟩) b)
theorem swept_fn {F : Nat → List DV → Hd → Res DV} {iB iOf : Nat} (hB : BoxesOfOk (F iB)) (hOf : LawSolidOk (F iOf)) : SweptOk (runF F (D_swept iB iOf)) := by
  intro S T h oS oT bS bT hl
  have t1 : TOk F (.blt .tuple (.cons (.lc (.bin .add (.idx (.var 3) (.var 8)) (.idx (.var 5) (.var 8))) (.nm 8) (.sq (.lit (.tup [.int (0), .int (1), .int (2)]))) .no [8]) .nil)) fun q r => (swB q r).1 := fun q r x0 x1 x2 x7 x8 h => by
    refine ax_comp (f := fun a => ax a q.1 + ax a r.1) fun a ha h' => ?_
    simp only [List.set_cons_succ, List.set_cons_zero, ev_bin, ev_idx, ev_var, List.getElem?_cons_succ, List.getElem?_cons_zero, ok_bind, ix_ax ha, ofO_some, bop_add]
  have t2 : TOk F (.blt .tuple (.cons (.lc (.bin .add (.bin .sub (.idx (.var 4) (.var 8)) (.lit (.int (1)))) (.idx (.var 6) (.var 8))) (.nm 8) (.sq (.lit (.tup [.int (0), .int (1), .int (2)]))) .no [8]) .nil)) fun q r => (swB q r).2 := fun q r x0 x1 x2 x7 x8 h => by
    refine ax_comp (f := fun a => ax a q.2 - 1 + ax a r.2) fun a ha h' => ?_
    simp only [List.set_cons_succ, List.set_cons_zero, ev_bin, ev_idx, ev_var, ev_lit, List.getElem?_cons_succ, List.getElem?_cons_zero, ok_bind, ix_ax ha, ofO_some, bop_add, bop_sub]
  refine (nest_ok (o := 0) (i := 1) swB hB hOf t1 t2 (a0 := encSol S) (a1 := encSol T) (SO := S) (SI := T) (fun _ => rfl) (fun _ => rfl) (few14 oS bS) (few14 oT bT) hl (R := Rg (-30)) (c := -30) (fun _ h => h) (fun q hq r hr => ?_) h).imp fun v h' ⟨s, e, o, b, a, k⟩ => ⟨s, e, o, b, nest_has oS oT a fun q hq r hr p => swB_has (fun a ha => ord_ax oS hq ha) (fun a ha => ord_ax oT hr ha), k⟩
  have b1 := boxes_bd bS q hq
  have b2 := boxes_bd bT r hr
  refine ⟨bdP_ax.mpr fun a ha => ?_, bdP_ax.mpr fun a ha => ?_⟩
  · have := bdP_ax.mp b1.1 a ha
    have := bdP_ax.mp b2.1 a ha
    unfold swB Rg
    rw [ax_mk3 ha]
    omega
  · have := bdP_ax.mp b1.2 a ha
    have := bdP_ax.mp b2.2 a ha
    unfold swB Rg
    rw [ax_mk3 ha]
    omega
theorem barred_fn {F : Nat → List DV → Hd → Res DV} {iB iOf : Nat} (hB : BoxesOfOk (F iB)) (hOf : LawSolidOk (F iOf)) : BarredOk (runF F (D_barred iB iOf)) := by
  intro T S h oS oT bS bT hl
  have t1 : TOk F (.blt .tuple (.cons (.lc (.bin .add (.bin .sub (.idx (.var 3) (.var 8)) (.idx (.var 6) (.var 8))) (.lit (.int (1)))) (.nm 8) (.sq (.lit (.tup [.int (0), .int (1), .int (2)]))) .no [8]) .nil)) fun q r => (baB q r).1 := fun q r x0 x1 x2 x7 x8 h => by
    refine ax_comp (f := fun a => ax a q.1 - ax a r.2 + 1) fun a ha h' => ?_
    simp only [List.set_cons_succ, List.set_cons_zero, ev_bin, ev_idx, ev_var, ev_lit, List.getElem?_cons_succ, List.getElem?_cons_zero, ok_bind, ix_ax ha, ofO_some, bop_add, bop_sub]
  have t2 : TOk F (.blt .tuple (.cons (.lc (.bin .sub (.idx (.var 4) (.var 8)) (.idx (.var 5) (.var 8))) (.nm 8) (.sq (.lit (.tup [.int (0), .int (1), .int (2)]))) .no [8]) .nil)) fun q r => (baB q r).2 := fun q r x0 x1 x2 x7 x8 h => by
    refine ax_comp (f := fun a => ax a q.2 - ax a r.1) fun a ha h' => ?_
    simp only [List.set_cons_succ, List.set_cons_zero, ev_bin, ev_idx, ev_var, ev_lit, List.getElem?_cons_succ, List.getElem?_cons_zero, ok_bind, ix_ax ha, ofO_some, bop_add, bop_sub]
  refine (nest_ok (o := 1) (i := 0) baB hB hOf t1 t2 (a0 := encSol T) (a1 := encSol S) (SO := S) (SI := T) (fun _ => rfl) (fun _ => rfl) (few14 oS bS) (few14 oT bT) hl (R := Rg (-30)) (c := -30) (fun _ h => h) (fun q hq r hr => ?_) h).imp fun v h' ⟨s, e, o, b, a, k⟩ => ⟨s, e, o, b, nest_has oS oT a fun q hq r hr p => baB_has (fun a ha => ord_ax oS hq ha) (fun a ha => ord_ax oT hr ha), k⟩
  have b1 := boxes_bd bS q hq
  have b2 := boxes_bd bT r hr
  refine ⟨bdP_ax.mpr fun a ha => ?_, bdP_ax.mpr fun a ha => ?_⟩
  · have := bdP_ax.mp b1.1 a ha
    have := bdP_ax.mp b2.2 a ha
    unfold baB Rg
    rw [ax_mk3 ha]
    omega
  · have := bdP_ax.mp b1.2 a ha
    have := bdP_ax.mp b2.1 a ha
    unfold baB Rg
    rw [ax_mk3 ha]
    omega
/-! ### neighbours -/
def nb3 (q : P3 × P3) : List (P3 × P3) := [0, 1, 2].map (nbB q)
def NbOk (f : List DV → Hd → Res DV) : Prop := ∀ (S : Solid) (h : Hd), okSolid S → bd3 (fun x => -14 ≤ x ∧ x ≤ 14) S →
  To (f [encSol S] h) fun v h' => ∃ s, v = encSol s ∧ okSolid s ∧ bd3 (Rg (-30)) s ∧ (∀ p, hasS s p ↔ hasS S p ∨ ∃ b, isAx b ∧ (hasS S (addV p (dv b 1)) ∨ hasS S (addV p (dv b (-1))))) ∧ Kp h.length h h'
theorem nb_has {s S : Solid} (oS : okSolid S) (hs : ∀ z y x, has3 s z y x = (boxesOf S ++ (boxesOf S).flatMap nb3).any (inB · z y x)) : ∀ p, hasS s p ↔ hasS S p ∨ ∃ b, isAx b ∧ (hasS S (addV p (dv b 1)) ∨ hasS S (addV p (dv b (-1)))) := fun p => by
  have sh : ∀ (x : P3) (b t : Int), p = addV x (dv b t) ↔ x = addV p (dv b (-t)) := fun x b t => by
    have n1 : negV (dv b t) = dv b (-t) := by
      unfold negV dv
      refine Prod.ext ?_ (Prod.ext ?_ ?_) <;> (dsimp only; split <;> omega)
    constructor
    · rintro rfl; rw [← n1, addV_neg]
    · rintro rfl; rw [← n1, addV_neg']
  unfold hasS
  rw [hs, List.any_eq_true]
  constructor
  · rintro ⟨u, hu, h⟩
    have h := inB_hasB.mp h
    rcases List.mem_append.mp hu with hu | hu
    · exact .inl ((hasS_iff oS).mpr ⟨u, hu, h⟩)
    · obtain ⟨q, hq, hu⟩ := List.mem_flatMap.mp hu
      obtain ⟨b, hb, rfl⟩ := List.mem_map.mp hu
      have hb : isAx b := by simpa [isAx] using hb
      rcases (nbB_has (fun a ha => ord_ax oS hq ha) hb).mp h with h | ⟨x, hx, e | e⟩
      · exact .inl ((hasS_iff oS).mpr ⟨q, hq, h⟩)
      · have := (sh x b (-1)).mp e
        subst this
        exact .inr ⟨b, hb, .inl ((hasS_iff oS).mpr ⟨q, hq, hx⟩)⟩
      · have := (sh x b 1).mp e
        subst this
        exact .inr ⟨b, hb, .inr ((hasS_iff oS).mpr ⟨q, hq, hx⟩)⟩
  · rintro (h | ⟨b, hb, h | h⟩)
    · obtain ⟨q, hq, h⟩ := (hasS_iff oS).mp h
      exact ⟨q, List.mem_append_left _ hq, inB_hasB.mpr h⟩
    · obtain ⟨q, hq, h⟩ := (hasS_iff oS).mp h
      refine ⟨nbB q b, List.mem_append_right _ (List.mem_flatMap.mpr ⟨q, hq, List.mem_map.mpr ⟨b, by simpa [isAx] using hb, rfl⟩⟩), inB_hasB.mpr ((nbB_has (fun a ha => ord_ax oS hq ha) hb).mpr (.inr ⟨_, h, .inl ((sh _ b (-1)).mpr rfl)⟩))⟩
    · obtain ⟨q, hq, h⟩ := (hasS_iff oS).mp h
      refine ⟨nbB q b, List.mem_append_right _ (List.mem_flatMap.mpr ⟨q, hq, List.mem_map.mpr ⟨b, by simpa [isAx] using hb, rfl⟩⟩), inB_hasB.mpr ((nbB_has (fun a ha => ord_ax oS hq ha) hb).mpr (.inr ⟨_, h, .inr ((sh _ b 1).mpr rfl)⟩))⟩
end Lil
/-! Bod41: more bodies, the called defs as places. Written by gen.py. -/
set_option linter.all false
set_option Elab.async false
namespace Lil
/-- line_lot: 0 start, 1 axis, 2 to, 3 low, 4 high, 5 one -/
def B_line_lot (i_box : Nat) : Ss := (.cons (.par [3, 4] (.cons (.blt .list (.cons (.var 0) .nil)) (.cons (.lc (.bin .add (.var 5) (.lit (.int (1)))) (.nm 5) (.sq (.var 0)) .no [5]) .nil))) (.cons (.asg (.sub (.var 3) (.var 1)) (.blt .min (.cons (.lst (.cons (.idx (.var 0) (.var 1)) (.cons (.var 2) .nil))) .nil))) (.cons (.asg (.sub (.var 4) (.var 1)) (.bin .add (.blt .max (.cons (.lst (.cons (.idx (.var 0) (.var 1)) (.cons (.var 2) .nil))) .nil)) (.lit (.int (1))))) (.cons (.ret (.cal i_box (.cons (.blt .tuple (.cons (.var 3) .nil)) (.cons (.blt .tuple (.cons (.var 4) .nil)) .nil)))) .nil))))
def D_line_lot (i_box : Nat) : FD := ⟨3, 6, B_line_lot i_box⟩
/-- travel_lot: 0 machine, 1 low, 2 high, 3 one -/
def B_travel_lot (i_box : Nat) : Ss := (.cons (.asg (.tp (.cons (.pt (.nm 1)) (.cons (.pt (.nm 2)) .nil))) (.slc (.var 0) .no (.so (.lit (.int (2)))))) (.cons (.ret (.cal i_box (.cons (.var 1) (.cons (.blt .tuple (.cons (.lc (.bin .add (.var 3) (.lit (.int (1)))) (.nm 3) (.sq (.var 2)) .no [3]) .nil)) .nil)))) .nil))
def D_travel_lot (i_box : Nat) : FD := ⟨1, 4, B_travel_lot i_box⟩
/-- cube_at: 0 standing, 1 one -/
def B_cube_at (i_box : Nat) : Ss := (.cons (.ret (.cal i_box (.cons (.var 0) (.cons (.blt .tuple (.cons (.lc (.bin .add (.var 1) (.lit (.int (1)))) (.nm 1) (.sq (.var 0)) .no [1]) .nil)) .nil)))) .nil)
def D_cube_at (i_box : Nat) : FD := ⟨1, 2, B_cube_at i_box⟩
/-- _law_tool: 0 _law_draw_here, 1 _law_name, 2 _law_wide, 3 _law_deep, 4 _law_cutter, 5 _law_low, 6 _law_high -/
def B__law_tool (i_union i_box i__law_next : Nat) : Ss := (.cons (.par [2, 3] (.cons (.bin .add (.lit (.int (1))) (.cal i__law_next (.cons (.var 0) (.cons (.lit (.int (2))) .nil)))) (.cons (.bin .add (.lit (.int (1))) (.cal i__law_next (.cons (.var 0) (.cons (.lit (.int (2))) .nil)))) .nil))) (.cons (.asg (.pt (.nm 4)) (.cal i_box (.cons (.tup (.cons (.lit (.int (0))) (.cons (.lit (.int (0))) (.cons (.lit (.int (0))) .nil)))) (.cons (.tup (.cons (.var 2) (.cons (.bin .add (.lit (.int (1))) (.cal i__law_next (.cons (.var 0) (.cons (.lit (.int (2))) .nil)))) (.cons (.var 3) .nil)))) .nil)))) (.cons (.ift (.cmp .eq (.cal i__law_next (.cons (.var 0) (.cons (.lit (.int (4))) .nil))) (.lit (.int (0)))) (.cons (.asg (.pt (.nm 4)) (.cal i_union (.cons (.var 4) (.cons (.cal i_box (.cons (.tup (.cons (.neg (.lit (.int (1)))) (.cons (.lit (.int (0))) (.cons (.lit (.int (0))) .nil)))) (.cons (.tup (.cons (.bin .add (.var 2) (.lit (.int (1)))) (.cons (.lit (.int (1))) (.cons (.lit (.int (1))) .nil)))) .nil))) .nil)))) .nil) .nil) (.cons (.par [5, 6] (.cons (.tup (.cons (.neg (.cal i__law_next (.cons (.var 0) (.cons (.lit (.int (2))) .nil)))) (.cons (.neg (.cal i__law_next (.cons (.var 0) (.cons (.lit (.int (2))) .nil)))) (.cons (.var 3) .nil)))) (.cons (.tup (.cons (.bin .add (.var 2) (.cal i__law_next (.cons (.var 0) (.cons (.lit (.int (2))) .nil)))) (.cons (.bin .add (.lit (.int (2))) (.cal i__law_next (.cons (.var 0) (.cons (.lit (.int (2))) .nil)))) (.cons (.bin .add (.var 3) (.lit (.int (2)))) .nil)))) .nil))) (.cons (.ret (.tup (.cons (.var 1) (.cons (.var 4) (.cons (.ife (.cmp .gt (.cal i__law_next (.cons (.var 0) (.cons (.lit (.int (3))) .nil))) (.lit (.int (0)))) (.cal i_box (.cons (.var 5) (.cons (.var 6) .nil))) (.tup .nil)) (.cons (.bin .add (.lit (.int (1))) (.cal i__law_next (.cons (.var 0) (.cons (.lit (.int (5))) .nil)))) .nil)))))) .nil)))))
def D__law_tool (i_union i_box i__law_next : Nat) : FD := ⟨2, 7, B__law_tool i_union i_box i__law_next⟩
/-- _law_cubes: 0 _law_solid, 1 _law_found, 2 _law_z0, 3 _law_z1, 4 _law_layer, 5 _law_y0, 6 _law_y1, 7 _law_row, 8 _law_x0, 9 _law_x1, 10 _law_z, 11 _law_y, 12 _law_x -/
def B__law_cubes : Ss := (.cons (.asg (.pt (.nm 1)) .dnt) (.cons (.fo (.tp (.cons (.nm 2) (.cons (.nm 3) (.cons (.nm 4) .nil)))) (.sq (.var 0)) (.cons (.fo (.tp (.cons (.nm 5) (.cons (.nm 6) (.cons (.nm 7) .nil)))) (.sq (.var 4)) (.cons (.fo (.tp (.cons (.nm 8) (.cons (.nm 9) .nil))) (.sq (.var 7)) (.cons (.fo (.nm 10) (.r2 (.var 2) (.var 3)) (.cons (.fo (.nm 11) (.r2 (.var 5) (.var 6)) (.cons (.fo (.nm 12) (.r2 (.var 8) (.var 9)) (.cons (.asg (.sub (.var 1) (.tup (.cons (.var 12) (.cons (.var 11) (.cons (.var 10) .nil))))) (.lit (.bl true))) .nil)) .nil)) .nil)) .nil)) .nil)) .nil)) (.cons (.ret (.var 1)) .nil)))
def D__law_cubes : FD := ⟨1, 13, B__law_cubes⟩
/-- law: 0 _law_script, 1 _law_draw_here, 2 _law_name, 3 _law_cutter, 4 _law_holder, 5 _law_rate, 6 _law_turn, 7 _law_start, 8 _law_axis, 9 _law_to, 10 _law_places, 11 _law_number_here, 12 _law_lot, 13 _law_found, 14 _law_place, 15 _law_low, 16 _law_high, 17 _law_cubes_here, 18 _law_many, 19 _law_at, 20 _law_one -/
def B_law41 (i_union i_moved i_swept i_cube_at i_line_lot i_travel_lot i__law_next i__law_tool i__law_cubes : Nat) : Ss := (.cons (.asg (.pt (.nm 1)) (.lst (.cons (.slc (.var 0) .no (.so (.lit (.int (63))))) (.cons (.lit (.int (0))) (.cons (.lit (.int (0))) .nil))))) (.cons (.asg (.tp (.cons (.pt (.nm 2)) (.cons (.pt (.nm 3)) (.cons (.pt (.nm 4)) (.cons (.pt (.nm 5)) .nil))))) (.cal i__law_tool (.cons (.var 1) (.cons (.lit (.str [116])) .nil)))) (.cons (.fo (.nm 6) (.r1 (.lit (.int (3)))) (.cons (.asg (.pt (.nm 7)) (.blt .tuple (.cons (.lc (.bin .sub (.cal i__law_next (.cons (.var 1) (.cons (.lit (.int (9))) .nil))) (.lit (.int (4)))) (.nm 8) (.r1 (.lit (.int (3)))) .no [8]) .nil))) (.cons (.asg (.tp (.cons (.pt (.nm 8)) (.cons (.pt (.nm 9)) .nil))) (.tup (.cons (.cal i__law_next (.cons (.var 1) (.cons (.lit (.int (3))) .nil))) (.cons (.bin .sub (.cal i__law_next (.cons (.var 1) (.cons (.lit (.int (9))) .nil))) (.lit (.int (4)))) .nil)))) (.cons (.asg (.pt (.nm 10)) (.lst .nil)) (.cons (.fo (.nm 11) (.r2 (.blt .min (.cons (.lst (.cons (.var 9) (.cons (.idx (.var 7) (.var 8)) .nil))) .nil)) (.bin .add (.blt .max (.cons (.lst (.cons (.var 9) (.cons (.idx (.var 7) (.var 8)) .nil))) .nil)) (.lit (.int (1))))) (.cons (.exp (.mth .append (.var 10) (.cons (.blt .tuple (.cons (.lc (.ife (.cmp .eq (.var 19) (.var 8)) (.var 11) (.var 20)) (.tp (.cons (.nm 19) (.cons (.nm 20) .nil))) (.en (.var 7)) .no [19, 20]) .nil)) .nil))) .nil)) (.cons (.asg (.pt (.nm 12)) (.cal i_line_lot (.cons (.var 7) (.cons (.var 8) (.cons (.var 9) .nil))))) (.cons (.ift (.or (.cmp .ne (.blt .sorted (.cons (.cal i__law_cubes (.cons (.var 12) .nil)) .nil)) (.blt .sorted (.cons (.var 10) .nil))) (.cmp .ne (.cal i__law_cubes (.cons (.cal i_cube_at (.cons (.var 7) .nil)) .nil)) (.ds1 true (.var 7) (.lit (.bl true))))) (.cons (.ret (.lit (.bl false))) .nil) .nil) (.cons (.asg (.pt (.nm 13)) (.tup .nil)) (.cons (.fo (.nm 14) (.sq (.var 10)) (.cons (.asg (.pt (.nm 13)) (.cal i_union (.cons (.var 13) (.cons (.cal i_moved (.cons (.var 3) (.cons (.var 14) .nil))) .nil)))) .nil)) (.cons (.ift (.cmp .ne (.cal i_swept (.cons (.var 12) (.cons (.var 3) .nil))) (.var 13)) (.cons (.ret (.lit (.bl false))) .nil) .nil) .nil)))))))))) (.cons (.asg (.pt (.nm 15)) (.blt .tuple (.cons (.lc (.bin .sub (.cal i__law_next (.cons (.var 1) (.cons (.lit (.int (5))) .nil))) (.lit (.int (4)))) (.nm 8) (.r1 (.lit (.int (3)))) .no [8]) .nil))) (.cons (.asg (.pt (.nm 16)) (.blt .tuple (.cons (.lc (.bin .add (.var 20) (.cal i__law_next (.cons (.var 1) (.cons (.lit (.int (3))) .nil)))) (.nm 20) (.sq (.var 15)) .no [20]) .nil))) (.cons (.asg (.pt (.nm 17)) (.cal i__law_cubes (.cons (.cal i_travel_lot (.cons (.tup (.cons (.var 15) (.cons (.var 16) (.cons (.var 15) (.cons (.lit (.int (1))) (.cons (.lit (.int (1))) (.cons (.lit (.int (1))) .nil))))))) .nil)) .nil))) (.cons (.asg (.pt (.nm 18)) (.lit (.int (1)))) (.cons (.fo (.nm 8) (.r1 (.lit (.int (3)))) (.cons (.asg (.pt (.nm 18)) (.bin .mul (.var 18) (.bin .add (.bin .sub (.idx (.var 16) (.var 8)) (.idx (.var 15) (.var 8))) (.lit (.int (1)))))) .nil)) (.cons (.ret (.and (.cmp .eq (.blt .len (.cons (.var 17) .nil)) (.var 18)) (.and (.cmp .inn (.var 15) (.var 17)) (.cmp .inn (.var 16) (.var 17))))) .nil)))))))))
def D_law41 (i_union i_moved i_swept i_cube_at i_line_lot i_travel_lot i__law_next i__law_tool i__law_cubes : Nat) : FD := ⟨1, 21, B_law41 i_union i_moved i_swept i_cube_at i_line_lot i_travel_lot i__law_next i__law_tool i__law_cubes⟩
end Lil
/-! Fn40: cube_at, line_lot, travel_lot, _law_tool. Own work. -/
set_option linter.all false
set_option Elab.async false
set_option maxRecDepth 100000
set_option maxHeartbeats 4000000
namespace Lil
open Sol
/-- a comprehension over a point -/
theorem pt_comp {F : Nat → List DV → Hd → Res DV} {e : E} {s : Sl} {m j : Nat} {g : Int → Int} {p : P3} {h : Hd} (hj : s[j]? = some (some (encPt p))) (hE : ∀ x h', ev F e ((s.set m none).set m (some (.int x))) h' = .ok (.int (g x)) h') :
    To (ev F (.lc e (.nm m) (.sq (.var j)) .no [m]) s h) fun v h' => v = .ref h.length ∧ h'[h.length]? = some (.lst [.int (g p.1), .int (g p.2.1), .int (g p.2.2)]) ∧ Kp h.length h h' := by
  simp only [ev_lc, evi_sq, ev_var, hj, encPt, ok_bind, To_aft, unlk_tup]
  refine loopC_pure [DV.int p.1, DV.int p.2.1, DV.int p.2.2] [DV.int (g p.1), DV.int (g p.2.1), DV.int (g p.2.2)] rfl rfl (by simp) (fun i h' _ _ => rfl) (fun i d v h2 hd hv k2 => ?_) (fun h2 hg k2 => ?_)
  · obtain ⟨x, rfl, rfl⟩ : ∃ x : Int, d = .int x ∧ v = .int (g x) := by
      match i, hd, hv with
      | 0, hd, hv => cases hd; cases hv; exact ⟨_, rfl, rfl⟩
      | 1, hd, hv => cases hd; cases hv; exact ⟨_, rfl, rfl⟩
      | 2, hd, hv => cases hd; cases hv; exact ⟨_, rfl, rfl⟩
      | j + 3, hd, hv => cases hd
    simp only [wip, bind1_nm, evc_no, ok_bind, if_true, hE, To_ok, true_and]
    exact Kp.refl
  · exact ⟨rfl, hg, k2⟩
def inc (p : P3) : P3 := (p.1 + 1, p.2.1 + 1, p.2.2 + 1)
def CubeAtOk (f : List DV → Hd → Res DV) : Prop := ∀ (p : P3) (h : Hd), To (f [encPt p] h) fun v h' => v = encSol (boxS p (inc p)) ∧ Kp h.length h h'
theorem cube_at_fn {F : Nat → List DV → Hd → Res DV} {iX : Nat} (hX : BoxOk (F iX)) : CubeAtOk (runF F (D_cube_at iX)) := by
  intro p h
  refine runF_to rfl ?_
  simp only [B_cube_at]
  simp only [List.map_cons, List.map_nil, List.cons_append, List.nil_append, List.replicate, Nat.reduceSub, FT_step, evS_ret]
  simp only [ev_cal, evs_cons, evs_nil, ev_var, ev_blt, List.getElem?_cons_zero, ok_bind, FT_fl, To_bind]
  refine (pt_comp (g := fun x => x + 1) (p := p) rfl fun x h' => ?_).imp fun v h1 ⟨e, e1, k1⟩ => ?_
  · simp only [List.set_cons_succ, List.set_cons_zero, ev_bin, ev_var, ev_lit, List.getElem?_cons_succ, List.getElem?_cons_zero, ok_bind, bop_add]
  subst e
  have t1 : Lil.blt .tuple [.ref h.length] h1 = .ok (encPt (inc p)) h1 := blt_tup e1
  simp only [To_ok, ok_bind, To_bind, t1, FT_rt]
  exact (hX p (inc p) h1).imp fun v h2 ⟨e, k2⟩ => ⟨e, k1.trans k2 k1.len⟩
def TravelOk (f : List DV → Hd → Res DV) : Prop := ∀ (lo hi : P3) (a b c d : DV) (h : Hd), To (f [.tup [encPt lo, encPt hi, a, b, c, d]] h) fun v h' => v = encSol (boxS lo (inc hi)) ∧ Kp h.length h h'
theorem travel_fn {F : Nat → List DV → Hd → Res DV} {iX : Nat} (hX : BoxOk (F iX)) : TravelOk (runF F (D_travel_lot iX)) := by
  intro lo hi a b c d h
  refine runF_to rfl ?_
  have sl : slice (.tup [encPt lo, encPt hi, a, b, c, d]) none (some 2) h = .ok (.tup [encPt lo, encPt hi]) h := rfl
  simp only [B_travel_lot]
  simp only [List.map_cons, List.map_nil, List.cons_append, List.nil_append, List.replicate, Nat.reduceSub, FT_step, evS_asg, ev_slc, evo_no, evo_so, ev_lit, ev_var, List.getElem?_cons_zero, ok_bind, sl, FT_fl, To_ok, asg_tp, asgs_cons, asgs_nil, asg_nm, FT_nx, List.set_cons_succ, List.set_cons_zero, evS_ret]
  simp only [ev_cal, evs_cons, evs_nil, ev_var, ev_blt, List.getElem?_cons_succ, List.getElem?_cons_zero, ok_bind, To_bind]
  refine (pt_comp (g := fun x => x + 1) (p := hi) rfl fun x h' => ?_).imp fun v h1 ⟨e, e1, k1⟩ => ?_
  · simp only [List.set_cons_succ, List.set_cons_zero, ev_bin, ev_var, ev_lit, List.getElem?_cons_succ, List.getElem?_cons_zero, ok_bind, bop_add]
  subst e
  have t1 : Lil.blt .tuple [.ref h.length] h1 = .ok (encPt (inc hi)) h1 := blt_tup e1
  simp only [To_ok, ok_bind, To_bind, t1, FT_rt]
  exact (hX lo (inc hi) h1).imp fun v h2 ⟨e, k2⟩ => ⟨e, k1.trans k2 k1.len⟩
/-! ### line_lot -/
def mn2 (x y : Int) : Int := if x ≤ y then x else y
def mx2 (x y : Int) : Int := if y ≤ x then x else y
def lnLo (p : P3) (b t : Int) : P3 := mk3 fun a => if a = b then mn2 (ax a p) t else ax a p
def lnHi (p : P3) (b t : Int) : P3 := mk3 fun a => if a = b then mx2 (ax a p) t + 1 else ax a p + 1
theorem blt_mn2 {h : Hd} {n : Nat} {x y : Int} (e : h[n]? = some (.lst [.int x, .int y])) : Lil.blt .min [.ref n] h = .ok (.int (mn2 x y)) h := by
  unfold Lil.blt
  simp only [e]
  rfl
theorem blt_mx2 {h : Hd} {n : Nat} {x y : Int} (e : h[n]? = some (.lst [.int x, .int y])) : Lil.blt .max [.ref n] h = .ok (.int (mx2 x y)) h := by
  unfold Lil.blt
  simp only [e]
  rfl
theorem store_3 {h : Hd} {n : Nat} {p : P3} {b v : Int} (hb : isAx b) (e : h[n]? = some (.lst [.int p.1, .int p.2.1, .int p.2.2])) : store (.ref n) (.int b) (.int v) h = some (h.set n (.lst [.int (if 0 = b then v else p.1), .int (if 1 = b then v else p.2.1), .int (if 2 = b then v else p.2.2)])) := by
  unfold store
  rcases hb with rfl | rfl | rfl
  · simp [e, ixn]
  · simp [e, ixn]
  · simp [e, ixn]
def LineOk (f : List DV → Hd → Res DV) : Prop := ∀ (p : P3) (b t : Int) (h : Hd), isAx b → To (f [encPt p, .int b, .int t] h) fun v h' => v = encSol (boxS (lnLo p b t) (lnHi p b t)) ∧ Kp h.length h h'
theorem line_fn {F : Nat → List DV → Hd → Res DV} {iX : Nat} (hX : BoxOk (F iX)) : LineOk (runF F (D_line_lot iX)) := by
  intro p b t h hb
  refine runF_to rfl ?_
  have bl : Lil.blt .list [encPt p] h = .ok (.ref h.length) (h ++ [.lst [.int p.1, .int p.2.1, .int p.2.2]]) := rfl
  simp only [B_line_lot]
  simp only [List.map_cons, List.map_nil, List.cons_append, List.nil_append, List.replicate, Nat.reduceSub, FT_step, evS_par]
  simp only [evs_cons, evs_nil, ev_blt, ev_var, List.getElem?_cons_zero, ok_bind, bl, FT_fl, To_bind]
  refine (pt_comp (g := fun x => x + 1) (p := p) rfl fun x h' => ?_).imp fun v h1 ⟨e, e1, k1⟩ => ?_
  · simp only [List.set_cons_succ, List.set_cons_zero, ev_bin, ev_var, ev_lit, List.getElem?_cons_succ, List.getElem?_cons_zero, ok_bind, bop_add]
  subst e
  have l0 : (h ++ [DO.lst [.int p.1, .int p.2.1, .int p.2.2]]).length = h.length + 1 := by simp
  rw [l0] at e1 k1 ⊢
  have e0 : h1[h.length]? = some (.lst [.int p.1, .int p.2.1, .int p.2.2]) := k1.get (by omega) (get_new _ _)
  have kh : Kp h.length h h1 := (Kp.app (h := h) [DO.lst [.int p.1, .int p.2.1, .int p.2.2]] (Nat.le_refl _)).trans k1 (by omega)
  have L0 := lt_of_get e0
  have L1 := lt_of_get e1
  -- the low end
  have e0a : (h1 ++ [DO.lst [.int (ax b p), .int t]])[h.length]? = some (.lst [.int p.1, .int p.2.1, .int p.2.2]) := by rw [List.getElem?_append_left L0]; exact e0
  have s0 := store_3 (v := mn2 (ax b p) t) hb e0a
  obtain ⟨h2, eh2⟩ : ∃ h2 : Hd, h2 = (h1 ++ [DO.lst [.int (ax b p), .int t]]).set h.length (.lst [.int (if 0 = b then mn2 (ax b p) t else p.1), .int (if 1 = b then mn2 (ax b p) t else p.2.1), .int (if 2 = b then mn2 (ax b p) t else p.2.2)]) := ⟨_, rfl⟩
  rw [← eh2] at s0
  have f0 : h2[h.length]? = some (.lst [.int (if 0 = b then mn2 (ax b p) t else p.1), .int (if 1 = b then mn2 (ax b p) t else p.2.1), .int (if 2 = b then mn2 (ax b p) t else p.2.2)]) := by rw [eh2]; exact get_set e0a
  have f1 : h2[h.length + 1]? = some (.lst [.int (p.1 + 1), .int (p.2.1 + 1), .int (p.2.2 + 1)]) := by rw [eh2, List.getElem?_set_ne (by omega), List.getElem?_append_left L1]; exact e1
  have k2 : Kp h.length h h2 := by rw [eh2]; exact (kh.trans (Kp.app _ (Nat.le_refl _)) kh.len).set (Nat.le_refl _)
  have L2 := lt_of_get f0
  have L3 := lt_of_get f1
  have f1a : (h2 ++ [DO.lst [.int (ax b p), .int t]])[h.length + 1]? = some (.lst [.int (inc p).1, .int (inc p).2.1, .int (inc p).2.2]) := by rw [List.getElem?_append_left L3]; exact f1
  have s1 := store_3 (v := mx2 (ax b p) t + 1) hb f1a
  obtain ⟨h3, eh3⟩ : ∃ h3 : Hd, h3 = (h2 ++ [DO.lst [.int (ax b p), .int t]]).set (h.length + 1) (.lst [.int (if 0 = b then mx2 (ax b p) t + 1 else (inc p).1), .int (if 1 = b then mx2 (ax b p) t + 1 else (inc p).2.1), .int (if 2 = b then mx2 (ax b p) t + 1 else (inc p).2.2)]) := ⟨_, rfl⟩
  rw [← eh3] at s1
  have g1 : h3[h.length + 1]? = some (.lst [.int (if 0 = b then mx2 (ax b p) t + 1 else (inc p).1), .int (if 1 = b then mx2 (ax b p) t + 1 else (inc p).2.1), .int (if 2 = b then mx2 (ax b p) t + 1 else (inc p).2.2)]) := by rw [eh3]; exact get_set f1a
  have g0 : h3[h.length]? = some (.lst [.int (if 0 = b then mn2 (ax b p) t else p.1), .int (if 1 = b then mn2 (ax b p) t else p.2.1), .int (if 2 = b then mn2 (ax b p) t else p.2.2)]) := by rw [eh3, List.getElem?_set_ne (by omega), List.getElem?_append_left L2]; exact f0
  have k3 : Kp h.length h h3 := by rw [eh3]; exact (k2.trans (Kp.app _ (Nat.le_refl _)) k2.len).set (by omega)
  have t0 : Lil.blt .tuple [.ref h.length] h3 = .ok (encPt (lnLo p b t)) h3 := by
    rw [blt_tup g0]
    unfold lnLo mk3 encPt
    rcases hb with rfl | rfl | rfl <;> rfl
  have t1 : Lil.blt .tuple [.ref (h.length + 1)] h3 = .ok (encPt (lnHi p b t)) h3 := by
    rw [blt_tup g1]
    unfold lnHi mk3 encPt
    rcases hb with rfl | rfl | rfl <;> rfl
  have m0 := blt_mn2 (get_new h1 (.lst [.int (ax b p), .int t]))
  have m1 := blt_mx2 (get_new h2 (.lst [.int (ax b p), .int t]))
  simp only [To_ok, ok_bind, evs_nil, setAll_cons, setAll_nil, FT_nx, List.set_cons_succ, List.set_cons_zero, FT_step, evS_asg, ev_blt, ev_bin, evs_cons, ev_lst, ev_idx, ev_var, ev_lit, List.getElem?_cons_succ, List.getElem?_cons_zero, ix_ax hb, ofO_some, mkLst, List.length_cons, List.length_nil, LN, Nat.zero_add, Nat.reduceAdd, Nat.reduceLeDiff, if_true, alloc, m0, m1, bop_add, FT_fl, asg_sub, s0, s1, evS_ret, ev_cal, t0, t1, FT_rt]
  exact (hX (lnLo p b t) (lnHi p b t) h3).imp fun v h4 ⟨e, k4⟩ => ⟨e, k3.trans k4 k3.len⟩
end Lil
/-! Fn41: _law_cubes. Own work. -/
set_option linter.all false
set_option Elab.async false
set_option maxRecDepth 100000
set_option maxHeartbeats 4000000
namespace Lil
open Sol
/-- what is found so far -/
def CW (kd : Nat) (c : Int) (h0 : Hd) (U : P3 → Prop) (h : Hd) : Prop := ∃ P : List P3, h[kd]? = some (.dtt (encC P)) ∧ P.Nodup ∧ (∀ p, p ∈ P ↔ U p) ∧ (∀ p ∈ P, inCube c p) ∧ Kp h0.length h0 h
theorem CW.imp {kd : Nat} {c : Int} {h0 h : Hd} {U V : P3 → Prop} (w : CW kd c h0 U h) (e : ∀ p, U p ↔ V p) : CW kd c h0 V h := by
  obtain ⟨P, a, b, d, f, g⟩ := w
  exact ⟨P, a, b, fun p => (d p).trans (e p), f, g⟩
def FILL : S := .fo (.nm 10) (.r2 (.var 2) (.var 3)) (.cons (.fo (.nm 11) (.r2 (.var 5) (.var 6)) (.cons (.fo (.nm 12) (.r2 (.var 8) (.var 9)) (.cons (.asg (.sub (.var 1) (.tup (.cons (.var 12) (.cons (.var 11) (.cons (.var 10) .nil))))) (.lit (.bl true))) .nil)) .nil)) .nil)
theorem fill {F : Nat → List DV → Hd → Res DV} {s0 s4 s7 x10 x11 x12 : Option DV} {kd : Nat} {c : Int} {h0 h : Hd} {U : P3 → Prop} {q : P3 × P3} {N : Sl → Hd → Prop} {R : DV → Hd → Prop} (hk : h0.length ≤ kd) (c0 : -900 < c) (c1 : c < 900) (hq : boxIn c q) (hw : CW kd c h0 U h)
    (hN : ∀ x10 x11 x12 h', CW kd c h0 (fun p => U p ∨ hasB q p) h' → N [s0, some (.ref kd), some (.int q.1.2.2), some (.int q.2.2.2), s4, some (.int q.1.2.1), some (.int q.2.2.1), s7, some (.int q.1.1), some (.int q.2.1), x10, x11, x12] h') :
    FT (evS F FILL [s0, some (.ref kd), some (.int q.1.2.2), some (.int q.2.2.2), s4, some (.int q.1.2.1), some (.int q.2.2.1), s7, some (.int q.1.1), some (.int q.2.1), x10, x11, x12] h) N R := by
  obtain ⟨⟨a1, a2, a3, a4⟩, ⟨a5, a6, a7, a8⟩, a9, a10, a11, a12⟩ := id hq
  simp only [FILL, evS_fo, evi_r2, ev_var, List.getElem?_cons_succ, List.getElem?_cons_zero, ok_bind, FT_fl]
  rw [if_pos ⟨⟨by omega, by omega⟩, by omega, by omega⟩]
  simp only [To_ok, FT_aft, unlk_rng]
  refine loop_rng (fun z s h' => ∃ x10 x11 x12, s = [s0, some (.ref kd), some (.int q.1.2.2), some (.int q.2.2.2), s4, some (.int q.1.2.1), some (.int q.2.2.1), s7, some (.int q.1.1), some (.int q.2.1), x10, x11, x12] ∧ CW kd c h0 (fun p => U p ∨ (hasB q p ∧ p.2.2 < z)) h') (by omega) ⟨_, _, _, rfl, hw.imp fun p => ⟨.inl, fun w => w.elim id fun ⟨g, z⟩ => by have := g.2.2.1; omega⟩⟩ (fun z s h2 l1 l2 hI => ?_) (fun s h2 hI => ?_)
  · obtain ⟨x10, x11, x12, rfl, hw⟩ := hI
    simp only [bind1_nm, List.set_cons_succ, List.set_cons_zero, FT_step, evS_fo, evi_r2, ev_var, List.getElem?_cons_succ, List.getElem?_cons_zero, ok_bind, FT_fl]
    rw [if_pos ⟨⟨by omega, by omega⟩, by omega, by omega⟩]
    simp only [To_ok, FT_aft, unlk_rng]
    refine loop_rng (fun y s h' => ∃ x11 x12, s = [s0, some (.ref kd), some (.int q.1.2.2), some (.int q.2.2.2), s4, some (.int q.1.2.1), some (.int q.2.2.1), s7, some (.int q.1.1), some (.int q.2.1), some (.int z), x11, x12] ∧ CW kd c h0 (fun p => U p ∨ (hasB q p ∧ (p.2.2 < z ∨ (p.2.2 = z ∧ p.2.1 < y)))) h') (by omega) ⟨_, _, rfl, hw.imp fun p => or_congr Iff.rfl (and_congr_right fun g => by have := g.2.1.1; omega)⟩ (fun y s h3 m1 m2 hI => ?_) (fun s h3 hI => ?_)
    · obtain ⟨x11, x12, rfl, hw⟩ := hI
      simp only [bind1_nm, List.set_cons_succ, List.set_cons_zero, FT_step, evS_fo, evi_r2, ev_var, List.getElem?_cons_succ, List.getElem?_cons_zero, ok_bind, FT_fl]
      rw [if_pos ⟨⟨by omega, by omega⟩, by omega, by omega⟩]
      simp only [To_ok, FT_aft, unlk_rng]
      refine loop_rng (fun x s h' => ∃ x12, s = [s0, some (.ref kd), some (.int q.1.2.2), some (.int q.2.2.2), s4, some (.int q.1.2.1), some (.int q.2.2.1), s7, some (.int q.1.1), some (.int q.2.1), some (.int z), some (.int y), x12] ∧ CW kd c h0 (fun p => U p ∨ (hasB q p ∧ (p.2.2 < z ∨ (p.2.2 = z ∧ (p.2.1 < y ∨ (p.2.1 = y ∧ p.1 < x)))))) h') (by omega) ⟨_, rfl, hw.imp fun p => or_congr Iff.rfl (and_congr_right fun g => by have := g.1.1; omega)⟩ (fun x s h4 k1 k2 hI => ?_) (fun s h4 hI => ?_)
      · obtain ⟨x12, rfl, P, f1, f2, f3, f4, f5⟩ := hI
        have pl := cube_len f2 f4
        have st := store_C (p := (x, y, z)) f1 (by simp only [LN]; omega)
        unfold encPt at st
        simp only [bind1_nm, List.set_cons_succ, List.set_cons_zero, FT_step, evS_asg, ev_lit, ok_bind, FT_fl, To_ok, asg_sub, ev_var, ev_tup, evs_cons, evs_nil, List.getElem?_cons_succ, List.getElem?_cons_zero, mkTup, List.length_cons, List.length_nil, Nat.zero_add, Nat.reduceAdd, LN, Nat.reduceLeDiff, if_true, st, FT_nx, FT_nil]
        have nb : hasB q (x, y, z) := ⟨⟨k1, k2⟩, ⟨m1, m2⟩, l1, l2⟩
        refine ⟨_, rfl, addP P (x, y, z), get_set f1, addP_nodup f2, fun p => ?_, fun p hp => ?_, f5.set hk⟩
        · rw [addP_mem, f3]
          constructor
          · rintro (w | rfl)
            · rcases w with w | ⟨w1, w2⟩
              · exact .inl w
              · exact .inr ⟨w1, by omega⟩
            · exact .inr ⟨nb, .inr ⟨rfl, .inr ⟨rfl, by show x < x + 1; omega⟩⟩⟩
          · rintro (w | ⟨w1, w2⟩)
            · exact .inl (.inl w)
            · by_cases w : p = (x, y, z)
              · exact .inr w
              · refine .inl (.inr ⟨w1, ?_⟩)
                have : ¬ (p.1 = x ∧ p.2.1 = y ∧ p.2.2 = z) := fun ⟨u1, u2, u3⟩ => w (Prod.ext u1 (Prod.ext u2 u3))
                omega
        · rcases addP_mem.mp hp with hp | rfl
          · exact f4 p hp
          · exact boxIn_cube hq nb
      · obtain ⟨x12, rfl, hw⟩ := hI
        simp only [FT_nil]
        refine ⟨_, _, rfl, hw.imp fun p => or_congr Iff.rfl (and_congr_right fun g => ?_)⟩
        have g1 := g.1
        split <;> omega
    · obtain ⟨x11, x12, rfl, hw⟩ := hI
      simp only [FT_nil]
      refine ⟨_, _, _, rfl, hw.imp fun p => or_congr Iff.rfl (and_congr_right fun g => ?_)⟩
      have g1 := g.2.1
      split <;> omega
  · obtain ⟨x10, x11, x12, rfl, hw⟩ := hI
    refine hN _ _ _ _ (hw.imp fun p => or_congr Iff.rfl ⟨fun g => g.1, fun g => ⟨g, ?_⟩⟩)
    have g1 := g.2.2
    split <;> omega
def CubesOk (f : List DV → Hd → Res DV) : Prop := ∀ (S : Solid) (c : Int) (h : Hd), okSolid S → bd3 (Rg c) S → -900 < c → c < 900 →
  To (f [encSol S] h) fun v h' => ∃ (k : Nat) (P : List P3), v = .ref k ∧ h.length ≤ k ∧ h'[k]? = some (.dtt (encC P)) ∧ P.Nodup ∧ (∀ p, p ∈ P ↔ hasS S p) ∧ Kp h.length h h'
theorem cubes_fn {F : Nat → List DV → Hd → Res DV} : CubesOk (runF F D__law_cubes) := by
  intro S c h o b c0 c1
  have fw := few_of o b
  obtain ⟨hS, hS2⟩ := id fw
  have bi := rg_box o b
  refine runF_to rfl ?_
  simp only [B__law_cubes]
  rw [show (Lil.S.fo (.nm 10) (.r2 (.var 2) (.var 3)) (.cons (.fo (.nm 11) (.r2 (.var 5) (.var 6)) (.cons (.fo (.nm 12) (.r2 (.var 8) (.var 9)) (.cons (.asg (.sub (.var 1) (.tup (.cons (.var 12) (.cons (.var 11) (.cons (.var 10) .nil))))) (.lit (.bl true))) .nil)) .nil)) .nil)) = FILL from rfl]
  simp only [encSol, encS]
  simp only [List.map_cons, List.map_nil, List.cons_append, List.nil_append, List.replicate, Nat.reduceSub, FT_step, evS_asg, ev_dnt, alloc, ok_bind, FT_fl, To_ok, asg_nm, FT_nx, List.set_cons_succ, List.set_cons_zero, evS_fo, evi_sq, ev_var, List.getElem?_cons_zero, FT_aft, unlk_tup]
  refine loopF_rule (S.map (encSg encLay)) (fun i s h' => ∃ x2 x3 x4 x5 x6 x7 x8 x9 x10 x11 x12, s = [some (.tup (S.map (encSg encLay))), some (.ref h.length), x2, x3, x4, x5, x6, x7, x8, x9, x10, x11, x12] ∧ CW h.length c h (fun p => ∃ q ∈ boxesOf (S.take i), hasB q p) h') (fun i s h' _ _ => rfl) (fun i d s h' hd hI => ?_) (fun s h' hI => ?_) _ _ _ _ (Nat.zero_le _) (by rw [List.length_map]; simp only [FUEL]; omega) ⟨none, none, none, none, none, none, none, none, none, none, none, rfl, [], get_new _ _, List.nodup_nil, fun p => by simp [boxesOf], fun _ h => (nomatch h), Kp.app _ (Nat.le_refl _)⟩
  · obtain ⟨x2, x3, x4, x5, x6, x7, x8, x9, x10, x11, x12, rfl, hw⟩ := hI
    rw [List.getElem?_map] at hd
    obtain ⟨t, ht, rfl⟩ := Option.map_eq_some_iff.mp hd
    have tm := List.mem_of_getElem? ht
    have gt := hS2 t tm
    simp only [encSg, bind1_tp, bindAll_cons, bindAll_nil, bind1_nm, List.set_cons_succ, List.set_cons_zero, FT_step, evS_fo, evi_sq, ev_var, List.getElem?_cons_succ, List.getElem?_cons_zero, ok_bind, encLay, encS, FT_fl, To_ok, FT_aft, unlk_tup]
    refine loopF_rule (t.2.2.map (encSg encRow)) (fun j s h' => ∃ x5 x6 x7 x8 x9 x10 x11 x12, s = [some (.tup (S.map (encSg encLay))), some (.ref h.length), some (.int t.1), some (.int t.2.1), some (.tup (t.2.2.map (encSg encRow))), x5, x6, x7, x8, x9, x10, x11, x12] ∧ CW h.length c h (fun p => (∃ q ∈ boxesOf (S.take i), hasB q p) ∨ ∃ q ∈ (t.2.2.take j).flatMap (bxU t), hasB q p) h') (fun i s h' _ _ => rfl) (fun j d s h2 hd hI => ?_) (fun s h2 hI => ?_) _ _ _ _ (Nat.zero_le _) (by rw [List.length_map]; have := gt.1; simp only [FUEL]; omega) ⟨_, _, _, _, _, _, _, _, rfl, hw.imp fun p => by simp⟩
    · obtain ⟨x5, x6, x7, x8, x9, x10, x11, x12, rfl, hw⟩ := hI
      rw [List.getElem?_map] at hd
      obtain ⟨u, hu, rfl⟩ := Option.map_eq_some_iff.mp hd
      have um := List.mem_of_getElem? hu
      have gu := gt.2 u um
      simp only [encSg, bind1_tp, bindAll_cons, bindAll_nil, bind1_nm, List.set_cons_succ, List.set_cons_zero, FT_step, evS_fo, evi_sq, ev_var, List.getElem?_cons_succ, List.getElem?_cons_zero, ok_bind, encRow, FT_fl, To_ok, FT_aft, unlk_tup]
      refine loopF_rule (u.2.2.map encP) (fun k s h' => ∃ x8 x9 x10 x11 x12, s = [some (.tup (S.map (encSg encLay))), some (.ref h.length), some (.int t.1), some (.int t.2.1), some (.tup (t.2.2.map (encSg encRow))), some (.int u.1), some (.int u.2.1), some (.tup (u.2.2.map encP)), x8, x9, x10, x11, x12] ∧ CW h.length c h (fun p => ((∃ q ∈ boxesOf (S.take i), hasB q p) ∨ ∃ q ∈ (t.2.2.take j).flatMap (bxU t), hasB q p) ∨ ∃ q ∈ (u.2.2.take k).map (fun r => (((r.1, u.1, t.1), (r.2, u.2.1, t.2.1)) : P3 × P3)), hasB q p) h') (fun i s h' _ _ => rfl) (fun k d s h3 hd hI => ?_) (fun s h3 hI => ?_) _ _ _ _ (Nat.zero_le _) (by rw [List.length_map]; simp only [FUEL]; omega) ⟨_, _, _, _, _, rfl, hw.imp fun p => by simp⟩
      · obtain ⟨x8, x9, x10, x11, x12, rfl, hw⟩ := hI
        rw [List.getElem?_map] at hd
        obtain ⟨r, hr, rfl⟩ := Option.map_eq_some_iff.mp hd
        have rm := List.mem_of_getElem? hr
        have hq : (((r.1, u.1, t.1), (r.2, u.2.1, t.2.1)) : P3 × P3) ∈ boxesOf S := mem_boxes.mpr ⟨t, tm, u, um, r, rm, rfl⟩
        simp only [encP, bind1_tp, bindAll_cons, bindAll_nil, bind1_nm, List.set_cons_succ, List.set_cons_zero, FT_step]
        refine fill (q := ((r.1, u.1, t.1), (r.2, u.2.1, t.2.1))) (Nat.le_refl _) c0 c1 (bi _ hq) hw fun x10 x11 x12 h4 hw => ?_
        simp only [FT_nil]
        refine ⟨_, _, _, _, _, rfl, hw.imp fun p => ?_⟩
        rw [List.take_add_one, hr, or_assoc]
        refine or_congr Iff.rfl ?_
        simp only [List.map_append, List.mem_append, Option.toList_some, List.map_cons, List.map_nil, List.mem_singleton]
        constructor
        · rintro (⟨q, h1, h2⟩ | h2)
          · exact ⟨q, .inl h1, h2⟩
          · exact ⟨_, .inr rfl, h2⟩
        · rintro ⟨q, h1 | rfl, h2⟩
          · exact .inl ⟨q, h1, h2⟩
          · exact .inr h2
      · obtain ⟨x8, x9, x10, x11, x12, rfl, hw⟩ := hI
        rw [List.length_map, List.take_length] at hw
        simp only [FT_nil]
        refine ⟨_, _, _, _, _, _, _, _, rfl, hw.imp fun p => ?_⟩
        rw [List.take_add_one, hu, or_assoc]
        refine or_congr Iff.rfl ?_
        simp only [List.flatMap_append, List.mem_append, Option.toList_some, List.flatMap_cons, List.flatMap_nil, List.append_nil]
        constructor
        · rintro (⟨q, h1, h2⟩ | ⟨q, h1, h2⟩)
          · exact ⟨q, .inl h1, h2⟩
          · exact ⟨q, .inr h1, h2⟩
        · rintro ⟨q, h1 | h1, h2⟩
          · exact .inl ⟨q, h1, h2⟩
          · exact .inr ⟨q, h1, h2⟩
    · obtain ⟨x5, x6, x7, x8, x9, x10, x11, x12, rfl, hw⟩ := hI
      rw [List.length_map, List.take_length] at hw
      simp only [FT_nil]
      refine ⟨_, _, _, _, _, _, _, _, _, _, _, rfl, hw.imp fun p => ?_⟩
      have bT : boxesOf (S.take (i + 1)) = boxesOf (S.take i) ++ t.2.2.flatMap (bxU t) := by
        unfold boxesOf
        rw [List.take_add_one, ht, List.flatMap_append]
        simp [bxT]
      rw [bT]
      constructor
      · rintro (⟨q, h1, h2⟩ | ⟨q, h1, h2⟩)
        · exact ⟨q, List.mem_append_left _ h1, h2⟩
        · exact ⟨q, List.mem_append_right _ h1, h2⟩
      · rintro ⟨q, h1, h2⟩
        rcases List.mem_append.mp h1 with h1 | h1
        · exact .inl ⟨q, h1, h2⟩
        · exact .inr ⟨q, h1, h2⟩
  · obtain ⟨x2, x3, x4, x5, x6, x7, x8, x9, x10, x11, x12, rfl, P, f1, f2, f3, f4, f5⟩ := hI
    rw [List.length_map, List.take_length] at f3
    simp only [FT_step, evS_ret, ev_var, List.getElem?_cons_succ, List.getElem?_cons_zero, FT_fl, To_ok, FT_rt, FT_nil]
    exact ⟨h.length, P, rfl, Nat.le_refl _, f1, f2, fun p => (f3 p).trans (hasS_iff o).symm, f5⟩
end Lil
/-! Fn42: _law_tool. Written by Fn42.py. Own work. -/
set_option linter.all false
set_option Elab.async false
set_option maxRecDepth 100000
set_option maxHeartbeats 4000000
namespace Lil
open Sol
def R3 (x : Int) : Prop := -1 ≤ x ∧ x ≤ 3
theorem R3.rg {x : Int} (h : R3 x) : Rg (-30) x := ⟨by have := h.1; omega, by have := h.2; omega⟩
def ToolOk (f : List DV → Hd → Res DV) : Prop := ∀ (m : Nat) (nm : List Nat) (h : Hd), Dw m h →
  To (f [.ref m, .str nm] h) fun v h' => ∃ (C : Solid) (hd : DV) (r : Int), v = .tup [.str nm, encSol C, hd, .int r] ∧ okSolid C ∧ bd3 R3 C ∧ Kd m h.length h h'
theorem tool_fn {F : Nat → List DV → Hd → Res DV} {iU iX iN : Nat} (hU : SolOk .either (F iU)) (hX : BoxOk (F iX)) (hN : NextOk (F iN)) : ToolOk (runF F (D__law_tool iU iX iN)) := by
  intro m nm h dw
  refine runF_to rfl ?_
  simp only [B__law_tool]
  simp only [List.map_cons, List.map_nil, List.cons_append, List.nil_append, List.replicate, Nat.reduceSub]
  try simp only [To_ok, FT_nx, List.set_cons_succ, List.set_cons_zero, FT_step, FT_nil, evS_asg, evS_ift, evS_ret, evS_exp, evS_par, ev_or, ev_and, ev_nt, ev_neg, ev_bin, ev_ife, ev_cmp, ev_cal, evs_cons, evs_nil, ev_lit, ev_var, ev_tup, List.getElem?_cons_zero, List.getElem?_cons_succ, ok_bind, FT_fl, FT_rt, asg_nm, setAll_nil, setAll_cons, To_bind, litB_some, truR_bl, ofO_some, bop_add, bop_sub, cop_eqi, cop_gt, mkTup, List.length_cons, List.length_nil, LN, Nat.zero_add, Nat.reduceAdd, Nat.reduceLeDiff, Nat.zero_le, if_true, Bool.false_eq_true, if_false]
  refine (hN m 2 h dw (by decide)).imp fun v h1 ⟨⟨l1, k1⟩, w, e, w0, w1⟩ => ?_
  subst e
  try simp only [To_ok, FT_nx, List.set_cons_succ, List.set_cons_zero, FT_step, FT_nil, evS_asg, evS_ift, evS_ret, evS_exp, evS_par, ev_or, ev_and, ev_nt, ev_neg, ev_bin, ev_ife, ev_cmp, ev_cal, evs_cons, evs_nil, ev_lit, ev_var, ev_tup, List.getElem?_cons_zero, List.getElem?_cons_succ, ok_bind, FT_fl, FT_rt, asg_nm, setAll_nil, setAll_cons, To_bind, litB_some, truR_bl, ofO_some, bop_add, bop_sub, cop_eqi, cop_gt, mkTup, List.length_cons, List.length_nil, LN, Nat.zero_add, Nat.reduceAdd, Nat.reduceLeDiff, Nat.zero_le, if_true, Bool.false_eq_true, if_false]
  refine (hN m 2 h1 k1.dw (by decide)).imp fun v h2 ⟨⟨l2, k2⟩, d, e, d0, d1⟩ => ?_
  subst e
  try simp only [To_ok, FT_nx, List.set_cons_succ, List.set_cons_zero, FT_step, FT_nil, evS_asg, evS_ift, evS_ret, evS_exp, evS_par, ev_or, ev_and, ev_nt, ev_neg, ev_bin, ev_ife, ev_cmp, ev_cal, evs_cons, evs_nil, ev_lit, ev_var, ev_tup, List.getElem?_cons_zero, List.getElem?_cons_succ, ok_bind, FT_fl, FT_rt, asg_nm, setAll_nil, setAll_cons, To_bind, litB_some, truR_bl, ofO_some, bop_add, bop_sub, cop_eqi, cop_gt, mkTup, List.length_cons, List.length_nil, LN, Nat.zero_add, Nat.reduceAdd, Nat.reduceLeDiff, Nat.zero_le, if_true, Bool.false_eq_true, if_false]
  refine (hN m 2 h2 k2.dw (by decide)).imp fun v h3 ⟨⟨l3, k3⟩, u, e, u0, u1⟩ => ?_
  subst e
  have k13 := ((k1.trans k2 (by omega)).trans k3 (by omega))
  clear k1 k2
  try simp only [To_ok, FT_nx, List.set_cons_succ, List.set_cons_zero, FT_step, FT_nil, evS_asg, evS_ift, evS_ret, evS_exp, evS_par, ev_or, ev_and, ev_nt, ev_neg, ev_bin, ev_ife, ev_cmp, ev_cal, evs_cons, evs_nil, ev_lit, ev_var, ev_tup, List.getElem?_cons_zero, List.getElem?_cons_succ, ok_bind, FT_fl, FT_rt, asg_nm, setAll_nil, setAll_cons, To_bind, litB_some, truR_bl, ofO_some, bop_add, bop_sub, cop_eqi, cop_gt, mkTup, List.length_cons, List.length_nil, LN, Nat.zero_add, Nat.reduceAdd, Nat.reduceLeDiff, Nat.zero_le, if_true, Bool.false_eq_true, if_false]
  refine (hX (0, 0, 0) (1 + w, 1 + u, 1 + d) h3).imp fun v h4 ⟨e, k4⟩ => ?_
  subst e
  have m4 : m < h3.length := k3.dw.lt
  have k14 : Kd m h.length h h4 := k13.trans (Kd.kp k4 k3.dw m4) (by omega)
  have lh4 := k4.len
  clear k13 k3 k4
  try simp only [To_ok, FT_nx, List.set_cons_succ, List.set_cons_zero, FT_step, FT_nil, evS_asg, evS_ift, evS_ret, evS_exp, evS_par, ev_or, ev_and, ev_nt, ev_neg, ev_bin, ev_ife, ev_cmp, ev_cal, evs_cons, evs_nil, ev_lit, ev_var, ev_tup, List.getElem?_cons_zero, List.getElem?_cons_succ, ok_bind, FT_fl, FT_rt, asg_nm, setAll_nil, setAll_cons, To_bind, litB_some, truR_bl, ofO_some, bop_add, bop_sub, cop_eqi, cop_gt, mkTup, List.length_cons, List.length_nil, LN, Nat.zero_add, Nat.reduceAdd, Nat.reduceLeDiff, Nat.zero_le, if_true, Bool.false_eq_true, if_false]
  refine (hN m 4 h4 k14.dw (by decide)).imp fun v h5 ⟨⟨l5, k5⟩, c, e, c0, c1⟩ => ?_
  subst e
  have k15 : Kd m h.length h h5 := k14.trans k5 (by omega)
  clear k14 k5
  have o1 := box_ok (0, 0, 0) (1 + w, 1 + u, 1 + d)
  have b1 : bd3 R3 (boxS (0, 0, 0) (1 + w, 1 + u, 1 + d)) := box_bd ⟨⟨by decide, by decide⟩, ⟨by decide, by decide⟩, by decide, by decide⟩ ⟨⟨by dsimp only; omega, by dsimp only; omega⟩, ⟨by dsimp only; omega, by dsimp only; omega⟩, by dsimp only; omega, by dsimp only; omega⟩
  -- what comes behind the cutter
  have tail : ∀ (C : Solid) (h6 : Hd), okSolid C → bd3 R3 C → Kd m h.length h h6 → h.length ≤ h6.length →
      FT (evB F (.cons (.par [5, 6] (.cons (.tup (.cons (.neg (.cal iN (.cons (.var 0) (.cons (.lit (.int (2))) .nil)))) (.cons (.neg (.cal iN (.cons (.var 0) (.cons (.lit (.int (2))) .nil)))) (.cons (.var 3) .nil)))) (.cons (.tup (.cons (.bin .add (.var 2) (.cal iN (.cons (.var 0) (.cons (.lit (.int (2))) .nil)))) (.cons (.bin .add (.lit (.int (2))) (.cal iN (.cons (.var 0) (.cons (.lit (.int (2))) .nil)))) (.cons (.bin .add (.var 3) (.lit (.int (2)))) .nil)))) .nil))) (.cons (.ret (.tup (.cons (.var 1) (.cons (.var 4) (.cons (.ife (.cmp .gt (.cal iN (.cons (.var 0) (.cons (.lit (.int (3))) .nil))) (.lit (.int (0)))) (.cal iX (.cons (.var 5) (.cons (.var 6) .nil))) (.tup .nil)) (.cons (.bin .add (.lit (.int (1))) (.cal iN (.cons (.var 0) (.cons (.lit (.int (5))) .nil)))) .nil)))))) .nil))
        [some (.ref m), some (.str nm), some (.int (1 + w)), some (.int (1 + d)), some (encSol C), none, none] h6) (fun _ h' => False) (fun v h' => ∃ (C : Solid) (hd : DV) (r : Int), v = .tup [.str nm, encSol C, hd, .int r] ∧ okSolid C ∧ bd3 R3 C ∧ Kd m h.length h h') := fun C h6 oC bC k6 l6 => by
    try simp only [To_ok, FT_nx, List.set_cons_succ, List.set_cons_zero, FT_step, FT_nil, evS_asg, evS_ift, evS_ret, evS_exp, evS_par, ev_or, ev_and, ev_nt, ev_neg, ev_bin, ev_ife, ev_cmp, ev_cal, evs_cons, evs_nil, ev_lit, ev_var, ev_tup, List.getElem?_cons_zero, List.getElem?_cons_succ, ok_bind, FT_fl, FT_rt, asg_nm, setAll_nil, setAll_cons, To_bind, litB_some, truR_bl, ofO_some, bop_add, bop_sub, cop_eqi, cop_gt, mkTup, List.length_cons, List.length_nil, LN, Nat.zero_add, Nat.reduceAdd, Nat.reduceLeDiff, Nat.zero_le, if_true, Bool.false_eq_true, if_false]
    refine (hN m 2 h6 k6.dw (by decide)).imp fun v h7 ⟨⟨l7, k7⟩, a, e, a0, a1⟩ => ?_
    subst e
    try simp only [To_ok, FT_nx, List.set_cons_succ, List.set_cons_zero, FT_step, FT_nil, evS_asg, evS_ift, evS_ret, evS_exp, evS_par, ev_or, ev_and, ev_nt, ev_neg, ev_bin, ev_ife, ev_cmp, ev_cal, evs_cons, evs_nil, ev_lit, ev_var, ev_tup, List.getElem?_cons_zero, List.getElem?_cons_succ, ok_bind, FT_fl, FT_rt, asg_nm, setAll_nil, setAll_cons, To_bind, litB_some, truR_bl, ofO_some, bop_add, bop_sub, cop_eqi, cop_gt, mkTup, List.length_cons, List.length_nil, LN, Nat.zero_add, Nat.reduceAdd, Nat.reduceLeDiff, Nat.zero_le, if_true, Bool.false_eq_true, if_false]
    refine (hN m 2 h7 k7.dw (by decide)).imp fun v h8 ⟨⟨l8, k8⟩, b, e, b0, b1⟩ => ?_
    subst e
    try simp only [To_ok, FT_nx, List.set_cons_succ, List.set_cons_zero, FT_step, FT_nil, evS_asg, evS_ift, evS_ret, evS_exp, evS_par, ev_or, ev_and, ev_nt, ev_neg, ev_bin, ev_ife, ev_cmp, ev_cal, evs_cons, evs_nil, ev_lit, ev_var, ev_tup, List.getElem?_cons_zero, List.getElem?_cons_succ, ok_bind, FT_fl, FT_rt, asg_nm, setAll_nil, setAll_cons, To_bind, litB_some, truR_bl, ofO_some, bop_add, bop_sub, cop_eqi, cop_gt, mkTup, List.length_cons, List.length_nil, LN, Nat.zero_add, Nat.reduceAdd, Nat.reduceLeDiff, Nat.zero_le, if_true, Bool.false_eq_true, if_false]
    refine (hN m 2 h8 k8.dw (by decide)).imp fun v h9 ⟨⟨l9, k9⟩, c, e, c0, c1⟩ => ?_
    subst e
    try simp only [To_ok, FT_nx, List.set_cons_succ, List.set_cons_zero, FT_step, FT_nil, evS_asg, evS_ift, evS_ret, evS_exp, evS_par, ev_or, ev_and, ev_nt, ev_neg, ev_bin, ev_ife, ev_cmp, ev_cal, evs_cons, evs_nil, ev_lit, ev_var, ev_tup, List.getElem?_cons_zero, List.getElem?_cons_succ, ok_bind, FT_fl, FT_rt, asg_nm, setAll_nil, setAll_cons, To_bind, litB_some, truR_bl, ofO_some, bop_add, bop_sub, cop_eqi, cop_gt, mkTup, List.length_cons, List.length_nil, LN, Nat.zero_add, Nat.reduceAdd, Nat.reduceLeDiff, Nat.zero_le, if_true, Bool.false_eq_true, if_false]
    refine (hN m 2 h9 k9.dw (by decide)).imp fun v h10 ⟨⟨l10, k10⟩, g, e, g0, g1⟩ => ?_
    subst e
    try simp only [To_ok, FT_nx, List.set_cons_succ, List.set_cons_zero, FT_step, FT_nil, evS_asg, evS_ift, evS_ret, evS_exp, evS_par, ev_or, ev_and, ev_nt, ev_neg, ev_bin, ev_ife, ev_cmp, ev_cal, evs_cons, evs_nil, ev_lit, ev_var, ev_tup, List.getElem?_cons_zero, List.getElem?_cons_succ, ok_bind, FT_fl, FT_rt, asg_nm, setAll_nil, setAll_cons, To_bind, litB_some, truR_bl, ofO_some, bop_add, bop_sub, cop_eqi, cop_gt, mkTup, List.length_cons, List.length_nil, LN, Nat.zero_add, Nat.reduceAdd, Nat.reduceLeDiff, Nat.zero_le, if_true, Bool.false_eq_true, if_false]
    refine (hN m 3 h10 k10.dw (by decide)).imp fun v h11 ⟨⟨l11, k11⟩, t, e, t0, t1⟩ => ?_
    subst e
    have k610 : Kd m h.length h h11 := ((((k6.trans k7 (by omega)).trans k8 (by omega)).trans k9 (by omega)).trans k10 (by omega)).trans k11 (by omega)
    clear k6 k7 k8 k9 k10 k11
    by_cases z : 0 < t
    · simp only [To_ok, FT_nx, List.set_cons_succ, List.set_cons_zero, FT_step, FT_nil, evS_asg, evS_ift, evS_ret, evS_exp, evS_par, ev_or, ev_and, ev_nt, ev_neg, ev_bin, ev_ife, ev_cmp, ev_cal, evs_cons, evs_nil, ev_lit, ev_var, ev_tup, List.getElem?_cons_zero, List.getElem?_cons_succ, ok_bind, FT_fl, FT_rt, asg_nm, setAll_nil, setAll_cons, To_bind, litB_some, truR_bl, ofO_some, bop_add, bop_sub, cop_eqi, cop_gt, mkTup, List.length_cons, List.length_nil, LN, Nat.zero_add, Nat.reduceAdd, Nat.reduceLeDiff, Nat.zero_le, if_true, Bool.false_eq_true, if_false, z, decide_true]
      refine (hX (-a, -b, 1 + d) (1 + w + c, 2 + g, 1 + d + 2) h11).imp fun v h12 ⟨e, k12⟩ => ?_
      subst e
      have k612 : Kd m h.length h h12 := k610.trans (Kd.kp k12 k610.dw k610.dw.lt) (by omega)
      have := k12.len
      try simp only [To_ok, FT_nx, List.set_cons_succ, List.set_cons_zero, FT_step, FT_nil, evS_asg, evS_ift, evS_ret, evS_exp, evS_par, ev_or, ev_and, ev_nt, ev_neg, ev_bin, ev_ife, ev_cmp, ev_cal, evs_cons, evs_nil, ev_lit, ev_var, ev_tup, List.getElem?_cons_zero, List.getElem?_cons_succ, ok_bind, FT_fl, FT_rt, asg_nm, setAll_nil, setAll_cons, To_bind, litB_some, truR_bl, ofO_some, bop_add, bop_sub, cop_eqi, cop_gt, mkTup, List.length_cons, List.length_nil, LN, Nat.zero_add, Nat.reduceAdd, Nat.reduceLeDiff, Nat.zero_le, if_true, Bool.false_eq_true, if_false]
      refine (hN m 5 h12 k612.dw (by decide)).imp fun v h13 ⟨⟨l13, k13⟩, r, e, r0, r1⟩ => ?_
      subst e
      simp only [To_ok, FT_nx, List.set_cons_succ, List.set_cons_zero, FT_step, FT_nil, evS_asg, evS_ift, evS_ret, evS_exp, evS_par, ev_or, ev_and, ev_nt, ev_neg, ev_bin, ev_ife, ev_cmp, ev_cal, evs_cons, evs_nil, ev_lit, ev_var, ev_tup, List.getElem?_cons_zero, List.getElem?_cons_succ, ok_bind, FT_fl, FT_rt, asg_nm, setAll_nil, setAll_cons, To_bind, litB_some, truR_bl, ofO_some, bop_add, bop_sub, cop_eqi, cop_gt, mkTup, List.length_cons, List.length_nil, LN, Nat.zero_add, Nat.reduceAdd, Nat.reduceLeDiff, Nat.zero_le, if_true, Bool.false_eq_true, if_false]
      exact ⟨C, _, _, rfl, oC, bC, k612.trans k13 (by omega)⟩
    · try simp only [To_ok, FT_nx, List.set_cons_succ, List.set_cons_zero, FT_step, FT_nil, evS_asg, evS_ift, evS_ret, evS_exp, evS_par, ev_or, ev_and, ev_nt, ev_neg, ev_bin, ev_ife, ev_cmp, ev_cal, evs_cons, evs_nil, ev_lit, ev_var, ev_tup, List.getElem?_cons_zero, List.getElem?_cons_succ, ok_bind, FT_fl, FT_rt, asg_nm, setAll_nil, setAll_cons, To_bind, litB_some, truR_bl, ofO_some, bop_add, bop_sub, cop_eqi, cop_gt, mkTup, List.length_cons, List.length_nil, LN, Nat.zero_add, Nat.reduceAdd, Nat.reduceLeDiff, Nat.zero_le, if_true, Bool.false_eq_true, if_false, z, decide_false]
      refine (hN m 5 h11 k610.dw (by decide)).imp fun v h13 ⟨⟨l13, k13⟩, r, e, r0, r1⟩ => ?_
      subst e
      simp only [To_ok, FT_nx, List.set_cons_succ, List.set_cons_zero, FT_step, FT_nil, evS_asg, evS_ift, evS_ret, evS_exp, evS_par, ev_or, ev_and, ev_nt, ev_neg, ev_bin, ev_ife, ev_cmp, ev_cal, evs_cons, evs_nil, ev_lit, ev_var, ev_tup, List.getElem?_cons_zero, List.getElem?_cons_succ, ok_bind, FT_fl, FT_rt, asg_nm, setAll_nil, setAll_cons, To_bind, litB_some, truR_bl, ofO_some, bop_add, bop_sub, cop_eqi, cop_gt, mkTup, List.length_cons, List.length_nil, LN, Nat.zero_add, Nat.reduceAdd, Nat.reduceLeDiff, Nat.zero_le, if_true, Bool.false_eq_true, if_false]
      exact ⟨C, _, _, rfl, oC, bC, k610.trans k13 (by omega)⟩
  have wk : ∀ {r : Fl}, FT r (fun _ h' => False) (fun v h' => ∃ (C : Solid) (hd : DV) (r : Int), v = .tup [.str nm, encSol C, hd, .int r] ∧ okSolid C ∧ bd3 R3 C ∧ Kd m h.length h h') → FT r (fun _ h' => ∃ (C : Solid) (hd : DV) (r : Int), DV.non = .tup [.str nm, encSol C, hd, .int r] ∧ okSolid C ∧ bd3 R3 C ∧ Kd m h.length h h') (fun v h' => ∃ (C : Solid) (hd : DV) (r : Int), v = .tup [.str nm, encSol C, hd, .int r] ∧ okSolid C ∧ bd3 R3 C ∧ Kd m h.length h h') := fun q => q.imp (fun _ _ z => z.elim) fun _ _ z => z
  by_cases z : c = 0
  · subst z
    simp only [cop_eqi, litB_some, decide_true, truR_bl, ok_bind, To_ok, if_true, FT_step, evS_asg, ev_cal, evs_cons, evs_nil, ev_var, ev_tup, ev_neg, ev_lit, ev_bin, bop_add, mkTup, List.length_cons, List.length_nil, LN, Nat.zero_add, Nat.reduceAdd, Nat.reduceLeDiff, List.getElem?_cons_zero, List.getElem?_cons_succ, FT_fl, To_bind]
    refine (hX (-1, 0, 0) (1 + w + 1, 1, 1) h5).imp fun v h6 ⟨e, k6⟩ => ?_
    subst e
    have k16 : Kd m h.length h h6 := k15.trans (Kd.kp k6 k15.dw k15.dw.lt) (by omega)
    have lh6 := k6.len
    have o2 := box_ok (-1, 0, 0) (1 + w + 1, 1, 1)
    have b2 : bd3 R3 (boxS (-1, 0, 0) (1 + w + 1, 1, 1)) := box_bd ⟨⟨by decide, by decide⟩, ⟨by decide, by decide⟩, by decide, by decide⟩ ⟨⟨by dsimp only; omega, by dsimp only; omega⟩, ⟨by dsimp only; omega, by dsimp only; omega⟩, by dsimp only; omega, by dsimp only; omega⟩
    try simp only [To_ok, ok_bind]
    refine (hU _ _ (-30) h6 o1 o2 (bd3_imp (fun _ h => h.rg) b1) (bd3_imp (fun _ h => h.rg) b2)).imp fun v h7 ⟨e, k7⟩ => ?_
    subst e
    have k17 : Kd m h.length h h7 := k16.trans (Kd.kp k7 k16.dw k16.dw.lt) (by omega)
    have lh7 := k7.len
    simp only [To_ok, ok_bind, asg_nm, FT_nx, List.set_cons_succ, List.set_cons_zero, FT_nil]
    exact wk (tail _ h7 (solid_ok (w := .either) o1 o2).1 (solid_bd b1 b2) k17 (by omega))
  · simp only [cop_eqi, z, decide_false, litB_some, truR_bl, ok_bind, To_ok, Bool.false_eq_true, if_false, FT_nil]
    exact wk (tail _ h5 o1 b1 k15 (by omega))
end Lil
/-! Fn43: sorted points; lines. Own work. -/
set_option linter.all false
set_option Elab.async false
set_option maxRecDepth 100000
set_option maxHeartbeats 4000000
namespace Lil
open Sol
open PySem (PyData)
def pP (p : P3) : PyData := .tuple [.int p.1, .int p.2.1, .int p.2.2]
theorem toD_pt (h : Hd) (n : Nat) (p : P3) : toD h (n + 2) (encPt p) = pP p := rfl
def leP (p q : P3) : Bool := PySem.W.dataLe false pP p q
theorem leP_eq (s t : P3) : leP s t = !PySem.W.dataLt (pP t) (pP s) := rfl
theorem leP_trans (a b c : P3) (h1 : leP a b = true) (h2 : leP b c = true) : leP a c = true := by
  rw [leP_eq, Bool.not_eq_true'] at *
  unfold PySem.W.dataLt at *
  cases h3 : PyProof.Rows.lexLt PyProof.Rows.itemOrd (PySem.W.keyToks (pP c)) (PySem.W.keyToks (pP a)) with
  | false => rfl
  | true =>
    exfalso
    cases h4 : PyProof.Rows.lexLt PyProof.Rows.itemOrd (PySem.W.keyToks (pP a)) (PySem.W.keyToks (pP b)) with
    | false =>
      have := PyProof.Rows.lex_total _ _ h4 h1
      rw [this] at h3
      rw [h3] at h2
      cases h2
    | true =>
      have := PyProof.Rows.lex_trans _ _ _ h3 h4
      rw [this] at h2
      cases h2
theorem leP_total (a b : P3) : (leP a b || leP b a) = true := by
  rw [leP_eq, leP_eq, Bool.or_eq_true, Bool.not_eq_true', Bool.not_eq_true']
  unfold PySem.W.dataLt
  cases h3 : PyProof.Rows.lexLt PyProof.Rows.itemOrd (PySem.W.keyToks (pP b)) (PySem.W.keyToks (pP a)) with
  | false => exact .inl rfl
  | true =>
    cases h4 : PyProof.Rows.lexLt PyProof.Rows.itemOrd (PySem.W.keyToks (pP a)) (PySem.W.keyToks (pP b)) with
    | false => exact .inr rfl
    | true =>
      have := PyProof.Rows.lex_trans _ _ _ h3 h4
      rw [PyProof.Rows.lex_irrefl] at this
      cases this
theorem leP_anti (a b : P3) (h1 : leP a b = true) (h2 : leP b a = true) : a = b := by
  rw [leP_eq, Bool.not_eq_true'] at *
  unfold PySem.W.dataLt at *
  have e := PyProof.Rows.lex_total _ _ h2 h1
  simp [pP, PySem.W.keyToks, PySem.W.keyToksAll] at e
  exact Prod.ext e.1 (Prod.ext e.2.1 e.2.2)
def srtP (l : List P3) : List P3 := l.mergeSort leP
theorem srtP_same {l m : List P3} (hl : l.Nodup) (hm : m.Nodup) (h : ∀ p, p ∈ l ↔ p ∈ m) : srtP l = srtP m := by
  have pm : l.Perm m := (List.perm_ext_iff_of_nodup hl hm).mpr h
  have p1 : (srtP l).Perm (srtP m) := ((List.mergeSort_perm l leP).trans pm).trans (List.mergeSort_perm m leP).symm
  have s1 := List.pairwise_mergeSort leP_trans leP_total l
  have s2 := List.pairwise_mergeSort leP_trans leP_total m
  exact List.Perm.eq_of_pairwise (fun a b _ _ h1 h2 => leP_anti a b h1 h2) s1 s2 p1
theorem srtD_pt (h : Hd) (l : List P3) : srtD h (l.map encPt) = (srtP l).map encPt := by
  unfold srtD srtP
  symm
  refine List.map_mergeSort fun a _ b _ => ?_
  rfl
/-- sorted(dict) -/
theorem blt_srtC {h : Hd} {n : Nat} {P : List P3} (e : h[n]? = some (.dtt (encC P))) : Lil.blt .sorted [.ref n] h = .ok (.ref h.length) (h ++ [.lst ((srtP P).map encPt)]) := by
  unfold Lil.blt
  simp only [e]
  have h3 : ((encC P).all fun kv => isP3 kv.1) = true := List.all_eq_true.mpr fun kv hkv => by
    obtain ⟨p, _, rfl⟩ := List.mem_map.mp hkv
    rfl
  have hk : (encC P).map (·.1) = P.map encPt := by
    unfold encC
    rw [List.map_map]
    rfl
  rw [if_pos h3, hk, srtD_pt]
  rfl
/-- sorted(list of points) -/
theorem blt_srtL {h : Hd} {n : Nat} {l : List P3} (e : h[n]? = some (.lst (l.map encPt))) : Lil.blt .sorted [.ref n] h = .ok (.ref h.length) (h ++ [.lst ((srtP l).map encPt)]) := by
  unfold Lil.blt
  simp only [e]
  cases l with
  | nil =>
    have e0 : srtP [] = [] := by unfold srtP; simp
    rw [e0]
    rfl
  | cons s l =>
    have ha : allInts ((s :: l).map encPt) = none := rfl
    have hs : srtable h ((s :: l).map encPt) = true := by
      unfold srtable
      rw [Bool.and_eq_true, List.all_eq_true, List.all_eq_true]
      refine ⟨fun d hd => ?_, fun d hd => List.all_eq_true.mpr fun e he => ?_⟩
      · obtain ⟨s, hs, rfl⟩ := List.mem_map.mp hd
        rfl
      · obtain ⟨s, _, rfl⟩ := List.mem_map.mp hd
        obtain ⟨t, _, rfl⟩ := List.mem_map.mp he
        rw [toD_pt h 37, toD_pt h 37]
        simp [pP, PySem.W.alike, PySem.W.alikeAll]
    rw [ha]
    dsimp only
    rw [if_pos hs, srtD_pt]
    rfl
theorem cop_neL {h : Hd} {n m : Nat} {xs : List DV} (e1 : h[n]? = some (.lst xs)) (e2 : h[m]? = some (.lst xs)) (hx : ∀ x ∈ xs, idt 39 x = true) : cop .ne (.ref n) (.ref m) h = some false := by
  show (eqq (.ref n) (.ref m) h).map (!·) = _
  rw [eqq_no (lst_nod e1)]
  have d : ∀ n, h[n]? = some (.lst xs) → isDat h DEEP (.ref n) = true := fun n e => by
    show (match h[n]? with | some (.lst ds) => ds.all (isDat h 39) | _ => false) = true
    rw [e]
    exact List.all_eq_true.mpr fun x hx' => idt_dat (hx x hx')
  unfold eqO
  rw [d n e1, d m e2, Bool.and_self, if_pos rfl]
  have : deq h DEEP (.ref n) (.ref m) = true := by
    show (match h[n]?, h[m]? with | some (.lst xs), some (.lst ys) => allEq (deq h 39) xs ys | _, _ => false) = true
    rw [e1, e2]
    have ha : xs.all (idt 39) = true := List.all_eq_true.mpr hx
    exact (allEq_iff (fun a b h1 h2 => idt_deq h1 h2) ha ha).mpr rfl
  rw [this]
  rfl
theorem idt_pts (l : List P3) : ∀ x ∈ l.map encPt, idt 39 x = true := fun x hx => by
  obtain ⟨q, _, rfl⟩ := List.mem_map.mp hx
  rfl
/-! ### lines -/
def plc (s : P3) (b x : Int) : P3 := mk3 fun a => if a = b then x else ax a s
def places (s : P3) (b t : Int) : List P3 := (irange (mn2 t (ax b s)) (mx2 t (ax b s) + 1)).map (plc s b)
theorem places_nodup {s : P3} {b t : Int} (hb : isAx b) : (places s b t).Nodup := map_nodup irange_nodup fun x _ y _ e => by
  have := congrArg (ax b) e
  unfold plc at this
  rw [ax_mk3 hb, ax_mk3 hb, if_pos rfl, if_pos rfl] at this
  exact this
theorem mem_places {s : P3} {b t : Int} (hb : isAx b) {p : P3} : p ∈ places s b t ↔ hasS (boxS (lnLo s b t) (lnHi s b t)) p := by
  unfold hasS
  rw [box_has, inB_hasB]
  unfold places
  rw [List.mem_map]
  have c1 : mn2 t (ax b s) = mn2 (ax b s) t := by unfold mn2; split <;> split <;> omega
  have c2 : mx2 t (ax b s) = mx2 (ax b s) t := by unfold mx2; split <;> split <;> omega
  constructor
  · rintro ⟨x, hx, rfl⟩
    have hx := mem_irange.mp hx
    rw [c1, c2] at hx
    refine hasB_ax.mpr fun a ha => ?_
    unfold lnLo lnHi plc
    rw [ax_mk3 ha, ax_mk3 ha, ax_mk3 ha]
    by_cases z : a = b
    · rw [if_pos z, if_pos z, if_pos z, z]; exact hx
    · rw [if_neg z, if_neg z, if_neg z]; omega
  · intro h
    have h := hasB_ax.mp h
    refine ⟨ax b p, mem_irange.mpr ?_, ax_ext fun a ha => ?_⟩
    · have := h b hb
      unfold lnLo lnHi at this
      rw [ax_mk3 hb, ax_mk3 hb, if_pos rfl, if_pos rfl] at this
      rw [c1, c2]
      exact this
    · unfold plc
      rw [ax_mk3 ha]
      by_cases z : a = b
      · rw [if_pos z, z]
      · have := h a ha
        unfold lnLo lnHi at this
        rw [ax_mk3 ha, ax_mk3 ha, if_neg z, if_neg z] at this
        rw [if_neg z]
        omega
theorem mem_cube {s p : P3} : hasS (boxS s (inc s)) p ↔ p = s := by
  unfold hasS
  rw [box_has, inB_hasB]
  constructor
  · intro ⟨h1, h2, h3⟩
    unfold inc at h1 h2 h3
    dsimp only at h1 h2 h3
    exact Prod.ext (by omega) (Prod.ext (by omega) (by omega))
  · rintro rfl
    unfold hasB inc
    dsimp only
    omega
end Lil
/-! Fn44: the law k41. Written by Fn44.py. Own work. -/
set_option linter.all false
set_option Elab.async false
set_option maxRecDepth 100000
set_option maxHeartbeats 4000000
namespace Lil
open Sol
theorem line_comp {F : Nat → List DV → Hd → Res DV} {s0 s1 s2 s3 s4 s5 s6 s9 s10 s12 s13 s14 s15 s16 s17 s18 s19 s20 : Option DV} {p : P3} {b x : Int} {h : Hd} : To (ev F (.lc (.ife (.cmp .eq (.var 19) (.var 8)) (.var 11) (.var 20)) (.tp (.cons (.nm 19) (.cons (.nm 20) .nil))) (.en (.var 7)) .no [19, 20]) [s0, s1, s2, s3, s4, s5, s6, some (encPt p), some (.int b), s9, s10, some (.int x), s12, s13, s14, s15, s16, s17, s18, s19, s20] h) fun v h' => v = .ref h.length ∧ h'[h.length]? = some (.lst [.int (plc p b x).1, .int (plc p b x).2.1, .int (plc p b x).2.2]) ∧ Kp h.length h h' := by
  simp only [ev_lc, evi_en, ev_var, List.getElem?_cons_succ, List.getElem?_cons_zero, encPt, ok_bind, To_aft, unlk_en]
  refine loopC_pure [DV.tup [.int 0, .int p.1], DV.tup [.int 1, .int p.2.1], DV.tup [.int 2, .int p.2.2]] [DV.int (if 0 = b then x else p.1), DV.int (if 1 = b then x else p.2.1), DV.int (if 2 = b then x else p.2.2)] rfl rfl (by simp) (fun i h' _ hi => en3_item _ _ _ h' i hi) (fun k e v h4 hd hv _ => ?_) (fun h4 hg k4 => ?_)
  · obtain ⟨a, y, rfl, rfl⟩ : ∃ a y : Int, e = .tup [.int a, .int y] ∧ v = .int (if a = b then x else y) := by
      match k, hd, hv with
      | 0, hd, hv => cases hd; cases hv; exact ⟨0, _, rfl, rfl⟩
      | 1, hd, hv => cases hd; cases hv; exact ⟨1, _, rfl, rfl⟩
      | 2, hd, hv => cases hd; cases hv; exact ⟨2, _, rfl, rfl⟩
      | j + 3, hd, hv => cases hd
    simp only [wip, bind1_tp, bindAll_cons, bindAll_nil, bind1_nm, List.set_cons_succ, List.set_cons_zero, evc_no, ok_bind, if_true, ev_ife, ev_cmp, ev_var, ev_lit, List.getElem?_cons_succ, List.getElem?_cons_zero, cop_eqi, litB_some, truR_bl]
    by_cases z : a = b
    · simp only [z, decide_true, if_true, ok_bind, To_ok, true_and]
      exact Kp.refl
    · simp only [z, decide_false, Bool.false_eq_true, if_false, ok_bind, To_ok, true_and]
      exact Kp.refl
  · exact ⟨rfl, hg, k4⟩
theorem mth_app4 {h : Hd} {n : Nat} {L : List DV} {b : DV} (e : h[n]? = some (.lst L)) (hl : L.length < 1000000) : mth .append (.ref n) [b] h = .ok .non (h.set n (.lst (L ++ [b]))) := by
  unfold mth
  simp only [e]
  rw [if_pos (by simp only [LN]; omega)]
theorem recv_l4 {m : Mth} {h : Hd} {n : Nat} {L : List DV} (e : h[n]? = some (.lst L)) (hm : m.isD = false) : recv m (.ref n) h = true := by
  unfold recv
  simp only [e, hm]
  rfl
theorem irange_succ {lo x : Int} (h : lo ≤ x) : irange lo (x + 1) = irange lo x ++ [x] := by
  unfold irange
  rw [show (x + 1 - lo).toNat = (x - lo).toNat + 1 by omega, List.range_succ, List.map_append, List.map_cons, List.map_nil]
  congr 2
  omega
theorem blt_min2 {h : Hd} {n : Nat} {x y : Int} (e : h[n]? = some (.lst [.int x, .int y])) : Lil.blt .min [.ref n] h = .ok (.int (mn2 x y)) h := blt_mn2 e
/-- a turn of the law: what it keeps -/
def ax3 (h : Int) : Prop := isAx h
theorem law41 {F : Nat → List DV → Hd → Res DV} {iU iM iSw iCu iLn iTr iN iTl iCb : Nat} (hU : SolOk .either (F iU)) (hM : MovedOk (F iM)) (hSw : SweptOk (F iSw)) (hCu : CubeAtOk (F iCu)) (hLn : LineOk (F iLn)) (hTr : TravelOk (F iTr)) (hN : NextOk (F iN)) (hTl : ToolOk (F iTl)) (hCb : CubesOk (F iCb)) :
    ∀ ns : List Int, ∃ h', runF F (D_law41 iU iM iSw iCu iLn iTr iN iTl iCb) [.ref 0] [.fro (ns.map DV.int)] = .ok (.bl true) h' := by
  intro ns
  obtain ⟨Q, eQ⟩ : ∃ Q : DV → Hd → Prop, ∀ v h', Q v h' ↔ v = .bl true := ⟨_, fun _ _ => Iff.rfl⟩
  have done : ∀ h, Q (.bl true) h := fun h => (eQ ..).mpr rfl
  suffices hh : To (runF F (D_law41 iU iM iSw iCu iLn iTr iN iTl iCb) [.ref 0] [.fro (ns.map DV.int)]) Q by
    obtain ⟨v, h', e, q⟩ := hh.ex
    rw [(eQ ..).mp q] at e
    exact ⟨h', e⟩
  refine runF_to rfl ?_
  have cutm : cut (ns.map DV.int) none (some 63) = (cut ns none (some 63)).map DV.int := by
    unfold cut
    rw [List.length_map, List.map_take, List.map_drop]
  have sl : slice (.ref 0) none (some 63) [.fro (ns.map DV.int)] = .ok (.ref 1) [.fro (ns.map DV.int), .lst ((cut ns none (some 63)).map DV.int)] := by
    unfold slice
    simp only [List.getElem?_cons_zero]
    unfold alloc
    rw [cutm]
    rfl
  simp only [B_law41]
  simp only [List.map_cons, List.map_nil, List.cons_append, List.nil_append, List.replicate, Nat.reduceSub, FT_step, evS_asg, ev_lst, evs_cons, evs_nil, ev_slc, evo_no, evo_so, ev_lit, ev_var, List.getElem?_cons_zero, ok_bind, sl, mkLst, List.length_cons, List.length_nil, alloc, FT_fl, asg_nm, ev_cal]
  rw [if_pos (by simp only [LN]; omega)]
  simp only [To_ok, FT_nx, List.set_cons_succ, List.set_cons_zero, FT_step, evS_asg, ev_cal, evs_cons, evs_nil, ev_lit, ev_var, List.getElem?_cons_zero, List.getElem?_cons_succ, ok_bind, FT_fl, Nat.zero_add, Nat.reduceAdd, To_bind]
  have dw : Dw 2 ([DO.fro (ns.map DV.int), .lst ((cut ns none (some 63)).map DV.int)] ++ [.lst [.ref 1, .int 0, .int 0]]) := ⟨1, cut ns none (some 63), 0, by decide, rfl, rfl, Int.le_refl _⟩
  refine (hTl 2 [116] _ dw).imp fun v h1 ⟨C, hd, rt, e, oC, bC, k1⟩ => ?_
  subst e
  have dw1 := k1.dw
  clear k1 dw sl cutm
  have r3 : -(2 : Int) ^ 62 ≤ 3 ∧ (3 : Int) < 2 ^ 62 := by decide
  simp only [To_ok, FT_nx, List.set_cons_succ, List.set_cons_zero, asg_tp, asgs_cons, asgs_nil, asg_nm, ok_bind, FT_step, evS_fo, evi_r1, ev_lit, r3, and_self, if_true, FT_fl, FT_aft, unlk_rng]
  have C14 : bd3 (fun x => -14 ≤ x ∧ x ≤ 14) C := bd3_imp (fun x h => ⟨by have := h.1; omega, by have := h.2; omega⟩) bC
  have fC := few14 oC C14
  have lC : (boxesOf C).length ≤ 64 := boxes_le (m := 4) (few_m (lo := -1) oC (bd3_imp (fun x h => ⟨h.1, by have := h.2; omega⟩) bC))
  obtain ⟨I, eI⟩ : ∃ I : Int → Sl → Hd → Prop, ∀ x s h', I x s h' ↔ ∃ (x6 x7 x8 x9 x10 x11 x12 x13 x14 : Option DV), s = [some (.ref 0), some (.ref 2), some (.str [116]), some (encSol C), some hd, some (.int rt), x6, x7, x8, x9, x10, x11, x12, x13, x14, none, none, none, none, none, none] ∧ Dw 2 h' := ⟨_, fun _ _ _ => Iff.rfl⟩
  refine loop_rng (lo := 0) (hi := 3) I (by decide) ((eI ..).mpr ⟨none, none, none, none, none, none, none, none, none, rfl, dw1⟩) (fun tn s g0 _ _ hJ => ?_) (fun s g0 hJ => ?_)
  · obtain ⟨x6, x7, x8, x9, x10, x11, x12, x13, x14, rfl, dwg⟩ := (eI ..).mp hJ
    clear hJ dw1
    simp only [bind1_nm, List.set_cons_succ, List.set_cons_zero, FT_step, evS_asg, ev_blt, evs_cons, evs_nil, ev_lc, evi_r1, ev_lit, ok_bind, r3, and_self, if_true, FT_fl, To_bind, To_aft, unlk_rng]
    refine loopC_draw (m := 2) ((List.range (3 : Int).toNat).map fun j => DV.int (0 + (j : Nat))) (fun _ v => ∃ x, v = .int x ∧ -4 ≤ x ∧ x ≤ 4) rfl dwg (by decide) (fun i h3 _ hi => rng_item 0 (3 : Int).toNat i h3 (by simpa using hi)) (fun j d h3 hd k3 => ?_) (fun outs g1 o1' o2' hg k1 => ?_)
    · simp only [wip, bind1_nm, List.set_cons_succ, List.set_cons_zero, evc_no, ok_bind, if_true, ev_bin, ev_cal, evs_cons, evs_nil, ev_var, ev_lit, List.getElem?_cons_succ, List.getElem?_cons_zero, To_bind]
      refine (hN 2 9 h3 k3.dw (by decide)).imp fun v h4 ⟨⟨l4, k4⟩, u, e, u0, u1⟩ => ?_
      subst e
      exact ⟨_, rfl, ⟨u - 4, rfl, by omega, by omega⟩, k4⟩
    obtain ⟨pa, pb, pc, rfl, ⟨xa, rfl, xa0, xa1⟩, ⟨xb, rfl, xb0, xb1⟩, ⟨xc, rfl, xc0, xc1⟩⟩ := three (by simpa using o1') o2'
    have t3 : Lil.blt .tuple [.ref g0.length] g1 = .ok (encPt (xa, xb, xc)) g1 := blt_tup hg
    obtain ⟨p0, ep0⟩ : ∃ p0 : P3, p0 = (xa, xb, xc) := ⟨_, rfl⟩
    rw [← ep0] at t3
    have bp : ∀ a, isAx a → -4 ≤ ax a p0 ∧ ax a p0 ≤ 4 := fun a ha => by
      rw [ep0]
      rcases ha with rfl | rfl | rfl
      · exact ⟨xa0, xa1⟩
      · exact ⟨xb0, xb1⟩
      · exact ⟨xc0, xc1⟩
    have dw1 := k1.dw
    clear hg k1 ep0 o1' o2'
    try simp only [To_ok, FT_nx, List.set_cons_succ, List.set_cons_zero, FT_step, FT_nil, evS_asg, evS_ift, evS_ret, evS_exp, ev_or, ev_and, ev_nt, ev_neg, ev_bin, ev_cmp, ev_cal, ev_blt, ev_mth, ev_idx, evs_cons, evs_nil, ev_lit, ev_var, ev_tup, List.getElem?_cons_zero, List.getElem?_cons_succ, ok_bind, FT_fl, FT_rt, asg_nm, asg_tp, asgs_cons, asgs_nil, To_bind, litB_some, truR_bl, ofO_some, bop_add, bop_sub, mkTup, List.length_cons, List.length_nil, LN, Nat.zero_add, Nat.reduceAdd, Nat.reduceLeDiff, Nat.zero_le, if_true, Bool.false_eq_true, if_false, Bool.not_true, Bool.not_false, cop_neb, bne_self_eq_false, alloc, t3]
    refine (hN 2 3 g1 dw1 (by decide)).imp fun v g2 ⟨⟨l2, k2⟩, b, e, b0, b1⟩ => ?_
    subst e
    have hb : isAx b := by unfold isAx; omega
    try simp only [To_ok, FT_nx, List.set_cons_succ, List.set_cons_zero, FT_step, FT_nil, evS_asg, evS_ift, evS_ret, evS_exp, ev_or, ev_and, ev_nt, ev_neg, ev_bin, ev_cmp, ev_cal, ev_blt, ev_mth, ev_idx, evs_cons, evs_nil, ev_lit, ev_var, ev_tup, List.getElem?_cons_zero, List.getElem?_cons_succ, ok_bind, FT_fl, FT_rt, asg_nm, asg_tp, asgs_cons, asgs_nil, To_bind, litB_some, truR_bl, ofO_some, bop_add, bop_sub, mkTup, List.length_cons, List.length_nil, LN, Nat.zero_add, Nat.reduceAdd, Nat.reduceLeDiff, Nat.zero_le, if_true, Bool.false_eq_true, if_false, Bool.not_true, Bool.not_false, cop_neb, bne_self_eq_false, alloc]
    refine (hN 2 9 g2 k2.dw (by decide)).imp fun v g3 ⟨⟨l3, k3⟩, t', e, t0, t1⟩ => ?_
    subst e
    have dw3 := k3.dw
    clear k2 k3
    obtain ⟨t, et⟩ : ∃ t, t = t' - 4 := ⟨_, rfl⟩
    have bt : -4 ≤ t ∧ t ≤ 4 := by omega
    have pb' := bp b hb

    simp only [To_ok, FT_nx, List.set_cons_succ, List.set_cons_zero, FT_step, FT_nil, evS_asg, evS_ift, evS_ret, evS_exp, ev_or, ev_and, ev_nt, ev_neg, ev_bin, ev_cmp, ev_cal, ev_blt, ev_mth, ev_idx, evs_cons, evs_nil, ev_lit, ev_var, ev_tup, List.getElem?_cons_zero, List.getElem?_cons_succ, ok_bind, FT_fl, FT_rt, asg_nm, asg_tp, asgs_cons, asgs_nil, To_bind, litB_some, truR_bl, ofO_some, bop_add, bop_sub, mkTup, List.length_cons, List.length_nil, LN, Nat.zero_add, Nat.reduceAdd, Nat.reduceLeDiff, Nat.zero_le, if_true, Bool.false_eq_true, if_false, Bool.not_true, Bool.not_false, cop_neb, bne_self_eq_false, alloc, ← et, ev_lst, mkLst, evS_fo, evi_r2, ix_ax hb]
    have m0 := blt_mn2 (get_new (g3 ++ [DO.lst []]) (.lst [.int t, .int (ax b p0)]))
    have m1 := blt_mx2 (get_new (g3 ++ [DO.lst []] ++ [DO.lst [.int t, .int (ax b p0)]]) (.lst [.int t, .int (ax b p0)]))
    have hmn : -4 ≤ mn2 t (ax b p0) ∧ mn2 t (ax b p0) ≤ 4 := by unfold mn2; split <;> omega
    have hmx : -4 ≤ mx2 t (ax b p0) ∧ mx2 t (ax b p0) ≤ 4 := by unfold mx2; split <;> omega
    have hmm : mn2 t (ax b p0) ≤ mx2 t (ax b p0) := by unfold mn2 mx2; split <;> split <;> omega
    simp only [m0, m1, To_ok, bop_add]
    rw [if_pos ⟨⟨by omega, by omega⟩, by omega, by omega⟩]
    simp only [To_ok, FT_aft, unlk_rng]
    obtain ⟨g4, eg4⟩ : ∃ g4 : Hd, g4 = g3 ++ [DO.lst []] ++ [DO.lst [.int t, .int (ax b p0)]] ++ [DO.lst [.int t, .int (ax b p0)]] := ⟨_, rfl⟩
    rw [← eg4]
    have f4 : g4[g3.length]? = some (.lst []) := by
      rw [eg4, List.append_assoc, List.getElem?_append_left (by simp)]
      exact get_new _ _
    have k34 : Kp g3.length g3 g4 := by
      rw [eg4, List.append_assoc, List.append_assoc]
      exact Kp.app _ (Nat.le_refl _)
    refine loop_rng (fun x s h' => ∃ x11, s = [some (.ref 0), some (.ref 2), some (.str [116]), some (encSol C), some hd, some (.int rt), some (.int tn), some (encPt p0), some (.int b), some (.int t), some (.ref g3.length), x11, x12, x13, x14, none, none, none, none, none, none] ∧ h'[g3.length]? = some (.lst (((irange (mn2 t (ax b p0)) x).map (plc p0 b)).map encPt)) ∧ Kp g3.length g3 h') (by omega) ⟨_, rfl, by rw [show irange (mn2 t (ax b p0)) (mn2 t (ax b p0)) = [] by unfold irange; rw [Int.sub_self]; rfl]; exact f4, k34⟩ (fun x s h' l1 l2 hI => ?_) (fun s h' hI => ?_)
    · obtain ⟨x11, rfl, f, k⟩ := hI
      have rc := recv_l4 (m := .append) f rfl
      simp only [bind1_nm, List.set_cons_succ, List.set_cons_zero, FT_step, evS_exp, ev_mth, ev_blt, evs_cons, evs_nil, ev_var, List.getElem?_cons_succ, List.getElem?_cons_zero, ok_bind, rc, if_true, FT_fl, To_bind]
      refine line_comp.imp fun v h2 ⟨e, e2, k2⟩ => ?_
      subst e
      have t2 : Lil.blt .tuple [.ref h'.length] h2 = .ok (encPt (plc p0 b x)) h2 := blt_tup e2
      have f2 := k2.get (lt_of_get f) f
      have ap := mth_app4 (b := encPt (plc p0 b x)) f2 (by rw [List.length_map, List.length_map, irange_len]; omega)
      simp only [To_ok, t2, ap, FT_nx, FT_nil]
      refine ⟨_, rfl, ?_, (k.trans k2 k.len).set (Nat.le_refl _)⟩
      rw [get_set f2, irange_succ l1, List.map_append, List.map_append]
      rfl
    obtain ⟨x11, rfl, f, k⟩ := hI
    rw [if_pos (by omega)] at f
    have f : h'[g3.length]? = some (.lst ((places p0 b t).map encPt)) := f
    clear f4 k34 eg4 m0 m1
    try simp only [To_ok, FT_nx, List.set_cons_succ, List.set_cons_zero, FT_step, FT_nil, evS_asg, evS_ift, evS_ret, evS_exp, ev_or, ev_and, ev_nt, ev_neg, ev_bin, ev_cmp, ev_cal, ev_blt, ev_mth, ev_idx, evs_cons, evs_nil, ev_lit, ev_var, ev_tup, List.getElem?_cons_zero, List.getElem?_cons_succ, ok_bind, FT_fl, FT_rt, asg_nm, asg_tp, asgs_cons, asgs_nil, To_bind, litB_some, truR_bl, ofO_some, bop_add, bop_sub, mkTup, List.length_cons, List.length_nil, LN, Nat.zero_add, Nat.reduceAdd, Nat.reduceLeDiff, Nat.zero_le, if_true, Bool.false_eq_true, if_false, Bool.not_true, Bool.not_false, cop_neb, bne_self_eq_false, alloc]
    refine (hLn p0 b t h' hb).imp fun v h2 ⟨e, k2⟩ => ?_
    subst e
    obtain ⟨LT, eLT⟩ : ∃ LT : Solid, LT = boxS (lnLo p0 b t) (lnHi p0 b t) := ⟨_, rfl⟩
    rw [← eLT]
    have oL : okSolid LT := eLT ▸ box_ok _ _
    have bL : bd3 (fun x => -4 ≤ x ∧ x ≤ 5) LT := by
      rw [eLT]
      refine box_bd (bdP_ax.mpr fun a ha => ?_) (bdP_ax.mpr fun a ha => ?_)
      · unfold lnLo
        rw [ax_mk3 ha]
        have := bp a ha
        by_cases z : a = b
        · rw [if_pos z]; unfold mn2; split <;> omega
        · rw [if_neg z]; omega
      · unfold lnHi
        rw [ax_mk3 ha]
        have := bp a ha
        by_cases z : a = b
        · rw [if_pos z]; unfold mx2; split <;> omega
        · rw [if_neg z]; omega
    have mL : ∀ p, p ∈ places p0 b t ↔ hasS LT p := fun p => by rw [mem_places hb, eLT]
    have nL := places_nodup (s := p0) (b := b) (t := t) hb
    have f2 := k2.get (lt_of_get f) f
    have kk2 := k.trans k2 k.len
    clear eLT k2
    try simp only [To_ok, FT_nx, List.set_cons_succ, List.set_cons_zero, FT_step, FT_nil, evS_asg, evS_ift, evS_ret, evS_exp, ev_or, ev_and, ev_nt, ev_neg, ev_bin, ev_cmp, ev_cal, ev_blt, ev_mth, ev_idx, evs_cons, evs_nil, ev_lit, ev_var, ev_tup, List.getElem?_cons_zero, List.getElem?_cons_succ, ok_bind, FT_fl, FT_rt, asg_nm, asg_tp, asgs_cons, asgs_nil, To_bind, litB_some, truR_bl, ofO_some, bop_add, bop_sub, mkTup, List.length_cons, List.length_nil, LN, Nat.zero_add, Nat.reduceAdd, Nat.reduceLeDiff, Nat.zero_le, if_true, Bool.false_eq_true, if_false, Bool.not_true, Bool.not_false, cop_neb, bne_self_eq_false, alloc]
    refine (hCb LT (-30) h2 oL (bd3_imp (fun x h => ⟨by have := h.1; omega, by have := h.2; omega⟩) bL) (by decide) (by decide)).imp fun v h3 ⟨kc, P, e, lc, fc, nP, mP, k3⟩ => ?_
    subst e
    have f3 := k3.get (lt_of_get f2) f2
    have kk3 := kk2.trans k3 kk2.len
    have s1 := blt_srtC fc
    have f3a : (h3 ++ [DO.lst ((srtP P).map encPt)])[g3.length]? = some (.lst ((places p0 b t).map encPt)) := by rw [List.getElem?_append_left (lt_of_get f3)]; exact f3
    have s2 := blt_srtL f3a
    rw [srtP_same nL nP fun p => (mL p).trans (mP p).symm] at s2
    have fn1 : (h3 ++ [DO.lst ((srtP P).map encPt)] ++ [DO.lst ((srtP P).map encPt)])[h3.length]? = some (.lst ((srtP P).map encPt)) := by rw [List.getElem?_append_left (by simp)]; exact get_new _ _
    have cn := cop_neL fn1 (get_new (h3 ++ [DO.lst ((srtP P).map encPt)]) (.lst ((srtP P).map encPt))) (idt_pts _)
    try simp only [To_ok, FT_nx, List.set_cons_succ, List.set_cons_zero, FT_step, FT_nil, evS_asg, evS_ift, evS_ret, evS_exp, ev_or, ev_and, ev_nt, ev_neg, ev_bin, ev_cmp, ev_cal, ev_blt, ev_mth, ev_idx, evs_cons, evs_nil, ev_lit, ev_var, ev_tup, List.getElem?_cons_zero, List.getElem?_cons_succ, ok_bind, FT_fl, FT_rt, asg_nm, asg_tp, asgs_cons, asgs_nil, To_bind, litB_some, truR_bl, ofO_some, bop_add, bop_sub, mkTup, List.length_cons, List.length_nil, LN, Nat.zero_add, Nat.reduceAdd, Nat.reduceLeDiff, Nat.zero_le, if_true, Bool.false_eq_true, if_false, Bool.not_true, Bool.not_false, cop_neb, bne_self_eq_false, alloc, s1, s2, cn]
    have k34 : Kp h3.length h3 (h3 ++ [DO.lst ((srtP P).map encPt)] ++ [DO.lst ((srtP P).map encPt)]) := by rw [List.append_assoc]; exact Kp.app _ (Nat.le_refl _)
    obtain ⟨h4, eh4⟩ : ∃ h4 : Hd, h4 = h3 ++ [DO.lst ((srtP P).map encPt)] ++ [DO.lst ((srtP P).map encPt)] := ⟨_, rfl⟩
    simp only [← eh4]
    rw [← eh4] at k34
    have kk4 := kk3.trans k34 kk3.len
    have f4 := k34.get (lt_of_get f3) f3
    clear s1 s2 cn fn1 f3a eh4 k34 f3 fc mP nP
    refine (hCu p0 h4).imp fun v h5 ⟨e, k5⟩ => ?_
    subst e
    try simp only [To_ok, FT_nx, List.set_cons_succ, List.set_cons_zero, FT_step, FT_nil, evS_asg, evS_ift, evS_ret, evS_exp, ev_or, ev_and, ev_nt, ev_neg, ev_bin, ev_cmp, ev_cal, ev_blt, ev_mth, ev_idx, evs_cons, evs_nil, ev_lit, ev_var, ev_tup, List.getElem?_cons_zero, List.getElem?_cons_succ, ok_bind, FT_fl, FT_rt, asg_nm, asg_tp, asgs_cons, asgs_nil, To_bind, litB_some, truR_bl, ofO_some, bop_add, bop_sub, mkTup, List.length_cons, List.length_nil, LN, Nat.zero_add, Nat.reduceAdd, Nat.reduceLeDiff, Nat.zero_le, if_true, Bool.false_eq_true, if_false, Bool.not_true, Bool.not_false, cop_neb, bne_self_eq_false, alloc]
    refine (hCb (boxS p0 (inc p0)) (-30) h5 (box_ok _ _) (box_bd (bdP_ax.mpr fun a ha => by have := bp a ha; unfold Rg; omega) (bdP_ax.mpr fun a ha => by have := bp a ha; have : ax a (inc p0) = ax a p0 + 1 := (by rcases ha with rfl | rfl | rfl <;> rfl); unfold Rg; omega)) (by decide) (by decide)).imp fun v h6 ⟨kd, D, e, ld, fd, nD, mD, k6⟩ => ?_
    subst e
    have kk5 := kk4.trans k5 kk4.len
    have kk6 := kk5.trans k6 kk5.len
    have f6 := k6.get (lt_of_get (k5.get (lt_of_get f4) f4)) (k5.get (lt_of_get f4) f4)
    have s1 : ∀ h : Hd, ((h ++ [DO.dtt []])[h.length]? : Option DO) = some (.dtt []) := fun h => get_new _ _
    have ky := pt_key p0
    have en : (if (true && isKey2 (encPt p0)) = true then Res.ok (DV.ref h6.length) ((h6 ++ [DO.dtt []]).set h6.length (.dtt [(encPt p0, .bl true)])) else .bad) = .ok (.ref h6.length) (h6 ++ [DO.dtt (encC [p0])]) := by
      rw [if_pos (by rw [ky]; rfl), set_new]
      rfl
    have fd' : (h6 ++ [DO.dtt (encC [p0])])[kd]? = some (.dtt (encC D)) := by rw [List.getElem?_append_left (lt_of_get fd)]; exact fd
    have cd := cop_neC fd' (get_new h6 (.dtt (encC [p0])))
    have sm : sameP D [p0] = true := (sameP_iff nD (by simp)).mpr fun p => by rw [mD, mem_cube]; simp
    rw [sm] at cd
    try simp only [To_ok, FT_nx, List.set_cons_succ, List.set_cons_zero, FT_step, FT_nil, evS_asg, evS_ift, evS_ret, evS_exp, ev_or, ev_and, ev_nt, ev_neg, ev_bin, ev_cmp, ev_cal, ev_blt, ev_mth, ev_idx, evs_cons, evs_nil, ev_lit, ev_var, ev_tup, List.getElem?_cons_zero, List.getElem?_cons_succ, ok_bind, FT_fl, FT_rt, asg_nm, asg_tp, asgs_cons, asgs_nil, To_bind, litB_some, truR_bl, ofO_some, bop_add, bop_sub, mkTup, List.length_cons, List.length_nil, LN, Nat.zero_add, Nat.reduceAdd, Nat.reduceLeDiff, Nat.zero_le, if_true, Bool.false_eq_true, if_false, Bool.not_true, Bool.not_false, cop_neb, bne_self_eq_false, alloc, ev_ds1, s1, en, cd]
    have kk7 : Kp g3.length g3 (h6 ++ [DO.dtt (encC [p0])]) := kk6.trans (Kp.app _ (Nat.le_refl _)) kk6.len
    have f7 : (h6 ++ [DO.dtt (encC [p0])])[g3.length]? = some (.lst ((places p0 b t).map encPt)) := by rw [List.getElem?_append_left (lt_of_get f6)]; exact f6
    generalize (h6 ++ [DO.dtt (encC [p0])]) = h7 at kk7 f7
    clear cd fd' en s1 fd mD nD sm kk6 kk5 kk4 kk3 kk2 k5 k6 f4 f6 f2 f k

    try simp only [To_ok, FT_nx, List.set_cons_succ, List.set_cons_zero, FT_step, FT_nil, evS_asg, evS_ift, evS_ret, evS_exp, ev_or, ev_and, ev_nt, ev_neg, ev_bin, ev_cmp, ev_cal, ev_blt, ev_mth, ev_idx, evs_cons, evs_nil, ev_lit, ev_var, ev_tup, List.getElem?_cons_zero, List.getElem?_cons_succ, ok_bind, FT_fl, FT_rt, asg_nm, asg_tp, asgs_cons, asgs_nil, To_bind, litB_some, truR_bl, ofO_some, bop_add, bop_sub, mkTup, List.length_cons, List.length_nil, LN, Nat.zero_add, Nat.reduceAdd, Nat.reduceLeDiff, Nat.zero_le, if_true, Bool.false_eq_true, if_false, Bool.not_true, Bool.not_false, cop_neb, bne_self_eq_false, alloc, mkTup]
    simp only [evS_fo, evi_sq, ev_var, List.getElem?_cons_succ, List.getElem?_cons_zero, ok_bind, f7, FT_fl, To_ok, FT_aft, unlk_lst]
    have npl : (places p0 b t).length ≤ 10 := by
      unfold places
      rw [List.length_map, irange_len]
      omega
    have bpl : ∀ p ∈ places p0 b t, ∀ a, isAx a → -4 ≤ ax a p ∧ ax a p ≤ 5 := fun p hp a ha => by
      have := (mL p).mp hp
      obtain ⟨q, hq, hqp⟩ := (hasS_iff oL).mp this
      have b1 := boxes_bd bL q hq
      have b2 := bdP_ax.mp b1.1 a ha
      have b3 := bdP_ax.mp b1.2 a ha
      have := ax_has ha hqp
      omega
    refine loopF_rule ((places p0 b t).map encPt) (fun i s h' => ∃ (U : Solid) (x14 : Option DV), s = [some (.ref 0), some (.ref 2), some (.str [116]), some (encSol C), some hd, some (.int rt), some (.int tn), some (encPt p0), some (.int b), some (.int t), some (.ref g3.length), x11, some (encSol LT), some (encSol U), x14, none, none, none, none, none, none] ∧ okSolid U ∧ bd3 (Rg (-30)) U ∧ (∀ p, hasS U p ↔ ∃ x ∈ (places p0 b t).take i, hasS (mvS x C) p) ∧ h'[g3.length]? = some (.lst ((places p0 b t).map encPt)) ∧ Kp g3.length g3 h') (fun i s h' hI _ => by
      obtain ⟨_, _, _, _, _, _, f, _⟩ := hI
      exact lst_item f i) (fun i d s h' hd hI => ?_) (fun s h' hI => ?_) _ _ _ _ (Nat.zero_le _) (by rw [List.length_map]; simp only [FUEL]; omega) ⟨[], _, rfl, okSolid_nil, fun _ h => (nomatch h), fun p => ⟨fun z => (by cases z), fun ⟨x, hx, _⟩ => (by simp at hx)⟩, f7, kk7⟩
    · obtain ⟨U, x14, rfl, oU, bU, mU, f, k⟩ := hI
      rw [List.getElem?_map] at hd
      obtain ⟨x, hx, rfl⟩ := Option.map_eq_some_iff.mp hd
      have xm := List.mem_of_getElem? hx
      have bx := bpl x xm
      simp only [bind1_nm, List.set_cons_succ, List.set_cons_zero, FT_step, evS_asg, ev_cal, evs_cons, evs_nil, ev_var, List.getElem?_cons_succ, List.getElem?_cons_zero, ok_bind, FT_fl, To_bind]
      refine (hM C x h' fC).imp fun v h2 ⟨e, k2⟩ => ?_
      subst e
      have b0 := bx 0 (.inl rfl)
      have b1 := bx 1 (.inr (.inl rfl))
      have b2 := bx 2 (.inr (.inr rfl))
      have bm : bd3 (Rg (-30)) (mvS x C) := mvS_bd (R := R3) (fun y h => by unfold R3 at h; unfold Rg; have : ax 0 x = x.1 := rfl; omega) (fun y h => by unfold R3 at h; unfold Rg; have : ax 1 x = x.2.1 := rfl; omega) (fun y h => by unfold R3 at h; unfold Rg; have : ax 2 x = x.2.2 := rfl; omega) bC
      try simp only [To_ok, ok_bind]
      refine (hU U (mvS x C) (-30) h2 oU (mvS_ok oC) bU bm).imp fun v h3 ⟨e, k3⟩ => ?_
      subst e
      simp only [To_ok, asg_nm, FT_nx, List.set_cons_succ, List.set_cons_zero, FT_nil]
      refine ⟨solidM .either U (mvS x C), _, rfl, (solid_ok (w := .either) oU (mvS_ok oC)).1, solid_bd bU bm, fun p => ?_, k3.get (lt_of_get (k2.get (lt_of_get f) f)) (k2.get (lt_of_get f) f), (k.trans k2 k.len).trans k3 (by have := k.len; have := k2.len; omega)⟩
      rw [(has_u oU (mvS_ok oC) p).1, mU, List.take_add_one, hx]
      constructor
      · rintro (⟨y, h1, h2⟩ | h2)
        · exact ⟨y, List.mem_append_left _ h1, h2⟩
        · exact ⟨x, List.mem_append_right _ (by simp), h2⟩
      · rintro ⟨y, h1, h2⟩
        rcases List.mem_append.mp h1 with h1 | h1
        · exact .inl ⟨y, h1, h2⟩
        · have : y = x := by simpa using h1
          subst this
          exact .inr h2
    obtain ⟨U, x14, rfl, oU, bU, mU, f, k⟩ := hI
    rw [List.length_map, List.take_length] at mU
    have L14 : bd3 (fun x => -14 ≤ x ∧ x ≤ 14) LT := bd3_imp (fun x h => ⟨by have := h.1; omega, by have := h.2; omega⟩) bL
    have lL : (boxesOf LT).length ≤ 729 := boxes_le (m := 9) (few_m (lo := -4) oL (bd3_imp (fun x h => ⟨h.1, by have := h.2; omega⟩) bL))
    try simp only [To_ok, FT_nx, List.set_cons_succ, List.set_cons_zero, FT_step, FT_nil, evS_asg, evS_ift, evS_ret, evS_exp, ev_or, ev_and, ev_nt, ev_neg, ev_bin, ev_cmp, ev_cal, ev_blt, ev_mth, ev_idx, evs_cons, evs_nil, ev_lit, ev_var, ev_tup, List.getElem?_cons_zero, List.getElem?_cons_succ, ok_bind, FT_fl, FT_rt, asg_nm, asg_tp, asgs_cons, asgs_nil, To_bind, litB_some, truR_bl, ofO_some, bop_add, bop_sub, mkTup, List.length_cons, List.length_nil, LN, Nat.zero_add, Nat.reduceAdd, Nat.reduceLeDiff, Nat.zero_le, if_true, Bool.false_eq_true, if_false, Bool.not_true, Bool.not_false, cop_neb, bne_self_eq_false, alloc]
    refine (hSw LT C h' oL oC L14 C14 (by have := Nat.mul_le_mul lL lC; omega)).imp fun v h2 ⟨sw, e, oW, bW, hW, k2⟩ => ?_
    subst e
    have ew : sw = U := has_ext oW oU fun p => by
      rw [hW, mU]
      have hm : ∀ x : P3, hasS (mvS x C) p ↔ hasS C (addV p (negV x)) := fun x => by
        unfold hasS
        rw [mvS_has]
        rfl
      constructor
      · rintro ⟨a, c, ha, hc, rfl⟩
        refine ⟨a, (mL a).mpr ha, (hm a).mpr ?_⟩
        have : addV (addV a c) (negV a) = c := by
          unfold addV negV
          refine Prod.ext ?_ (Prod.ext ?_ ?_) <;> (dsimp only; omega)
        rw [this]
        exact hc
      · rintro ⟨x, hx, hc⟩
        refine ⟨x, _, (mL x).mp hx, (hm x).mp hc, ?_⟩
        unfold addV negV
        refine Prod.ext ?_ (Prod.ext ?_ ?_) <;> (dsimp only; omega)
    subst ew
    simp only [To_ok, FT_nx, List.set_cons_succ, List.set_cons_zero, FT_step, FT_nil, evS_asg, evS_ift, evS_ret, evS_exp, ev_or, ev_and, ev_nt, ev_neg, ev_bin, ev_cmp, ev_cal, ev_blt, ev_mth, ev_idx, evs_cons, evs_nil, ev_lit, ev_var, ev_tup, List.getElem?_cons_zero, List.getElem?_cons_succ, ok_bind, FT_fl, FT_rt, asg_nm, asg_tp, asgs_cons, asgs_nil, To_bind, litB_some, truR_bl, ofO_some, bop_add, bop_sub, mkTup, List.length_cons, List.length_nil, LN, Nat.zero_add, Nat.reduceAdd, Nat.reduceLeDiff, Nat.zero_le, if_true, Bool.false_eq_true, if_false, Bool.not_true, Bool.not_false, cop_neb, bne_self_eq_false, alloc, sol_ne, decide_true]
    exact (eI ..).mpr ⟨_, _, _, _, _, _, _, _, _, rfl, (dw3.kp k dw3.lt).kp k2 (by have := k.len; have := dw3.lt; omega)⟩

  · obtain ⟨x6, x7, x8, x9, x10, x11, x12, x13, x14, rfl, dwg⟩ := (eI ..).mp hJ
    clear hJ dw1
    simp only [FT_step, evS_asg, ev_blt, evs_cons, evs_nil, ev_lc, evi_r1, ev_lit, ok_bind, r3, and_self, if_true, FT_fl, To_bind, To_aft, unlk_rng]
    refine loopC_draw (m := 2) ((List.range (3 : Int).toNat).map fun j => DV.int (0 + (j : Nat))) (fun _ v => ∃ x, v = .int x ∧ -4 ≤ x ∧ x ≤ 0) rfl dwg (by decide) (fun i h3 _ hi => rng_item 0 (3 : Int).toNat i h3 (by simpa using hi)) (fun j d h3 hd k3 => ?_) (fun outs g1 o1' o2' hg k1 => ?_)
    · simp only [wip, bind1_nm, List.set_cons_succ, List.set_cons_zero, evc_no, ok_bind, if_true, ev_bin, ev_cal, evs_cons, evs_nil, ev_var, ev_lit, List.getElem?_cons_succ, List.getElem?_cons_zero, To_bind]
      refine (hN 2 5 h3 k3.dw (by decide)).imp fun v h4 ⟨⟨l4, k4⟩, u, e, u0, u1⟩ => ?_
      subst e
      exact ⟨_, rfl, ⟨u - 4, rfl, by omega, by omega⟩, k4⟩
    obtain ⟨pa, pb, pc, rfl, ⟨xa, rfl, xa0, xa1⟩, ⟨xb, rfl, xb0, xb1⟩, ⟨xc, rfl, xc0, xc1⟩⟩ := three (by simpa using o1') o2'
    have t3 : Lil.blt .tuple [.ref g0.length] g1 = .ok (.tup [.int xa, .int xb, .int xc]) g1 := blt_tup hg
    have dw1 := k1.dw
    clear hg k1 o1' o2'
    try simp only [To_ok, FT_nx, List.set_cons_succ, List.set_cons_zero, FT_step, FT_nil, evS_asg, evS_ift, evS_ret, evS_exp, ev_or, ev_and, ev_nt, ev_neg, ev_bin, ev_cmp, ev_cal, ev_blt, ev_mth, ev_idx, evs_cons, evs_nil, ev_lit, ev_var, ev_tup, List.getElem?_cons_zero, List.getElem?_cons_succ, ok_bind, FT_fl, FT_rt, asg_nm, asg_tp, asgs_cons, asgs_nil, To_bind, litB_some, truR_bl, ofO_some, bop_add, bop_sub, mkTup, List.length_cons, List.length_nil, LN, Nat.zero_add, Nat.reduceAdd, Nat.reduceLeDiff, Nat.zero_le, if_true, Bool.false_eq_true, if_false, Bool.not_true, Bool.not_false, cop_neb, bne_self_eq_false, alloc, t3]
    simp only [FT_step, evS_asg, ev_blt, evs_cons, evs_nil, ev_lc, evi_sq, ev_var, List.getElem?_cons_succ, List.getElem?_cons_zero, ok_bind, FT_fl, To_bind, To_aft, unlk_tup]
    refine loopC_draw (m := 2) [DV.int xa, DV.int xb, DV.int xc] (fun j v => ∃ y x, [DV.int xa, DV.int xb, DV.int xc][j]? = some (.int x) ∧ v = .int y ∧ x ≤ y ∧ y ≤ x + 2) rfl dw1 (by simp) (fun i h3 _ hi => rfl) (fun j d h3 hd k3 => ?_) (fun outs g2 o1' o2' hg k2 => ?_)
    · have hj : ∃ l, d = .int l := by
        have : j = 0 ∨ j = 1 ∨ j = 2 := by have := (List.getElem?_eq_some_iff.mp hd).1; simp at this; omega
        rcases this with rfl | rfl | rfl <;> cases hd <;> exact ⟨_, rfl⟩
      obtain ⟨l, rfl⟩ := hj
      simp only [wip, bind1_nm, List.set_cons_succ, List.set_cons_zero, evc_no, ok_bind, if_true, ev_bin, bop_add, ev_cal, evs_cons, evs_nil, ev_var, ev_lit, List.getElem?_cons_succ, List.getElem?_cons_zero, To_bind]
      refine (hN 2 3 h3 k3.dw (by decide)).imp fun v h4 ⟨⟨l4, k4⟩, u, e, u0, u1⟩ => ?_
      subst e
      exact ⟨_, rfl, ⟨_, l, hd, rfl, by omega, by omega⟩, k4⟩
    obtain ⟨qa, qb, qc, rfl, ⟨ya, za, ea, rfl, ya0, ya1⟩, ⟨yb, zb, eb, rfl, yb0, yb1⟩, ⟨yc, zc, ec, rfl, yc0, yc1⟩⟩ := three (by simpa using o1') o2'
    cases ea; cases eb; cases ec
    have t4 : Lil.blt .tuple [.ref g1.length] g2 = .ok (.tup [.int ya, .int yb, .int yc]) g2 := blt_tup hg
    clear hg k2 o1' o2' dw1 t3
    obtain ⟨lo, elo⟩ : ∃ lo : P3, lo = (xa, xb, xc) := ⟨_, rfl⟩
    obtain ⟨hi, ehi⟩ : ∃ hi : P3, hi = (ya, yb, yc) := ⟨_, rfl⟩
    have ec1 : DV.tup [.int xa, .int xb, .int xc] = encPt lo := by rw [elo]; rfl
    have ec2 : DV.tup [.int ya, .int yb, .int yc] = encPt hi := by rw [ehi]; rfl
    have bb : ∀ a, isAx a → -4 ≤ ax a lo ∧ ax a lo ≤ ax a hi ∧ ax a hi ≤ 2 := fun a ha => by
      rw [elo, ehi]
      rcases ha with rfl | rfl | rfl
      · show -4 ≤ xa ∧ xa ≤ ya ∧ ya ≤ 2; omega
      · show -4 ≤ xb ∧ xb ≤ yb ∧ yb ≤ 2; omega
      · show -4 ≤ xc ∧ xc ≤ yc ∧ yc ≤ 2; omega
    rw [ec2] at t4
    try simp only [To_ok, FT_nx, List.set_cons_succ, List.set_cons_zero, FT_step, FT_nil, evS_asg, evS_ift, evS_ret, evS_exp, ev_or, ev_and, ev_nt, ev_neg, ev_bin, ev_cmp, ev_cal, ev_blt, ev_mth, ev_idx, evs_cons, evs_nil, ev_lit, ev_var, ev_tup, List.getElem?_cons_zero, List.getElem?_cons_succ, ok_bind, FT_fl, FT_rt, asg_nm, asg_tp, asgs_cons, asgs_nil, To_bind, litB_some, truR_bl, ofO_some, bop_add, bop_sub, mkTup, List.length_cons, List.length_nil, LN, Nat.zero_add, Nat.reduceAdd, Nat.reduceLeDiff, Nat.zero_le, if_true, Bool.false_eq_true, if_false, Bool.not_true, Bool.not_false, cop_neb, bne_self_eq_false, alloc, t4]
    rw [ec1]
    refine (hTr lo hi _ _ _ _ g2).imp fun v h2 ⟨e, k2⟩ => ?_
    subst e
    have ainc : ∀ a, isAx a → ax a (inc hi) = ax a hi + 1 := fun a ha => by rcases ha with rfl | rfl | rfl <;> rfl
    try simp only [To_ok, FT_nx, List.set_cons_succ, List.set_cons_zero, FT_step, FT_nil, evS_asg, evS_ift, evS_ret, evS_exp, ev_or, ev_and, ev_nt, ev_neg, ev_bin, ev_cmp, ev_cal, ev_blt, ev_mth, ev_idx, evs_cons, evs_nil, ev_lit, ev_var, ev_tup, List.getElem?_cons_zero, List.getElem?_cons_succ, ok_bind, FT_fl, FT_rt, asg_nm, asg_tp, asgs_cons, asgs_nil, To_bind, litB_some, truR_bl, ofO_some, bop_add, bop_sub, mkTup, List.length_cons, List.length_nil, LN, Nat.zero_add, Nat.reduceAdd, Nat.reduceLeDiff, Nat.zero_le, if_true, Bool.false_eq_true, if_false, Bool.not_true, Bool.not_false, cop_neb, bne_self_eq_false, alloc]
    refine (hCb (boxS lo (inc hi)) (-30) h2 (box_ok _ _) (box_bd (bdP_ax.mpr fun a ha => by have := bb a ha; unfold Rg; omega) (bdP_ax.mpr fun a ha => by have := bb a ha; have := ainc a ha; unfold Rg; omega)) (by decide) (by decide)).imp fun v h3 ⟨kc, P, e, lc, fc, nP, mP, k3⟩ => ?_
    subst e
    have mq : ∀ p, p ∈ P ↔ hasB (lo, inc hi) p := fun p => by
      rw [mP]
      unfold hasS
      rw [box_has, inB_hasB]
    have ln : (P.length : Int) = volB (lo, inc hi) := by
      rw [← ptsB_len (q := (lo, inc hi)) ⟨by have := bb 0 (.inl rfl); have : lo.1 ≤ hi.1 := this.2.1; show lo.1 ≤ hi.1 + 1; omega, by have := bb 1 (.inr (.inl rfl)); have : lo.2.1 ≤ hi.2.1 := this.2.1; show lo.2.1 ≤ hi.2.1 + 1; omega, by have := bb 2 (.inr (.inr rfl)); have : lo.2.2 ≤ hi.2.2 := this.2.1; show lo.2.2 ≤ hi.2.2 + 1; omega⟩]
      congr 1
      exact same_len nP ptsB_nodup fun p => (mq p).trans mem_ptsB.symm
    have c1 : lo ∈ P := (mq lo).mpr (hasB_ax.mpr fun a ha => by have := bb a ha; have := ainc a ha; show ax a lo ≤ ax a lo ∧ ax a lo < ax a (inc hi); omega)
    have c2 : hi ∈ P := (mq hi).mpr (hasB_ax.mpr fun a ha => by have := bb a ha; have := ainc a ha; show ax a lo ≤ ax a hi ∧ ax a hi < ax a (inc hi); omega)
    try simp only [To_ok, FT_nx, List.set_cons_succ, List.set_cons_zero, FT_step, FT_nil, evS_asg, evS_ift, evS_ret, evS_exp, ev_or, ev_and, ev_nt, ev_neg, ev_bin, ev_cmp, ev_cal, ev_blt, ev_mth, ev_idx, evs_cons, evs_nil, ev_lit, ev_var, ev_tup, List.getElem?_cons_zero, List.getElem?_cons_succ, ok_bind, FT_fl, FT_rt, asg_nm, asg_tp, asgs_cons, asgs_nil, To_bind, litB_some, truR_bl, ofO_some, bop_add, bop_sub, mkTup, List.length_cons, List.length_nil, LN, Nat.zero_add, Nat.reduceAdd, Nat.reduceLeDiff, Nat.zero_le, if_true, Bool.false_eq_true, if_false, Bool.not_true, Bool.not_false, cop_neb, bne_self_eq_false, alloc]
    simp only [evS_fo, evi_r1, ev_lit, ok_bind, r3, and_self, if_true, FT_fl, To_ok, FT_aft, unlk_rng]
    refine loop_rng (lo := 0) (hi := 3) (fun a s h' => ∃ (x8 : Option DV), s = [some (.ref 0), some (.ref 2), some (.str [116]), some (encSol C), some hd, some (.int rt), x6, x7, x8, x9, x10, x11, x12, x13, x14, some (encPt lo), some (encPt hi), some (.ref kc), some (.int (if a = 0 then 1 else if a = 1 then hi.1 - lo.1 + 1 else if a = 2 then (hi.1 - lo.1 + 1) * (hi.2.1 - lo.2.1 + 1) else (hi.1 - lo.1 + 1) * (hi.2.1 - lo.2.1 + 1) * (hi.2.2 - lo.2.2 + 1))), none, none] ∧ h' = h3) (by decide) ⟨_, rfl, rfl⟩ (fun a s h' l1 l2 hI => ?_) (fun s h' hI => ?_)
    · obtain ⟨x8, rfl, rfl⟩ := hI
      have ha : isAx a := by unfold isAx; omega
      have b0 := bb 0 (.inl rfl)
      have b1 := bb 1 (.inr (.inl rfl))
      have b2 := bb 2 (.inr (.inr rfl))
      have bl : -(2 ^ 64) < ax a hi - ax a lo + 1 ∧ ax a hi - ax a lo + 1 < 2 ^ 64 := by have := bb a ha; omega
      have mm : ∀ (y : Int) (h : Hd), bop .mul (.int y) (.int (ax a hi - ax a lo + 1)) h = .ok (.int (y * (ax a hi - ax a lo + 1))) h := fun y h => mul_to (decide_eq_true (.inr bl))
      simp only [bind1_nm, List.set_cons_succ, List.set_cons_zero, FT_step, evS_asg, ev_bin, ev_idx, ev_var, ev_lit, List.getElem?_cons_succ, List.getElem?_cons_zero, ok_bind, ix_ax ha, ofO_some, bop_sub, bop_add, mm, FT_fl, To_ok, asg_nm, FT_nx, FT_nil]
      have evv : (if a = 0 then (1 : Int) else if a = 1 then hi.1 - lo.1 + 1 else if a = 2 then (hi.1 - lo.1 + 1) * (hi.2.1 - lo.2.1 + 1) else (hi.1 - lo.1 + 1) * (hi.2.1 - lo.2.1 + 1) * (hi.2.2 - lo.2.2 + 1)) * (ax a hi - ax a lo + 1) = (if a + 1 = 0 then (1 : Int) else if a + 1 = 1 then hi.1 - lo.1 + 1 else if a + 1 = 2 then (hi.1 - lo.1 + 1) * (hi.2.1 - lo.2.1 + 1) else (hi.1 - lo.1 + 1) * (hi.2.1 - lo.2.1 + 1) * (hi.2.2 - lo.2.2 + 1)) := by
        rcases ha with rfl | rfl | rfl
        · exact Int.one_mul _
        · rfl
        · rfl
      exact ⟨some (.int a), by rw [evv], trivial⟩
    obtain ⟨x8, rfl, rfl⟩ := hI
    have ci1 := cop_inC (p := lo) (dctT_get fc)
    have ci2 := cop_inC (p := hi) (dctT_get fc)
    have ev : volB (lo, inc hi) = (hi.1 - lo.1 + 1) * (hi.2.1 - lo.2.1 + 1) * (hi.2.2 - lo.2.2 + 1) := by
      unfold volB inc
      dsimp only
      rw [show hi.1 + 1 - lo.1 = hi.1 - lo.1 + 1 by omega, show hi.2.1 + 1 - lo.2.1 = hi.2.1 - lo.2.1 + 1 by omega, show hi.2.2 + 1 - lo.2.2 = hi.2.2 - lo.2.2 + 1 by omega]
    rw [show (if (if (0 : Int) ≤ 3 then (3 : Int) else 0) = 0 then (1 : Int) else if (if (0 : Int) ≤ 3 then (3 : Int) else 0) = 1 then hi.1 - lo.1 + 1 else if (if (0 : Int) ≤ 3 then (3 : Int) else 0) = 2 then (hi.1 - lo.1 + 1) * (hi.2.1 - lo.2.1 + 1) else (hi.1 - lo.1 + 1) * (hi.2.1 - lo.2.1 + 1) * (hi.2.2 - lo.2.2 + 1)) = (P.length : Int) from by rw [ln, ev]; rfl]
    simp only [To_ok, FT_nx, List.set_cons_succ, List.set_cons_zero, FT_step, FT_nil, evS_asg, evS_ift, evS_ret, evS_exp, ev_or, ev_and, ev_nt, ev_neg, ev_bin, ev_cmp, ev_cal, ev_blt, ev_mth, ev_idx, evs_cons, evs_nil, ev_lit, ev_var, ev_tup, List.getElem?_cons_zero, List.getElem?_cons_succ, ok_bind, FT_fl, FT_rt, asg_nm, asg_tp, asgs_cons, asgs_nil, To_bind, litB_some, truR_bl, ofO_some, bop_add, bop_sub, mkTup, List.length_cons, List.length_nil, LN, Nat.zero_add, Nat.reduceAdd, Nat.reduceLeDiff, Nat.zero_le, if_true, Bool.false_eq_true, if_false, Bool.not_true, Bool.not_false, cop_neb, bne_self_eq_false, alloc, blt_lenC fc, cop_eqi, ci1, ci2, c1, c2, decide_true]
    exact done _

end Lil
/-! Prog k41: the defs of the text in Lil. Written by gen.py. -/
set_option linter.all false
set_option Elab.async false
set_option maxRecDepth 1000000
set_option maxHeartbeats 0
namespace Lil
namespace Law
open PySem PySem.Spec PyProof.Rows L2
theorem lookup_all {p : Str → DV → Prop} : ∀ l : List (Str × DV), (∀ q ∈ l, p q.1 q.2) → ∀ x d, l.lookup x = some d → p x d
  | [], _, _, _, e => by cases e
  | (y, c) :: l, h, x, d, e => by
    rw [List.lookup_cons] at e
    split at e
    · rename_i hx
      cases e
      have := eq_of_beq hx
      subst this
      exact h (_, _) (.head _)
    · exact lookup_all l (fun q hq => h q (.tail _ hq)) x d e
def topS (i : Nat) : Stmt := PySem.Challenge.pw_shopwhole_k41_lots.main.body.getD i (.Pass ⟨0, 0, 0, 0⟩)
def tp : Tp := ⟨[("is_kept" : Str), ("ends_of" : Str), ("rows_made" : Str), ("stretches_made" : Str), ("layers_made" : Str), ("union" : Str), ("union_of" : Str), ("box" : Str), ("boxes_of" : Str), ("of_boxes" : Str), ("moved" : Str), ("swept" : Str), ("cube_at" : Str), ("line_lot" : Str), ("travel_lot" : Str), ("_law_cell_at" : Str), ("_law_draw" : Str), ("_law_number" : Str), ("_law_next" : Str), ("_law_tool" : Str), ("_law_cubes" : Str), ("law" : Str)], [(("AXES" : Str), .tup [.int (0), .int (1), .int (2)])], [121, 140]⟩
def N0 : List Str := [("word" : Str), ("is_in" : Str), ("is_other" : Str)]
def p0 : List Str := [("word" : Str), ("is_in" : Str), ("is_other" : Str)]
def N1 : List Str := [("one" : Str), ("other" : Str), ("found" : Str), ("part" : Str)]
def p1 : List Str := [("one" : Str), ("other" : Str)]
def N2 : List Str := [("one" : Str), ("other" : Str), ("word" : Str), ("found" : Str), ("at" : Str), ("place" : Str), ("ends" : Str), ("low" : Str), ("high" : Str), ("is_in" : Str)]
def p2 : List Str := [("one" : Str), ("other" : Str), ("word" : Str)]
def N3 : List Str := [("one" : Str), ("other" : Str), ("word" : Str), ("inner" : Str), ("found" : Str), ("at" : Str), ("place" : Str), ("ends" : Str), ("low" : Str), ("high" : Str), ("first" : Str), ("second" : Str), ("inside" : Str)]
def p3 : List Str := [("one" : Str), ("other" : Str), ("word" : Str), ("inner" : Str)]
def N4 : List Str := [("one" : Str), ("other" : Str), ("word" : Str)]
def p4 : List Str := [("one" : Str), ("other" : Str), ("word" : Str)]
def N5 : List Str := [("one" : Str), ("other" : Str)]
def p5 : List Str := [("one" : Str), ("other" : Str)]
def N6 : List Str := [("solids" : Str), ("left" : Str), ("pairs" : Str), ("one" : Str), ("other" : Str)]
def p6 : List Str := [("solids" : Str)]
def N7 : List Str := [("corner" : Str), ("other" : Str), ("axis" : Str)]
def p7 : List Str := [("corner" : Str), ("other" : Str)]
def N8 : List Str := [("solid" : Str), ("found" : Str), ("z0" : Str), ("z1" : Str), ("layer" : Str), ("y0" : Str), ("y1" : Str), ("row" : Str), ("x0" : Str), ("x1" : Str)]
def p8 : List Str := [("solid" : Str)]
def N9 : List Str := [("boxes" : Str), ("low" : Str), ("high" : Str)]
def p9 : List Str := [("boxes" : Str)]
def N10 : List Str := [("solid" : Str), ("by" : Str), ("x" : Str), ("y" : Str), ("z" : Str), ("found" : Str), ("z0" : Str), ("z1" : Str), ("layer" : Str), ("rows" : Str), ("x0" : Str), ("x1" : Str), ("y0" : Str), ("y1" : Str), ("row" : Str)]
def p10 : List Str := [("solid" : Str), ("by" : Str)]
def N11 : List Str := [("lot" : Str), ("tool" : Str), ("found" : Str), ("low" : Str), ("high" : Str), ("one" : Str), ("other" : Str), ("start" : Str), ("axis" : Str)]
def p11 : List Str := [("lot" : Str), ("tool" : Str)]
def N12 : List Str := [("standing" : Str), ("one" : Str)]
def p12 : List Str := [("standing" : Str)]
def N13 : List Str := [("start" : Str), ("axis" : Str), ("to" : Str), ("low" : Str), ("high" : Str), ("one" : Str)]
def p13 : List Str := [("start" : Str), ("axis" : Str), ("to" : Str)]
def N14 : List Str := [("machine" : Str), ("low" : Str), ("high" : Str), ("one" : Str)]
def p14 : List Str := [("machine" : Str)]
def N15 : List Str := [("_law_script" : Str), ("_law_k" : Str)]
def p15 : List Str := [("_law_script" : Str), ("_law_k" : Str)]
def N16 : List Str := [("_law_cell" : Str), ("_law_k" : Str), ("_law_bound" : Str), ("_law_primes" : Str)]
def p16 : List Str := [("_law_cell" : Str), ("_law_k" : Str), ("_law_bound" : Str)]
def N17 : List Str := [("_law_cell" : Str), ("_law_k" : Str), ("_law_bound" : Str), ("_law_power" : Str), ("_law_lap" : Str), ("_law_remains" : Str), ("_law_small" : Str)]
def p17 : List Str := [("_law_cell" : Str), ("_law_k" : Str), ("_law_bound" : Str)]
def N18 : List Str := [("_law_draw_here" : Str), ("_law_bound" : Str), ("_law_at" : Str), ("_law_cell" : Str)]
def p18 : List Str := [("_law_draw_here" : Str), ("_law_bound" : Str)]
def N19 : List Str := [("_law_draw_here" : Str), ("_law_name" : Str), ("_law_wide" : Str), ("_law_deep" : Str), ("_law_cutter" : Str), ("_law_low" : Str), ("_law_high" : Str)]
def p19 : List Str := [("_law_draw_here" : Str), ("_law_name" : Str)]
def N20 : List Str := [("_law_solid" : Str), ("_law_found" : Str), ("_law_z0" : Str), ("_law_z1" : Str), ("_law_layer" : Str), ("_law_y0" : Str), ("_law_y1" : Str), ("_law_row" : Str), ("_law_x0" : Str), ("_law_x1" : Str), ("_law_z" : Str), ("_law_y" : Str), ("_law_x" : Str)]
def p20 : List Str := [("_law_solid" : Str)]
def N21 : List Str := [("_law_script" : Str), ("_law_draw_here" : Str), ("_law_name" : Str), ("_law_cutter" : Str), ("_law_holder" : Str), ("_law_rate" : Str), ("_law_turn" : Str), ("_law_start" : Str), ("_law_axis" : Str), ("_law_to" : Str), ("_law_places" : Str), ("_law_number_here" : Str), ("_law_lot" : Str), ("_law_found" : Str), ("_law_place" : Str), ("_law_low" : Str), ("_law_high" : Str), ("_law_cubes_here" : Str), ("_law_many" : Str), ("_law_at" : Str), ("_law_one" : Str)]
def p21 : List Str := [("_law_script" : Str)]
/-- is_kept -/
def b0 : Ss := (.cons (.ift (.cmp .eq (.var 0) (.lit (.str [101, 105, 116, 104, 101, 114]))) (.cons (.ret (.or (.var 1) (.var 2))) .nil) .nil) (.cons (.ret (.ife (.cmp .eq (.var 0) (.lit (.str [98, 111, 116, 104]))) (.and (.var 1) (.var 2)) (.and (.var 1) (.nt (.var 2))))) .nil))
/-- ends_of -/
def b1 : Ss := (.cons (.asg (.pt (.nm 2)) .dnw) (.cons (.fo (.nm 3) (.sq (.lst (.str (.var 0) (.str (.var 1) .nil)))) (.cons (.asg (.tp (.cons (.sub (.var 2) (.idx (.var 3) (.lit (.int (0))))) (.cons (.sub (.var 2) (.idx (.var 3) (.lit (.int (1))))) .nil))) (.tup (.cons (.lit (.bl true)) (.cons (.lit (.bl true)) .nil)))) .nil)) (.cons (.ret (.blt .sorted (.cons (.var 2) .nil))) .nil)))
/-- rows_made -/
def b2 : Ss := (.cons (.par [3, 4, 5] (.cons (.lst .nil) (.cons (.lit (.int (0))) (.cons (.lit (.int (0))) .nil)))) (.cons (.asg (.pt (.nm 6)) (.cal 1 (.cons (.var 0) (.cons (.var 1) .nil)))) (.cons (.fo (.tp (.cons (.nm 7) (.cons (.nm 8) .nil))) (.zp (.var 6) (.slc (.var 6) (.so (.lit (.int (1)))) .no)) (.cons (.wh (.and (.cmp .lt (.var 4) (.blt .len (.cons (.var 0) .nil))) (.cmp .le (.idx (.idx (.var 0) (.var 4)) (.lit (.int (1)))) (.var 7))) (.cons (.aug 4 .add (.lit (.int (1)))) .nil)) (.cons (.wh (.and (.cmp .lt (.var 5) (.blt .len (.cons (.var 1) .nil))) (.cmp .le (.idx (.idx (.var 1) (.var 5)) (.lit (.int (1)))) (.var 7))) (.cons (.aug 5 .add (.lit (.int (1)))) .nil)) (.cons (.asg (.pt (.nm 9)) (.and (.cmp .lt (.var 4) (.blt .len (.cons (.var 0) .nil))) (.cmp .le (.idx (.idx (.var 0) (.var 4)) (.lit (.int (0)))) (.var 7)))) (.cons (.ift (.cal 0 (.cons (.var 2) (.cons (.var 9) (.cons (.and (.cmp .lt (.var 5) (.blt .len (.cons (.var 1) .nil))) (.cmp .le (.idx (.idx (.var 1) (.var 5)) (.lit (.int (0)))) (.var 7))) .nil)))) (.cons (.ift (.and (.cmp .ne (.var 3) (.lst .nil)) (.cmp .eq (.idx (.idx (.var 3) (.neg (.lit (.int (1))))) (.lit (.int (1)))) (.var 7))) (.cons (.asg (.sub (.var 3) (.neg (.lit (.int (1))))) (.tup (.cons (.idx (.idx (.var 3) (.neg (.lit (.int (1))))) (.lit (.int (0)))) (.cons (.var 8) .nil)))) .nil) (.cons (.exp (.mth .append (.var 3) (.cons (.tup (.cons (.var 7) (.cons (.var 8) .nil))) .nil))) .nil)) .nil) .nil) .nil))))) (.cons (.ret (.blt .tuple (.cons (.var 3) .nil))) .nil))))
/-- stretches_made -/
def b3 : Ss := (.cons (.par [4, 5, 6] (.cons (.lst .nil) (.cons (.lit (.int (0))) (.cons (.lit (.int (0))) .nil)))) (.cons (.asg (.pt (.nm 7)) (.cal 1 (.cons (.var 0) (.cons (.var 1) .nil)))) (.cons (.fo (.tp (.cons (.nm 8) (.cons (.nm 9) .nil))) (.zp (.var 7) (.slc (.var 7) (.so (.lit (.int (1)))) .no)) (.cons (.wh (.and (.cmp .lt (.var 5) (.blt .len (.cons (.var 0) .nil))) (.cmp .le (.idx (.idx (.var 0) (.var 5)) (.lit (.int (1)))) (.var 8))) (.cons (.aug 5 .add (.lit (.int (1)))) .nil)) (.cons (.wh (.and (.cmp .lt (.var 6) (.blt .len (.cons (.var 1) .nil))) (.cmp .le (.idx (.idx (.var 1) (.var 6)) (.lit (.int (1)))) (.var 8))) (.cons (.aug 6 .add (.lit (.int (1)))) .nil)) (.cons (.asg (.pt (.nm 10)) (.ife (.and (.cmp .lt (.var 5) (.blt .len (.cons (.var 0) .nil))) (.cmp .le (.idx (.idx (.var 0) (.var 5)) (.lit (.int (0)))) (.var 8))) (.idx (.idx (.var 0) (.var 5)) (.lit (.int (2)))) (.tup .nil))) (.cons (.asg (.pt (.nm 11)) (.ife (.and (.cmp .lt (.var 6) (.blt .len (.cons (.var 1) .nil))) (.cmp .le (.idx (.idx (.var 1) (.var 6)) (.lit (.int (0)))) (.var 8))) (.idx (.idx (.var 1) (.var 6)) (.lit (.int (2)))) (.tup .nil))) (.cons (.asg (.pt (.nm 12)) (.cav 3 (.cons (.var 10) (.cons (.var 11) (.cons (.var 2) .nil))))) (.cons (.ift (.cmp .ne (.var 12) (.tup .nil)) (.cons (.ift (.and (.cmp .ne (.var 4) (.lst .nil)) (.and (.cmp .eq (.idx (.idx (.var 4) (.neg (.lit (.int (1))))) (.lit (.int (1)))) (.var 8)) (.cmp .eq (.idx (.idx (.var 4) (.neg (.lit (.int (1))))) (.lit (.int (2)))) (.var 12)))) (.cons (.asg (.sub (.var 4) (.neg (.lit (.int (1))))) (.tup (.cons (.idx (.idx (.var 4) (.neg (.lit (.int (1))))) (.lit (.int (0)))) (.cons (.var 9) (.cons (.var 12) .nil))))) .nil) (.cons (.exp (.mth .append (.var 4) (.cons (.tup (.cons (.var 8) (.cons (.var 9) (.cons (.var 12) .nil)))) .nil))) .nil)) .nil) .nil) .nil))))))) (.cons (.ret (.blt .tuple (.cons (.var 4) .nil))) .nil))))
/-- layers_made -/
def b4 : Ss := (.cons (.ret (.cal 3 (.cons (.var 0) (.cons (.var 1) (.cons (.var 2) (.cons (.lit (.fn 2)) .nil)))))) .nil)
/-- union -/
def b5 : Ss := (.cons (.ret (.cal 3 (.cons (.var 0) (.cons (.var 1) (.cons (.lit (.str [101, 105, 116, 104, 101, 114])) (.cons (.lit (.fn 4)) .nil)))))) .nil)
/-- union_of -/
def b6 : Ss := (.cons (.asg (.pt (.nm 1)) (.blt .list (.cons (.var 0) .nil))) (.cons (.wh (.cmp .gt (.blt .len (.cons (.var 1) .nil)) (.lit (.int (1)))) (.cons (.asg (.pt (.nm 2)) (.lc (.cal 5 (.cons (.var 3) (.cons (.var 4) .nil))) (.tp (.cons (.nm 3) (.cons (.nm 4) .nil))) (.zp (.stp (.var 1) 0) (.stp (.var 1) 1)) .no [3, 4])) (.cons (.asg (.pt (.nm 1)) (.bin .add (.var 2) (.slc (.var 1) (.so (.bin .mul (.bin .fdiv (.blt .len (.cons (.var 1) .nil)) (.lit (.int (2)))) (.lit (.int (2))))) .no))) .nil))) (.cons (.ret (.ife (.cmp .ne (.var 1) (.lst .nil)) (.idx (.var 1) (.lit (.int (0)))) (.tup .nil))) .nil)))
/-- box -/
def b7 : Ss := (.cons (.ift (.nt (.blt .all (.cons (.lc (.cmp .lt (.idx (.var 0) (.var 2)) (.idx (.var 1) (.var 2))) (.nm 2) (.sq (.lit (.tup [.int (0), .int (1), .int (2)]))) .no [2]) .nil))) (.cons (.ret (.tup .nil)) .nil) .nil) (.cons (.ret (.tup (.cons (.tup (.cons (.idx (.var 0) (.lit (.int (2)))) (.cons (.idx (.var 1) (.lit (.int (2)))) (.cons (.tup (.cons (.tup (.cons (.idx (.var 0) (.lit (.int (1)))) (.cons (.idx (.var 1) (.lit (.int (1)))) (.cons (.tup (.cons (.tup (.cons (.idx (.var 0) (.lit (.int (0)))) (.cons (.idx (.var 1) (.lit (.int (0)))) .nil))) .nil)) .nil)))) .nil)) .nil)))) .nil))) .nil))
/-- boxes_of -/
def b8 : Ss := (.cons (.asg (.pt (.nm 1)) (.lst .nil)) (.cons (.fo (.tp (.cons (.nm 2) (.cons (.nm 3) (.cons (.nm 4) .nil)))) (.sq (.var 0)) (.cons (.fo (.tp (.cons (.nm 5) (.cons (.nm 6) (.cons (.nm 7) .nil)))) (.sq (.var 4)) (.cons (.exp (.mth .extend (.var 1) (.cons (.lc (.tup (.cons (.tup (.cons (.var 8) (.cons (.var 5) (.cons (.var 2) .nil)))) (.cons (.tup (.cons (.var 9) (.cons (.var 6) (.cons (.var 3) .nil)))) .nil))) (.tp (.cons (.nm 8) (.cons (.nm 9) .nil))) (.sq (.var 7)) .no [8, 9]) .nil))) .nil)) .nil)) (.cons (.ret (.var 1)) .nil)))
/-- of_boxes -/
def b9 : Ss := (.cons (.ret (.cal 6 (.cons (.lc (.cal 7 (.cons (.var 1) (.cons (.var 2) .nil))) (.tp (.cons (.nm 1) (.cons (.nm 2) .nil))) (.sq (.var 0)) .no [1, 2]) .nil))) .nil)
/-- moved -/
def b10 : Ss := (.cons (.asg (.tp (.cons (.pt (.nm 2)) (.cons (.pt (.nm 3)) (.cons (.pt (.nm 4)) .nil)))) (.var 1)) (.cons (.asg (.pt (.nm 5)) (.lst .nil)) (.cons (.fo (.tp (.cons (.nm 6) (.cons (.nm 7) (.cons (.nm 8) .nil)))) (.sq (.var 0)) (.cons (.asg (.pt (.nm 9)) (.blt .tuple (.cons (.lc (.tup (.cons (.bin .add (.var 12) (.var 3)) (.cons (.bin .add (.var 13) (.var 3)) (.cons (.blt .tuple (.cons (.lc (.tup (.cons (.bin .add (.var 10) (.var 2)) (.cons (.bin .add (.var 11) (.var 2)) .nil))) (.tp (.cons (.nm 10) (.cons (.nm 11) .nil))) (.sq (.var 14)) .no [10, 11]) .nil)) .nil)))) (.tp (.cons (.nm 12) (.cons (.nm 13) (.cons (.nm 14) .nil)))) (.sq (.var 8)) .no [12, 13, 14]) .nil))) (.cons (.exp (.mth .append (.var 5) (.cons (.tup (.cons (.bin .add (.var 6) (.var 4)) (.cons (.bin .add (.var 7) (.var 4)) (.cons (.var 9) .nil)))) .nil))) .nil))) (.cons (.ret (.blt .tuple (.cons (.var 5) .nil))) .nil))))
/-- swept -/
def b11 : Ss := (.cons (.asg (.pt (.nm 2)) (.lst .nil)) (.cons (.fo (.tp (.cons (.nm 3) (.cons (.nm 4) .nil))) (.sq (.cal 8 (.cons (.var 0) .nil))) (.cons (.fo (.tp (.cons (.nm 5) (.cons (.nm 6) .nil))) (.sq (.cal 8 (.cons (.var 1) .nil))) (.cons (.asg (.pt (.nm 7)) (.blt .tuple (.cons (.lc (.bin .add (.idx (.var 3) (.var 8)) (.idx (.var 5) (.var 8))) (.nm 8) (.sq (.lit (.tup [.int (0), .int (1), .int (2)]))) .no [8]) .nil))) (.cons (.exp (.mth .append (.var 2) (.cons (.tup (.cons (.var 7) (.cons (.blt .tuple (.cons (.lc (.bin .add (.bin .sub (.idx (.var 4) (.var 8)) (.lit (.int (1)))) (.idx (.var 6) (.var 8))) (.nm 8) (.sq (.lit (.tup [.int (0), .int (1), .int (2)]))) .no [8]) .nil)) .nil))) .nil))) .nil))) .nil)) (.cons (.ret (.cal 9 (.cons (.var 2) .nil))) .nil)))
/-- cube_at -/
def b12 : Ss := (.cons (.ret (.cal 7 (.cons (.var 0) (.cons (.blt .tuple (.cons (.lc (.bin .add (.var 1) (.lit (.int (1)))) (.nm 1) (.sq (.var 0)) .no [1]) .nil)) .nil)))) .nil)
/-- line_lot -/
def b13 : Ss := (.cons (.par [3, 4] (.cons (.blt .list (.cons (.var 0) .nil)) (.cons (.lc (.bin .add (.var 5) (.lit (.int (1)))) (.nm 5) (.sq (.var 0)) .no [5]) .nil))) (.cons (.asg (.sub (.var 3) (.var 1)) (.blt .min (.cons (.lst (.cons (.idx (.var 0) (.var 1)) (.cons (.var 2) .nil))) .nil))) (.cons (.asg (.sub (.var 4) (.var 1)) (.bin .add (.blt .max (.cons (.lst (.cons (.idx (.var 0) (.var 1)) (.cons (.var 2) .nil))) .nil)) (.lit (.int (1))))) (.cons (.ret (.cal 7 (.cons (.blt .tuple (.cons (.var 3) .nil)) (.cons (.blt .tuple (.cons (.var 4) .nil)) .nil)))) .nil))))
/-- travel_lot -/
def b14 : Ss := (.cons (.asg (.tp (.cons (.pt (.nm 1)) (.cons (.pt (.nm 2)) .nil))) (.slc (.var 0) .no (.so (.lit (.int (2)))))) (.cons (.ret (.cal 7 (.cons (.var 1) (.cons (.blt .tuple (.cons (.lc (.bin .add (.var 3) (.lit (.int (1)))) (.nm 3) (.sq (.var 2)) .no [3]) .nil)) .nil)))) .nil))
/-- _law_cell_at -/
def b15 : Ss := (.cons (.ift (.cmp .lt (.var 1) (.blt .len (.cons (.var 0) .nil))) (.cons (.ret (.idx (.var 0) (.var 1))) .nil) .nil) (.cons (.ret (.lit (.int (0)))) .nil))
/-- _law_draw -/
def b16 : Ss := (.cons (.asg (.pt (.nm 3)) (.tup (.cons (.lit (.int (1000003))) (.cons (.lit (.int (1000033))) (.cons (.lit (.int (1000037))) (.cons (.lit (.int (1000039))) (.cons (.lit (.int (1000081))) (.cons (.lit (.int (1000099))) (.cons (.lit (.int (1000117))) (.cons (.lit (.int (1000121))) (.cons (.lit (.int (1000133))) (.cons (.lit (.int (1000151))) (.cons (.lit (.int (1000159))) (.cons (.lit (.int (1000171))) (.cons (.lit (.int (1000183))) (.cons (.lit (.int (1000187))) (.cons (.lit (.int (1000193))) (.cons (.lit (.int (1000199))) .nil)))))))))))))))))) (.cons (.ret (.bin .mod (.bin .mod (.blt .int (.cons (.bin .add (.bin .mul (.var 0) (.lit (.int (48271)))) (.bin .mul (.var 1) (.lit (.int (69621))))) .nil)) (.idx (.var 3) (.bin .mod (.blt .int (.cons (.var 1) .nil)) (.lit (.int (16)))))) (.var 2))) .nil))
/-- _law_number -/
def b17 : Ss := (.cons (.asg (.pt (.nm 3)) (.lit (.int (1)))) (.cons (.fo (.nm 4) (.r1 (.bin .mod (.blt .int (.cons (.var 1) .nil)) (.lit (.int (24))))) (.cons (.asg (.pt (.nm 3)) (.bin .mul (.var 3) (.lit (.int (1009))))) .nil)) (.cons (.asg (.pt (.nm 5)) (.bin .fdiv (.bin .sub (.var 0) (.bin .pow (.lit (.int (10))) (.lit (.int (18))))) (.var 3))) (.cons (.ift (.cmp .gt (.var 5) (.lit (.int (0)))) (.cons (.ret (.bin .mod (.bin .mod (.blt .int (.cons (.var 5) .nil)) (.lit (.int (1009)))) (.var 2))) .nil) .nil) (.cons (.asg (.pt (.nm 6)) (.bin .mod (.blt .int (.cons (.var 0) .nil)) (.lit (.int (1000003))))) (.cons (.ret (.bin .mod (.cal 16 (.cons (.bin .mul (.bin .add (.var 6) (.bin .mul (.lit (.int (977))) (.var 1))) (.bin .add (.bin .add (.var 6) (.bin .mul (.lit (.int (31))) (.var 1))) (.lit (.int (5))))) (.cons (.bin .add (.bin .mod (.blt .int (.cons (.var 1) .nil)) (.lit (.int (9)))) (.lit (.int (1)))) (.cons (.lit (.int (999983))) .nil)))) (.var 2))) .nil))))))
/-- _law_next -/
def b18 : Ss := (.cons (.asg (.sub (.var 0) (.lit (.int (2)))) (.bin .add (.idx (.var 0) (.lit (.int (2)))) (.lit (.int (1))))) (.cons (.asg (.pt (.nm 2)) (.bin .fdiv (.idx (.var 0) (.lit (.int (2)))) (.lit (.int (12))))) (.cons (.asg (.pt (.nm 3)) (.bin .add (.cal 15 (.cons (.idx (.var 0) (.lit (.int (0)))) (.cons (.bin .add (.idx (.var 0) (.lit (.int (1)))) (.var 2)) .nil))) (.bin .mul (.lit (.int (31))) (.var 2)))) (.cons (.ret (.cal 17 (.cons (.var 3) (.cons (.bin .add (.bin .mod (.blt .int (.cons (.idx (.var 0) (.lit (.int (2)))) .nil)) (.lit (.int (12)))) (.lit (.int (1)))) (.cons (.var 1) .nil))))) .nil))))
/-- _law_tool -/
def b19 : Ss := (.cons (.par [2, 3] (.cons (.bin .add (.lit (.int (1))) (.cal 18 (.cons (.var 0) (.cons (.lit (.int (2))) .nil)))) (.cons (.bin .add (.lit (.int (1))) (.cal 18 (.cons (.var 0) (.cons (.lit (.int (2))) .nil)))) .nil))) (.cons (.asg (.pt (.nm 4)) (.cal 7 (.cons (.tup (.cons (.lit (.int (0))) (.cons (.lit (.int (0))) (.cons (.lit (.int (0))) .nil)))) (.cons (.tup (.cons (.var 2) (.cons (.bin .add (.lit (.int (1))) (.cal 18 (.cons (.var 0) (.cons (.lit (.int (2))) .nil)))) (.cons (.var 3) .nil)))) .nil)))) (.cons (.ift (.cmp .eq (.cal 18 (.cons (.var 0) (.cons (.lit (.int (4))) .nil))) (.lit (.int (0)))) (.cons (.asg (.pt (.nm 4)) (.cal 5 (.cons (.var 4) (.cons (.cal 7 (.cons (.tup (.cons (.neg (.lit (.int (1)))) (.cons (.lit (.int (0))) (.cons (.lit (.int (0))) .nil)))) (.cons (.tup (.cons (.bin .add (.var 2) (.lit (.int (1)))) (.cons (.lit (.int (1))) (.cons (.lit (.int (1))) .nil)))) .nil))) .nil)))) .nil) .nil) (.cons (.par [5, 6] (.cons (.tup (.cons (.neg (.cal 18 (.cons (.var 0) (.cons (.lit (.int (2))) .nil)))) (.cons (.neg (.cal 18 (.cons (.var 0) (.cons (.lit (.int (2))) .nil)))) (.cons (.var 3) .nil)))) (.cons (.tup (.cons (.bin .add (.var 2) (.cal 18 (.cons (.var 0) (.cons (.lit (.int (2))) .nil)))) (.cons (.bin .add (.lit (.int (2))) (.cal 18 (.cons (.var 0) (.cons (.lit (.int (2))) .nil)))) (.cons (.bin .add (.var 3) (.lit (.int (2)))) .nil)))) .nil))) (.cons (.ret (.tup (.cons (.var 1) (.cons (.var 4) (.cons (.ife (.cmp .gt (.cal 18 (.cons (.var 0) (.cons (.lit (.int (3))) .nil))) (.lit (.int (0)))) (.cal 7 (.cons (.var 5) (.cons (.var 6) .nil))) (.tup .nil)) (.cons (.bin .add (.lit (.int (1))) (.cal 18 (.cons (.var 0) (.cons (.lit (.int (5))) .nil)))) .nil)))))) .nil)))))
/-- _law_cubes -/
def b20 : Ss := (.cons (.asg (.pt (.nm 1)) .dnt) (.cons (.fo (.tp (.cons (.nm 2) (.cons (.nm 3) (.cons (.nm 4) .nil)))) (.sq (.var 0)) (.cons (.fo (.tp (.cons (.nm 5) (.cons (.nm 6) (.cons (.nm 7) .nil)))) (.sq (.var 4)) (.cons (.fo (.tp (.cons (.nm 8) (.cons (.nm 9) .nil))) (.sq (.var 7)) (.cons (.fo (.nm 10) (.r2 (.var 2) (.var 3)) (.cons (.fo (.nm 11) (.r2 (.var 5) (.var 6)) (.cons (.fo (.nm 12) (.r2 (.var 8) (.var 9)) (.cons (.asg (.sub (.var 1) (.tup (.cons (.var 12) (.cons (.var 11) (.cons (.var 10) .nil))))) (.lit (.bl true))) .nil)) .nil)) .nil)) .nil)) .nil)) .nil)) (.cons (.ret (.var 1)) .nil)))
/-- law -/
def b21 : Ss := (.cons (.asg (.pt (.nm 1)) (.lst (.cons (.slc (.var 0) .no (.so (.lit (.int (63))))) (.cons (.lit (.int (0))) (.cons (.lit (.int (0))) .nil))))) (.cons (.asg (.tp (.cons (.pt (.nm 2)) (.cons (.pt (.nm 3)) (.cons (.pt (.nm 4)) (.cons (.pt (.nm 5)) .nil))))) (.cal 19 (.cons (.var 1) (.cons (.lit (.str [116])) .nil)))) (.cons (.fo (.nm 6) (.r1 (.lit (.int (3)))) (.cons (.asg (.pt (.nm 7)) (.blt .tuple (.cons (.lc (.bin .sub (.cal 18 (.cons (.var 1) (.cons (.lit (.int (9))) .nil))) (.lit (.int (4)))) (.nm 8) (.r1 (.lit (.int (3)))) .no [8]) .nil))) (.cons (.asg (.tp (.cons (.pt (.nm 8)) (.cons (.pt (.nm 9)) .nil))) (.tup (.cons (.cal 18 (.cons (.var 1) (.cons (.lit (.int (3))) .nil))) (.cons (.bin .sub (.cal 18 (.cons (.var 1) (.cons (.lit (.int (9))) .nil))) (.lit (.int (4)))) .nil)))) (.cons (.asg (.pt (.nm 10)) (.lst .nil)) (.cons (.fo (.nm 11) (.r2 (.blt .min (.cons (.lst (.cons (.var 9) (.cons (.idx (.var 7) (.var 8)) .nil))) .nil)) (.bin .add (.blt .max (.cons (.lst (.cons (.var 9) (.cons (.idx (.var 7) (.var 8)) .nil))) .nil)) (.lit (.int (1))))) (.cons (.exp (.mth .append (.var 10) (.cons (.blt .tuple (.cons (.lc (.ife (.cmp .eq (.var 19) (.var 8)) (.var 11) (.var 20)) (.tp (.cons (.nm 19) (.cons (.nm 20) .nil))) (.en (.var 7)) .no [19, 20]) .nil)) .nil))) .nil)) (.cons (.asg (.pt (.nm 12)) (.cal 13 (.cons (.var 7) (.cons (.var 8) (.cons (.var 9) .nil))))) (.cons (.ift (.or (.cmp .ne (.blt .sorted (.cons (.cal 20 (.cons (.var 12) .nil)) .nil)) (.blt .sorted (.cons (.var 10) .nil))) (.cmp .ne (.cal 20 (.cons (.cal 12 (.cons (.var 7) .nil)) .nil)) (.ds1 true (.var 7) (.lit (.bl true))))) (.cons (.ret (.lit (.bl false))) .nil) .nil) (.cons (.asg (.pt (.nm 13)) (.tup .nil)) (.cons (.fo (.nm 14) (.sq (.var 10)) (.cons (.asg (.pt (.nm 13)) (.cal 5 (.cons (.var 13) (.cons (.cal 10 (.cons (.var 3) (.cons (.var 14) .nil))) .nil)))) .nil)) (.cons (.ift (.cmp .ne (.cal 11 (.cons (.var 12) (.cons (.var 3) .nil))) (.var 13)) (.cons (.ret (.lit (.bl false))) .nil) .nil) .nil)))))))))) (.cons (.asg (.pt (.nm 15)) (.blt .tuple (.cons (.lc (.bin .sub (.cal 18 (.cons (.var 1) (.cons (.lit (.int (5))) .nil))) (.lit (.int (4)))) (.nm 8) (.r1 (.lit (.int (3)))) .no [8]) .nil))) (.cons (.asg (.pt (.nm 16)) (.blt .tuple (.cons (.lc (.bin .add (.var 20) (.cal 18 (.cons (.var 1) (.cons (.lit (.int (3))) .nil)))) (.nm 20) (.sq (.var 15)) .no [20]) .nil))) (.cons (.asg (.pt (.nm 17)) (.cal 20 (.cons (.cal 14 (.cons (.tup (.cons (.var 15) (.cons (.var 16) (.cons (.var 15) (.cons (.lit (.int (1))) (.cons (.lit (.int (1))) (.cons (.lit (.int (1))) .nil))))))) .nil)) .nil))) (.cons (.asg (.pt (.nm 18)) (.lit (.int (1)))) (.cons (.fo (.nm 8) (.r1 (.lit (.int (3)))) (.cons (.asg (.pt (.nm 18)) (.bin .mul (.var 18) (.bin .add (.bin .sub (.idx (.var 16) (.var 8)) (.idx (.var 15) (.var 8))) (.lit (.int (1)))))) .nil)) (.cons (.ret (.and (.cmp .eq (.blt .len (.cons (.var 17) .nil)) (.var 18)) (.and (.cmp .inn (.var 15) (.var 17)) (.cmp .inn (.var 16) (.var 17))))) .nil)))))))))
def P : List FD := [⟨3, 3, b0⟩, ⟨2, 4, b1⟩, ⟨3, 10, b2⟩, ⟨4, 13, b3⟩, ⟨3, 3, b4⟩, ⟨2, 2, b5⟩, ⟨1, 5, b6⟩, ⟨2, 3, b7⟩, ⟨1, 10, b8⟩, ⟨1, 3, b9⟩, ⟨2, 15, b10⟩, ⟨2, 9, b11⟩, ⟨1, 2, b12⟩, ⟨3, 6, b13⟩, ⟨1, 4, b14⟩, ⟨2, 2, b15⟩, ⟨3, 4, b16⟩, ⟨3, 7, b17⟩, ⟨2, 4, b18⟩, ⟨2, 7, b19⟩, ⟨1, 13, b20⟩, ⟨1, 21, b21⟩]
theorem sc0 : FnScope N0 p0 (defScope (topS 2)) := ⟨rfl, rfl, rfl, by decide +kernel, rfl, by decide +kernel, by decide +kernel⟩
theorem tr0 : trB 60 ⟨N0, defScope (topS 2), tp, none⟩ (defBody (topS 2)) = some b0 := by kernel_rfl
theorem sc1 : FnScope N1 p1 (defScope (topS 3)) := ⟨rfl, rfl, rfl, by decide +kernel, rfl, by decide +kernel, by decide +kernel⟩
theorem tr1 : trB 60 ⟨N1, defScope (topS 3), tp, none⟩ (defBody (topS 3)) = some b1 := by kernel_rfl
theorem sc2 : FnScope N2 p2 (defScope (topS 4)) := ⟨rfl, rfl, rfl, by decide +kernel, rfl, by decide +kernel, by decide +kernel⟩
theorem tr2 : trB 60 ⟨N2, defScope (topS 4), tp, none⟩ (defBody (topS 4)) = some b2 := by kernel_rfl
theorem sc3 : FnScope N3 p3 (defScope (topS 5)) := ⟨rfl, rfl, rfl, by decide +kernel, rfl, by decide +kernel, by decide +kernel⟩
theorem tr3 : trB 60 ⟨N3, defScope (topS 5), tp, none⟩ (defBody (topS 5)) = some b3 := by kernel_rfl
theorem sc4 : FnScope N4 p4 (defScope (topS 6)) := ⟨rfl, rfl, rfl, by decide +kernel, rfl, by decide +kernel, by decide +kernel⟩
theorem tr4 : trB 60 ⟨N4, defScope (topS 6), tp, none⟩ (defBody (topS 6)) = some b4 := by kernel_rfl
theorem sc5 : FnScope N5 p5 (defScope (topS 7)) := ⟨rfl, rfl, rfl, by decide +kernel, rfl, by decide +kernel, by decide +kernel⟩
theorem tr5 : trB 60 ⟨N5, defScope (topS 7), tp, none⟩ (defBody (topS 7)) = some b5 := by kernel_rfl
theorem sc6 : FnScope N6 p6 (defScope (topS 8)) := ⟨rfl, rfl, rfl, by decide +kernel, rfl, by decide +kernel, by decide +kernel⟩
theorem tr6 : trB 60 ⟨N6, defScope (topS 8), tp, none⟩ (defBody (topS 8)) = some b6 := by kernel_rfl
theorem sc7 : FnScope N7 p7 (defScope (topS 9)) := ⟨rfl, rfl, rfl, by decide +kernel, rfl, by decide +kernel, by decide +kernel⟩
theorem tr7 : trB 60 ⟨N7, defScope (topS 9), tp, none⟩ (defBody (topS 9)) = some b7 := by kernel_rfl
theorem sc8 : FnScope N8 p8 (defScope (topS 10)) := ⟨rfl, rfl, rfl, by decide +kernel, rfl, by decide +kernel, by decide +kernel⟩
theorem tr8 : trB 60 ⟨N8, defScope (topS 10), tp, none⟩ (defBody (topS 10)) = some b8 := by kernel_rfl
theorem sc9 : FnScope N9 p9 (defScope (topS 11)) := ⟨rfl, rfl, rfl, by decide +kernel, rfl, by decide +kernel, by decide +kernel⟩
theorem tr9 : trB 60 ⟨N9, defScope (topS 11), tp, none⟩ (defBody (topS 11)) = some b9 := by kernel_rfl
theorem sc10 : FnScope N10 p10 (defScope (topS 12)) := ⟨rfl, rfl, rfl, by decide +kernel, rfl, by decide +kernel, by decide +kernel⟩
theorem tr10 : trB 60 ⟨N10, defScope (topS 12), tp, none⟩ (defBody (topS 12)) = some b10 := by kernel_rfl
theorem sc11 : FnScope N11 p11 (defScope (topS 13)) := ⟨rfl, rfl, rfl, by decide +kernel, rfl, by decide +kernel, by decide +kernel⟩
theorem tr11 : trB 60 ⟨N11, defScope (topS 13), tp, none⟩ (defBody (topS 13)) = some b11 := by kernel_rfl
theorem sc12 : FnScope N12 p12 (defScope (topS 15)) := ⟨rfl, rfl, rfl, by decide +kernel, rfl, by decide +kernel, by decide +kernel⟩
theorem tr12 : trB 60 ⟨N12, defScope (topS 15), tp, none⟩ (defBody (topS 15)) = some b12 := by kernel_rfl
theorem sc13 : FnScope N13 p13 (defScope (topS 16)) := ⟨rfl, rfl, rfl, by decide +kernel, rfl, by decide +kernel, by decide +kernel⟩
theorem tr13 : trB 60 ⟨N13, defScope (topS 16), tp, none⟩ (defBody (topS 16)) = some b13 := by kernel_rfl
theorem sc14 : FnScope N14 p14 (defScope (topS 17)) := ⟨rfl, rfl, rfl, by decide +kernel, rfl, by decide +kernel, by decide +kernel⟩
theorem tr14 : trB 60 ⟨N14, defScope (topS 17), tp, none⟩ (defBody (topS 17)) = some b14 := by kernel_rfl
theorem sc15 : FnScope N15 p15 (defScope (topS 19)) := ⟨rfl, rfl, rfl, by decide +kernel, rfl, by decide +kernel, by decide +kernel⟩
theorem tr15 : trB 60 ⟨N15, defScope (topS 19), tp, none⟩ (defBody (topS 19)) = some b15 := by kernel_rfl
theorem sc16 : FnScope N16 p16 (defScope (topS 20)) := ⟨rfl, rfl, rfl, by decide +kernel, rfl, by decide +kernel, by decide +kernel⟩
theorem tr16 : trB 60 ⟨N16, defScope (topS 20), tp, none⟩ (defBody (topS 20)) = some b16 := by kernel_rfl
theorem sc17 : FnScope N17 p17 (defScope (topS 21)) := ⟨rfl, rfl, rfl, by decide +kernel, rfl, by decide +kernel, by decide +kernel⟩
theorem tr17 : trB 60 ⟨N17, defScope (topS 21), tp, none⟩ (defBody (topS 21)) = some b17 := by kernel_rfl
theorem sc18 : FnScope N18 p18 (defScope (topS 22)) := ⟨rfl, rfl, rfl, by decide +kernel, rfl, by decide +kernel, by decide +kernel⟩
theorem tr18 : trB 60 ⟨N18, defScope (topS 22), tp, none⟩ (defBody (topS 22)) = some b18 := by kernel_rfl
theorem sc19 : FnScope N19 p19 (defScope (topS 23)) := ⟨rfl, rfl, rfl, by decide +kernel, rfl, by decide +kernel, by decide +kernel⟩
theorem tr19 : trB 60 ⟨N19, defScope (topS 23), tp, none⟩ (defBody (topS 23)) = some b19 := by kernel_rfl
theorem sc20 : FnScope N20 p20 (defScope (topS 24)) := ⟨rfl, rfl, rfl, by decide +kernel, rfl, by decide +kernel, by decide +kernel⟩
theorem tr20 : trB 60 ⟨N20, defScope (topS 24), tp, none⟩ (defBody (topS 24)) = some b20 := by kernel_rfl
theorem sc21 : FnScope N21 p21 (defScope (topS 25)) := ⟨rfl, rfl, rfl, by decide +kernel, rfl, by decide +kernel, by decide +kernel⟩
theorem tr21 : trB 60 ⟨N21, defScope (topS 25), tp, none⟩ (defBody (topS 25)) = some b21 := by kernel_rfl
theorem all_mk {l : PySem.W.OpenLaw} {w : World} {K : PySem.W.Frag} {h : Heap} {mg : Str → Option Value} {fa0 : Addr} {k : Nat} (X : K.In h) (G : h.Ns mainGlobals mg) (hfa : mg "law" = some (.ref fa0))
    {f0 f1 f2 f3 f4 f5 f6 f7 f8 f9 f10 f11 f12 f13 f14 f15 f16 f17 f18 f19 f20 f21 : Addr} {od0 od1 od2 od3 od4 od5 od6 od7 od8 od9 od10 od11 od12 od13 od14 od15 od16 od17 od18 od19 od20 od21 an0 an1 an2 an3 an4 an5 an6 an7 an8 an9 an10 an11 an12 an13 an14 an15 an16 an17 an18 an19 an20 an21 : Option Addr} {sl0 sl1 sl2 sl3 sl4 sl5 sl6 sl7 sl8 sl9 sl10 sl11 sl12 sl13 sl14 sl15 sl16 sl17 sl18 sl19 sl20 sl21 : Array (Option Value)} {oc0 oc1 oc2 oc3 oc4 oc5 oc6 oc7 oc8 oc9 oc10 oc11 oc12 oc13 oc14 oc15 oc16 oc17 oc18 oc19 oc20 oc21 kV0 kV1 kV2 kV3 kV4 kV5 kV6 kV7 kV8 kV9 kV10 kV11 kV12 kV13 kV14 kV15 kV16 kV17 kV18 kV19 kV20 kV21 dc0 dc1 dc2 dc3 dc4 dc5 dc6 dc7 dc8 dc9 dc10 dc11 dc12 dc13 dc14 dc15 dc16 dc17 dc18 dc19 dc20 dc21 pm0 pm1 pm2 pm3 pm4 pm5 pm6 pm7 pm8 pm9 pm10 pm11 pm12 pm13 pm14 pm15 pm16 pm17 pm18 pm19 pm20 pm21 cd0 cd1 cd2 cd3 cd4 cd5 cd6 cd7 cd8 cd9 cd10 cd11 cd12 cd13 cd14 cd15 cd16 cd17 cd18 cd19 cd20 cd21 ct0 ct1 ct2 ct3 ct4 ct5 ct6 ct7 ct8 ct9 ct10 ct11 ct12 ct13 ct14 ct15 ct16 ct17 ct18 ct19 ct20 ct21 : Value}
    {g0 : Addr} {gd0 : Option Addr} {gs0 : Array (Option Value)} {gn0 : Nat} {gt0_0 gt0_1 gt0_2 : Tok}
    (a0 : PySem.W.nsIn K mainGlobals ("is_kept" : Str) = some (some (.ref f0))) (l0 : K.lookup f0 = some ⟨oc0, od0, .func (PySem.W.fnOf ("is_kept" : Str) ("is_kept" : Str) (defArgs (topS 2)) (defBody (topS 2)) (defScope (topS 2)) .none kV0 dc0 pm0 an0 cd0 ct0), sl0⟩) (c0 : PySem.W.codeIn K cd0 ("is_kept" : Str) = true) (k0 : PySem.W.keepIn K (.ref f0) = true)
    (a1 : PySem.W.nsIn K mainGlobals ("ends_of" : Str) = some (some (.ref f1))) (l1 : K.lookup f1 = some ⟨oc1, od1, .func (PySem.W.fnOf ("ends_of" : Str) ("ends_of" : Str) (defArgs (topS 3)) (defBody (topS 3)) (defScope (topS 3)) .none kV1 dc1 pm1 an1 cd1 ct1), sl1⟩) (c1 : PySem.W.codeIn K cd1 ("ends_of" : Str) = true) (k1 : PySem.W.keepIn K (.ref f1) = true)
    (a2 : PySem.W.nsIn K mainGlobals ("rows_made" : Str) = some (some (.ref f2))) (l2 : K.lookup f2 = some ⟨oc2, od2, .func (PySem.W.fnOf ("rows_made" : Str) ("rows_made" : Str) (defArgs (topS 4)) (defBody (topS 4)) (defScope (topS 4)) .none kV2 dc2 pm2 an2 cd2 ct2), sl2⟩) (c2 : PySem.W.codeIn K cd2 ("rows_made" : Str) = true) (k2 : PySem.W.keepIn K (.ref f2) = true)
    (a3 : PySem.W.nsIn K mainGlobals ("stretches_made" : Str) = some (some (.ref f3))) (l3 : K.lookup f3 = some ⟨oc3, od3, .func (PySem.W.fnOf ("stretches_made" : Str) ("stretches_made" : Str) (defArgs (topS 5)) (defBody (topS 5)) (defScope (topS 5)) .none kV3 dc3 pm3 an3 cd3 ct3), sl3⟩) (c3 : PySem.W.codeIn K cd3 ("stretches_made" : Str) = true) (k3 : PySem.W.keepIn K (.ref f3) = true)
    (a4 : PySem.W.nsIn K mainGlobals ("layers_made" : Str) = some (some (.ref f4))) (l4 : K.lookup f4 = some ⟨oc4, od4, .func (PySem.W.fnOf ("layers_made" : Str) ("layers_made" : Str) (defArgs (topS 6)) (defBody (topS 6)) (defScope (topS 6)) .none kV4 dc4 pm4 an4 cd4 ct4), sl4⟩) (c4 : PySem.W.codeIn K cd4 ("layers_made" : Str) = true) (k4 : PySem.W.keepIn K (.ref f4) = true)
    (a5 : PySem.W.nsIn K mainGlobals ("union" : Str) = some (some (.ref f5))) (l5 : K.lookup f5 = some ⟨oc5, od5, .func (PySem.W.fnOf ("union" : Str) ("union" : Str) (defArgs (topS 7)) (defBody (topS 7)) (defScope (topS 7)) .none kV5 dc5 pm5 an5 cd5 ct5), sl5⟩) (c5 : PySem.W.codeIn K cd5 ("union" : Str) = true) (k5 : PySem.W.keepIn K (.ref f5) = true)
    (a6 : PySem.W.nsIn K mainGlobals ("union_of" : Str) = some (some (.ref f6))) (l6 : K.lookup f6 = some ⟨oc6, od6, .func (PySem.W.fnOf ("union_of" : Str) ("union_of" : Str) (defArgs (topS 8)) (defBody (topS 8)) (defScope (topS 8)) .none kV6 dc6 pm6 an6 cd6 ct6), sl6⟩) (c6 : PySem.W.codeIn K cd6 ("union_of" : Str) = true) (k6 : PySem.W.keepIn K (.ref f6) = true)
    (a7 : PySem.W.nsIn K mainGlobals ("box" : Str) = some (some (.ref f7))) (l7 : K.lookup f7 = some ⟨oc7, od7, .func (PySem.W.fnOf ("box" : Str) ("box" : Str) (defArgs (topS 9)) (defBody (topS 9)) (defScope (topS 9)) .none kV7 dc7 pm7 an7 cd7 ct7), sl7⟩) (c7 : PySem.W.codeIn K cd7 ("box" : Str) = true) (k7 : PySem.W.keepIn K (.ref f7) = true)
    (a8 : PySem.W.nsIn K mainGlobals ("boxes_of" : Str) = some (some (.ref f8))) (l8 : K.lookup f8 = some ⟨oc8, od8, .func (PySem.W.fnOf ("boxes_of" : Str) ("boxes_of" : Str) (defArgs (topS 10)) (defBody (topS 10)) (defScope (topS 10)) .none kV8 dc8 pm8 an8 cd8 ct8), sl8⟩) (c8 : PySem.W.codeIn K cd8 ("boxes_of" : Str) = true) (k8 : PySem.W.keepIn K (.ref f8) = true)
    (a9 : PySem.W.nsIn K mainGlobals ("of_boxes" : Str) = some (some (.ref f9))) (l9 : K.lookup f9 = some ⟨oc9, od9, .func (PySem.W.fnOf ("of_boxes" : Str) ("of_boxes" : Str) (defArgs (topS 11)) (defBody (topS 11)) (defScope (topS 11)) .none kV9 dc9 pm9 an9 cd9 ct9), sl9⟩) (c9 : PySem.W.codeIn K cd9 ("of_boxes" : Str) = true) (k9 : PySem.W.keepIn K (.ref f9) = true)
    (a10 : PySem.W.nsIn K mainGlobals ("moved" : Str) = some (some (.ref f10))) (l10 : K.lookup f10 = some ⟨oc10, od10, .func (PySem.W.fnOf ("moved" : Str) ("moved" : Str) (defArgs (topS 12)) (defBody (topS 12)) (defScope (topS 12)) .none kV10 dc10 pm10 an10 cd10 ct10), sl10⟩) (c10 : PySem.W.codeIn K cd10 ("moved" : Str) = true) (k10 : PySem.W.keepIn K (.ref f10) = true)
    (a11 : PySem.W.nsIn K mainGlobals ("swept" : Str) = some (some (.ref f11))) (l11 : K.lookup f11 = some ⟨oc11, od11, .func (PySem.W.fnOf ("swept" : Str) ("swept" : Str) (defArgs (topS 13)) (defBody (topS 13)) (defScope (topS 13)) .none kV11 dc11 pm11 an11 cd11 ct11), sl11⟩) (c11 : PySem.W.codeIn K cd11 ("swept" : Str) = true) (k11 : PySem.W.keepIn K (.ref f11) = true)
    (a12 : PySem.W.nsIn K mainGlobals ("cube_at" : Str) = some (some (.ref f12))) (l12 : K.lookup f12 = some ⟨oc12, od12, .func (PySem.W.fnOf ("cube_at" : Str) ("cube_at" : Str) (defArgs (topS 15)) (defBody (topS 15)) (defScope (topS 15)) .none kV12 dc12 pm12 an12 cd12 ct12), sl12⟩) (c12 : PySem.W.codeIn K cd12 ("cube_at" : Str) = true) (k12 : PySem.W.keepIn K (.ref f12) = true)
    (a13 : PySem.W.nsIn K mainGlobals ("line_lot" : Str) = some (some (.ref f13))) (l13 : K.lookup f13 = some ⟨oc13, od13, .func (PySem.W.fnOf ("line_lot" : Str) ("line_lot" : Str) (defArgs (topS 16)) (defBody (topS 16)) (defScope (topS 16)) .none kV13 dc13 pm13 an13 cd13 ct13), sl13⟩) (c13 : PySem.W.codeIn K cd13 ("line_lot" : Str) = true) (k13 : PySem.W.keepIn K (.ref f13) = true)
    (a14 : PySem.W.nsIn K mainGlobals ("travel_lot" : Str) = some (some (.ref f14))) (l14 : K.lookup f14 = some ⟨oc14, od14, .func (PySem.W.fnOf ("travel_lot" : Str) ("travel_lot" : Str) (defArgs (topS 17)) (defBody (topS 17)) (defScope (topS 17)) .none kV14 dc14 pm14 an14 cd14 ct14), sl14⟩) (c14 : PySem.W.codeIn K cd14 ("travel_lot" : Str) = true) (k14 : PySem.W.keepIn K (.ref f14) = true)
    (a15 : PySem.W.nsIn K mainGlobals ("_law_cell_at" : Str) = some (some (.ref f15))) (l15 : K.lookup f15 = some ⟨oc15, od15, .func (PySem.W.fnOf ("_law_cell_at" : Str) ("_law_cell_at" : Str) (defArgs (topS 19)) (defBody (topS 19)) (defScope (topS 19)) .none kV15 dc15 pm15 an15 cd15 ct15), sl15⟩) (c15 : PySem.W.codeIn K cd15 ("_law_cell_at" : Str) = true) (k15 : PySem.W.keepIn K (.ref f15) = true)
    (a16 : PySem.W.nsIn K mainGlobals ("_law_draw" : Str) = some (some (.ref f16))) (l16 : K.lookup f16 = some ⟨oc16, od16, .func (PySem.W.fnOf ("_law_draw" : Str) ("_law_draw" : Str) (defArgs (topS 20)) (defBody (topS 20)) (defScope (topS 20)) .none kV16 dc16 pm16 an16 cd16 ct16), sl16⟩) (c16 : PySem.W.codeIn K cd16 ("_law_draw" : Str) = true) (k16 : PySem.W.keepIn K (.ref f16) = true)
    (a17 : PySem.W.nsIn K mainGlobals ("_law_number" : Str) = some (some (.ref f17))) (l17 : K.lookup f17 = some ⟨oc17, od17, .func (PySem.W.fnOf ("_law_number" : Str) ("_law_number" : Str) (defArgs (topS 21)) (defBody (topS 21)) (defScope (topS 21)) .none kV17 dc17 pm17 an17 cd17 ct17), sl17⟩) (c17 : PySem.W.codeIn K cd17 ("_law_number" : Str) = true) (k17 : PySem.W.keepIn K (.ref f17) = true)
    (a18 : PySem.W.nsIn K mainGlobals ("_law_next" : Str) = some (some (.ref f18))) (l18 : K.lookup f18 = some ⟨oc18, od18, .func (PySem.W.fnOf ("_law_next" : Str) ("_law_next" : Str) (defArgs (topS 22)) (defBody (topS 22)) (defScope (topS 22)) .none kV18 dc18 pm18 an18 cd18 ct18), sl18⟩) (c18 : PySem.W.codeIn K cd18 ("_law_next" : Str) = true) (k18 : PySem.W.keepIn K (.ref f18) = true)
    (a19 : PySem.W.nsIn K mainGlobals ("_law_tool" : Str) = some (some (.ref f19))) (l19 : K.lookup f19 = some ⟨oc19, od19, .func (PySem.W.fnOf ("_law_tool" : Str) ("_law_tool" : Str) (defArgs (topS 23)) (defBody (topS 23)) (defScope (topS 23)) .none kV19 dc19 pm19 an19 cd19 ct19), sl19⟩) (c19 : PySem.W.codeIn K cd19 ("_law_tool" : Str) = true) (k19 : PySem.W.keepIn K (.ref f19) = true)
    (a20 : PySem.W.nsIn K mainGlobals ("_law_cubes" : Str) = some (some (.ref f20))) (l20 : K.lookup f20 = some ⟨oc20, od20, .func (PySem.W.fnOf ("_law_cubes" : Str) ("_law_cubes" : Str) (defArgs (topS 24)) (defBody (topS 24)) (defScope (topS 24)) .none kV20 dc20 pm20 an20 cd20 ct20), sl20⟩) (c20 : PySem.W.codeIn K cd20 ("_law_cubes" : Str) = true) (k20 : PySem.W.keepIn K (.ref f20) = true)
    (a21 : PySem.W.nsIn K mainGlobals ("law" : Str) = some (some (.ref f21))) (l21 : K.lookup f21 = some ⟨oc21, od21, .func (PySem.W.fnOf ("law" : Str) ("law" : Str) (defArgs (topS 25)) (defBody (topS 25)) (defScope (topS 25)) .none kV21 dc21 pm21 an21 cd21 ct21), sl21⟩) (c21 : PySem.W.codeIn K cd21 ("law" : Str) = true) (k21 : PySem.W.keepIn K (.ref f21) = true)
    (ga0 : PySem.W.nsIn K mainGlobals ("AXES" : Str) = some (some (.ref g0))) (gl0 : K.lookup g0 = some ⟨.type "tuple", gd0, .seq #[.int (0) gt0_0, .int (1) gt0_1, .int (2) gt0_2] gn0, gs0⟩)
    (z_len : PySem.W.nsIn K mainGlobals ("len" : Str) = some none)
    (z_list : PySem.W.nsIn K mainGlobals ("list" : Str) = some none)
    (z_tuple : PySem.W.nsIn K mainGlobals ("tuple" : Str) = some none)
    (z_any : PySem.W.nsIn K mainGlobals ("any" : Str) = some none)
    (z_all : PySem.W.nsIn K mainGlobals ("all" : Str) = some none)
    (z_min : PySem.W.nsIn K mainGlobals ("min" : Str) = some none)
    (z_max : PySem.W.nsIn K mainGlobals ("max" : Str) = some none)
    (z_sum : PySem.W.nsIn K mainGlobals ("sum" : Str) = some none)
    (z_abs : PySem.W.nsIn K mainGlobals ("abs" : Str) = some none)
    (z_int : PySem.W.nsIn K mainGlobals ("int" : Str) = some none)
    (z_sorted : PySem.W.nsIn K mainGlobals ("sorted" : Str) = some none)
    (z_range : PySem.W.nsIn K mainGlobals ("range" : Str) = some none)
    (z_zip : PySem.W.nsIn K mainGlobals ("zip" : Str) = some none)
    (z_enumerate : PySem.W.nsIn K mainGlobals ("enumerate" : Str) = some none)
    (z_isinstance : PySem.W.nsIn K mainGlobals ("isinstance" : Str) = some none)
    (z_bool : PySem.W.nsIn K mainGlobals ("bool" : Str) = some none)
    (z_str : PySem.W.nsIn K mainGlobals ("str" : Str) = some none)
    (z_dict : PySem.W.nsIn K mainGlobals ("dict" : Str) = some none)
    (hev : ∀ ns : List Int, ns.length ≤ 63 → ∃ h', tab P k 21 [.ref 0] [.fro (ns.map DV.int)] = .ok (.bl true) h') :
    ∃ fd : FuncData, (∀ (s : Shared) (v : Value), BindsTo s fd ⟨[v], []⟩ [("_law_script", v)]) ∧ ∀ base : Heap, K.In base → base.Ns mainGlobals mg → FnOk l.prog w K mg base CX0 k fa0 fd ["_law_script"] (spTop K) := by
  have e := hfa.symm.trans (PySem.W.mg_of X G a21)
  cases e
  have F0 := fun_mk (st := topS 2) l0 c0 k0
  have B0 : Binds K _ p0 [] := F0.binds (ps := p0) fun _ _ _ _ _ _ us hl => match us, hl with | [_, _, _], _ => rfl
  have D0 : Def1 K tp f0 (PySem.W.fnOf ("is_kept" : Str) ("is_kept" : Str) (defArgs (topS 2)) (defBody (topS 2)) (defScope (topS 2)) .none kV0 dc0 pm0 an0 cd0 ct0) p0 ⟨3, 3, b0⟩ := ⟨_, _, _, N0, 60, sc0, tr0, rfl, rfl, F0, B0⟩
  have F1 := fun_mk (st := topS 3) l1 c1 k1
  have B1 : Binds K _ p1 [] := F1.binds (ps := p1) fun _ _ _ _ _ _ us hl => match us, hl with | [_, _], _ => rfl
  have D1 : Def1 K tp f1 (PySem.W.fnOf ("ends_of" : Str) ("ends_of" : Str) (defArgs (topS 3)) (defBody (topS 3)) (defScope (topS 3)) .none kV1 dc1 pm1 an1 cd1 ct1) p1 ⟨2, 4, b1⟩ := ⟨_, _, _, N1, 60, sc1, tr1, rfl, rfl, F1, B1⟩
  have F2 := fun_mk (st := topS 4) l2 c2 k2
  have B2 : Binds K _ p2 [] := F2.binds (ps := p2) fun _ _ _ _ _ _ us hl => match us, hl with | [_, _, _], _ => rfl
  have D2 : Def1 K tp f2 (PySem.W.fnOf ("rows_made" : Str) ("rows_made" : Str) (defArgs (topS 4)) (defBody (topS 4)) (defScope (topS 4)) .none kV2 dc2 pm2 an2 cd2 ct2) p2 ⟨3, 10, b2⟩ := ⟨_, _, _, N2, 60, sc2, tr2, rfl, rfl, F2, B2⟩
  have F3 := fun_mk (st := topS 5) l3 c3 k3
  have B3 : Binds K _ p3 [] := F3.binds (ps := p3) fun _ _ _ _ _ _ us hl => match us, hl with | [_, _, _, _], _ => rfl
  have D3 : Def1 K tp f3 (PySem.W.fnOf ("stretches_made" : Str) ("stretches_made" : Str) (defArgs (topS 5)) (defBody (topS 5)) (defScope (topS 5)) .none kV3 dc3 pm3 an3 cd3 ct3) p3 ⟨4, 13, b3⟩ := ⟨_, _, _, N3, 60, sc3, tr3, rfl, rfl, F3, B3⟩
  have F4 := fun_mk (st := topS 6) l4 c4 k4
  have B4 : Binds K _ p4 [] := F4.binds (ps := p4) fun _ _ _ _ _ _ us hl => match us, hl with | [_, _, _], _ => rfl
  have D4 : Def1 K tp f4 (PySem.W.fnOf ("layers_made" : Str) ("layers_made" : Str) (defArgs (topS 6)) (defBody (topS 6)) (defScope (topS 6)) .none kV4 dc4 pm4 an4 cd4 ct4) p4 ⟨3, 3, b4⟩ := ⟨_, _, _, N4, 60, sc4, tr4, rfl, rfl, F4, B4⟩
  have F5 := fun_mk (st := topS 7) l5 c5 k5
  have B5 : Binds K _ p5 [] := F5.binds (ps := p5) fun _ _ _ _ _ _ us hl => match us, hl with | [_, _], _ => rfl
  have D5 : Def1 K tp f5 (PySem.W.fnOf ("union" : Str) ("union" : Str) (defArgs (topS 7)) (defBody (topS 7)) (defScope (topS 7)) .none kV5 dc5 pm5 an5 cd5 ct5) p5 ⟨2, 2, b5⟩ := ⟨_, _, _, N5, 60, sc5, tr5, rfl, rfl, F5, B5⟩
  have F6 := fun_mk (st := topS 8) l6 c6 k6
  have B6 : Binds K _ p6 [] := F6.binds (ps := p6) fun _ _ _ _ _ _ us hl => match us, hl with | [_], _ => rfl
  have D6 : Def1 K tp f6 (PySem.W.fnOf ("union_of" : Str) ("union_of" : Str) (defArgs (topS 8)) (defBody (topS 8)) (defScope (topS 8)) .none kV6 dc6 pm6 an6 cd6 ct6) p6 ⟨1, 5, b6⟩ := ⟨_, _, _, N6, 60, sc6, tr6, rfl, rfl, F6, B6⟩
  have F7 := fun_mk (st := topS 9) l7 c7 k7
  have B7 : Binds K _ p7 [] := F7.binds (ps := p7) fun _ _ _ _ _ _ us hl => match us, hl with | [_, _], _ => rfl
  have D7 : Def1 K tp f7 (PySem.W.fnOf ("box" : Str) ("box" : Str) (defArgs (topS 9)) (defBody (topS 9)) (defScope (topS 9)) .none kV7 dc7 pm7 an7 cd7 ct7) p7 ⟨2, 3, b7⟩ := ⟨_, _, _, N7, 60, sc7, tr7, rfl, rfl, F7, B7⟩
  have F8 := fun_mk (st := topS 10) l8 c8 k8
  have B8 : Binds K _ p8 [] := F8.binds (ps := p8) fun _ _ _ _ _ _ us hl => match us, hl with | [_], _ => rfl
  have D8 : Def1 K tp f8 (PySem.W.fnOf ("boxes_of" : Str) ("boxes_of" : Str) (defArgs (topS 10)) (defBody (topS 10)) (defScope (topS 10)) .none kV8 dc8 pm8 an8 cd8 ct8) p8 ⟨1, 10, b8⟩ := ⟨_, _, _, N8, 60, sc8, tr8, rfl, rfl, F8, B8⟩
  have F9 := fun_mk (st := topS 11) l9 c9 k9
  have B9 : Binds K _ p9 [] := F9.binds (ps := p9) fun _ _ _ _ _ _ us hl => match us, hl with | [_], _ => rfl
  have D9 : Def1 K tp f9 (PySem.W.fnOf ("of_boxes" : Str) ("of_boxes" : Str) (defArgs (topS 11)) (defBody (topS 11)) (defScope (topS 11)) .none kV9 dc9 pm9 an9 cd9 ct9) p9 ⟨1, 3, b9⟩ := ⟨_, _, _, N9, 60, sc9, tr9, rfl, rfl, F9, B9⟩
  have F10 := fun_mk (st := topS 12) l10 c10 k10
  have B10 : Binds K _ p10 [] := F10.binds (ps := p10) fun _ _ _ _ _ _ us hl => match us, hl with | [_, _], _ => rfl
  have D10 : Def1 K tp f10 (PySem.W.fnOf ("moved" : Str) ("moved" : Str) (defArgs (topS 12)) (defBody (topS 12)) (defScope (topS 12)) .none kV10 dc10 pm10 an10 cd10 ct10) p10 ⟨2, 15, b10⟩ := ⟨_, _, _, N10, 60, sc10, tr10, rfl, rfl, F10, B10⟩
  have F11 := fun_mk (st := topS 13) l11 c11 k11
  have B11 : Binds K _ p11 [] := F11.binds (ps := p11) fun _ _ _ _ _ _ us hl => match us, hl with | [_, _], _ => rfl
  have D11 : Def1 K tp f11 (PySem.W.fnOf ("swept" : Str) ("swept" : Str) (defArgs (topS 13)) (defBody (topS 13)) (defScope (topS 13)) .none kV11 dc11 pm11 an11 cd11 ct11) p11 ⟨2, 9, b11⟩ := ⟨_, _, _, N11, 60, sc11, tr11, rfl, rfl, F11, B11⟩
  have F12 := fun_mk (st := topS 15) l12 c12 k12
  have B12 : Binds K _ p12 [] := F12.binds (ps := p12) fun _ _ _ _ _ _ us hl => match us, hl with | [_], _ => rfl
  have D12 : Def1 K tp f12 (PySem.W.fnOf ("cube_at" : Str) ("cube_at" : Str) (defArgs (topS 15)) (defBody (topS 15)) (defScope (topS 15)) .none kV12 dc12 pm12 an12 cd12 ct12) p12 ⟨1, 2, b12⟩ := ⟨_, _, _, N12, 60, sc12, tr12, rfl, rfl, F12, B12⟩
  have F13 := fun_mk (st := topS 16) l13 c13 k13
  have B13 : Binds K _ p13 [] := F13.binds (ps := p13) fun _ _ _ _ _ _ us hl => match us, hl with | [_, _, _], _ => rfl
  have D13 : Def1 K tp f13 (PySem.W.fnOf ("line_lot" : Str) ("line_lot" : Str) (defArgs (topS 16)) (defBody (topS 16)) (defScope (topS 16)) .none kV13 dc13 pm13 an13 cd13 ct13) p13 ⟨3, 6, b13⟩ := ⟨_, _, _, N13, 60, sc13, tr13, rfl, rfl, F13, B13⟩
  have F14 := fun_mk (st := topS 17) l14 c14 k14
  have B14 : Binds K _ p14 [] := F14.binds (ps := p14) fun _ _ _ _ _ _ us hl => match us, hl with | [_], _ => rfl
  have D14 : Def1 K tp f14 (PySem.W.fnOf ("travel_lot" : Str) ("travel_lot" : Str) (defArgs (topS 17)) (defBody (topS 17)) (defScope (topS 17)) .none kV14 dc14 pm14 an14 cd14 ct14) p14 ⟨1, 4, b14⟩ := ⟨_, _, _, N14, 60, sc14, tr14, rfl, rfl, F14, B14⟩
  have F15 := fun_mk (st := topS 19) l15 c15 k15
  have B15 : Binds K _ p15 [] := F15.binds (ps := p15) fun _ _ _ _ _ _ us hl => match us, hl with | [_, _], _ => rfl
  have D15 : Def1 K tp f15 (PySem.W.fnOf ("_law_cell_at" : Str) ("_law_cell_at" : Str) (defArgs (topS 19)) (defBody (topS 19)) (defScope (topS 19)) .none kV15 dc15 pm15 an15 cd15 ct15) p15 ⟨2, 2, b15⟩ := ⟨_, _, _, N15, 60, sc15, tr15, rfl, rfl, F15, B15⟩
  have F16 := fun_mk (st := topS 20) l16 c16 k16
  have B16 : Binds K _ p16 [] := F16.binds (ps := p16) fun _ _ _ _ _ _ us hl => match us, hl with | [_, _, _], _ => rfl
  have D16 : Def1 K tp f16 (PySem.W.fnOf ("_law_draw" : Str) ("_law_draw" : Str) (defArgs (topS 20)) (defBody (topS 20)) (defScope (topS 20)) .none kV16 dc16 pm16 an16 cd16 ct16) p16 ⟨3, 4, b16⟩ := ⟨_, _, _, N16, 60, sc16, tr16, rfl, rfl, F16, B16⟩
  have F17 := fun_mk (st := topS 21) l17 c17 k17
  have B17 : Binds K _ p17 [] := F17.binds (ps := p17) fun _ _ _ _ _ _ us hl => match us, hl with | [_, _, _], _ => rfl
  have D17 : Def1 K tp f17 (PySem.W.fnOf ("_law_number" : Str) ("_law_number" : Str) (defArgs (topS 21)) (defBody (topS 21)) (defScope (topS 21)) .none kV17 dc17 pm17 an17 cd17 ct17) p17 ⟨3, 7, b17⟩ := ⟨_, _, _, N17, 60, sc17, tr17, rfl, rfl, F17, B17⟩
  have F18 := fun_mk (st := topS 22) l18 c18 k18
  have B18 : Binds K _ p18 [] := F18.binds (ps := p18) fun _ _ _ _ _ _ us hl => match us, hl with | [_, _], _ => rfl
  have D18 : Def1 K tp f18 (PySem.W.fnOf ("_law_next" : Str) ("_law_next" : Str) (defArgs (topS 22)) (defBody (topS 22)) (defScope (topS 22)) .none kV18 dc18 pm18 an18 cd18 ct18) p18 ⟨2, 4, b18⟩ := ⟨_, _, _, N18, 60, sc18, tr18, rfl, rfl, F18, B18⟩
  have F19 := fun_mk (st := topS 23) l19 c19 k19
  have B19 : Binds K _ p19 [] := F19.binds (ps := p19) fun _ _ _ _ _ _ us hl => match us, hl with | [_, _], _ => rfl
  have D19 : Def1 K tp f19 (PySem.W.fnOf ("_law_tool" : Str) ("_law_tool" : Str) (defArgs (topS 23)) (defBody (topS 23)) (defScope (topS 23)) .none kV19 dc19 pm19 an19 cd19 ct19) p19 ⟨2, 7, b19⟩ := ⟨_, _, _, N19, 60, sc19, tr19, rfl, rfl, F19, B19⟩
  have F20 := fun_mk (st := topS 24) l20 c20 k20
  have B20 : Binds K _ p20 [] := F20.binds (ps := p20) fun _ _ _ _ _ _ us hl => match us, hl with | [_], _ => rfl
  have D20 : Def1 K tp f20 (PySem.W.fnOf ("_law_cubes" : Str) ("_law_cubes" : Str) (defArgs (topS 24)) (defBody (topS 24)) (defScope (topS 24)) .none kV20 dc20 pm20 an20 cd20 ct20) p20 ⟨1, 13, b20⟩ := ⟨_, _, _, N20, 60, sc20, tr20, rfl, rfl, F20, B20⟩
  have F21 := fun_mk (st := topS 25) l21 c21 k21
  have B21 : Binds K _ p21 [] := F21.binds (ps := p21) fun _ _ _ _ _ _ us hl => match us, hl with | [_], _ => rfl
  have D21 : Def1 K tp fa0 (PySem.W.fnOf ("law" : Str) ("law" : Str) (defArgs (topS 25)) (defBody (topS 25)) (defScope (topS 25)) .none kV21 dc21 pm21 an21 cd21 ct21) p21 ⟨1, 21, b21⟩ := ⟨_, _, _, N21, 60, sc21, tr21, rfl, rfl, F21, B21⟩
  have T : TopF K mg (⟨fun | 0 => f0 | 1 => f1 | 2 => f2 | 3 => f3 | 4 => f4 | 5 => f5 | 6 => f6 | 7 => f7 | 8 => f8 | 9 => f9 | 10 => f10 | 11 => f11 | 12 => f12 | 13 => f13 | 14 => f14 | 15 => f15 | 16 => f16 | 17 => f17 | 18 => f18 | 19 => f19 | 20 => f20 | 21 => fa0 | _ => f0, w⟩ : Fa) (fun | 0 => PySem.W.fnOf ("is_kept" : Str) ("is_kept" : Str) (defArgs (topS 2)) (defBody (topS 2)) (defScope (topS 2)) .none kV0 dc0 pm0 an0 cd0 ct0 | 1 => PySem.W.fnOf ("ends_of" : Str) ("ends_of" : Str) (defArgs (topS 3)) (defBody (topS 3)) (defScope (topS 3)) .none kV1 dc1 pm1 an1 cd1 ct1 | 2 => PySem.W.fnOf ("rows_made" : Str) ("rows_made" : Str) (defArgs (topS 4)) (defBody (topS 4)) (defScope (topS 4)) .none kV2 dc2 pm2 an2 cd2 ct2 | 3 => PySem.W.fnOf ("stretches_made" : Str) ("stretches_made" : Str) (defArgs (topS 5)) (defBody (topS 5)) (defScope (topS 5)) .none kV3 dc3 pm3 an3 cd3 ct3 | 4 => PySem.W.fnOf ("layers_made" : Str) ("layers_made" : Str) (defArgs (topS 6)) (defBody (topS 6)) (defScope (topS 6)) .none kV4 dc4 pm4 an4 cd4 ct4 | 5 => PySem.W.fnOf ("union" : Str) ("union" : Str) (defArgs (topS 7)) (defBody (topS 7)) (defScope (topS 7)) .none kV5 dc5 pm5 an5 cd5 ct5 | 6 => PySem.W.fnOf ("union_of" : Str) ("union_of" : Str) (defArgs (topS 8)) (defBody (topS 8)) (defScope (topS 8)) .none kV6 dc6 pm6 an6 cd6 ct6 | 7 => PySem.W.fnOf ("box" : Str) ("box" : Str) (defArgs (topS 9)) (defBody (topS 9)) (defScope (topS 9)) .none kV7 dc7 pm7 an7 cd7 ct7 | 8 => PySem.W.fnOf ("boxes_of" : Str) ("boxes_of" : Str) (defArgs (topS 10)) (defBody (topS 10)) (defScope (topS 10)) .none kV8 dc8 pm8 an8 cd8 ct8 | 9 => PySem.W.fnOf ("of_boxes" : Str) ("of_boxes" : Str) (defArgs (topS 11)) (defBody (topS 11)) (defScope (topS 11)) .none kV9 dc9 pm9 an9 cd9 ct9 | 10 => PySem.W.fnOf ("moved" : Str) ("moved" : Str) (defArgs (topS 12)) (defBody (topS 12)) (defScope (topS 12)) .none kV10 dc10 pm10 an10 cd10 ct10 | 11 => PySem.W.fnOf ("swept" : Str) ("swept" : Str) (defArgs (topS 13)) (defBody (topS 13)) (defScope (topS 13)) .none kV11 dc11 pm11 an11 cd11 ct11 | 12 => PySem.W.fnOf ("cube_at" : Str) ("cube_at" : Str) (defArgs (topS 15)) (defBody (topS 15)) (defScope (topS 15)) .none kV12 dc12 pm12 an12 cd12 ct12 | 13 => PySem.W.fnOf ("line_lot" : Str) ("line_lot" : Str) (defArgs (topS 16)) (defBody (topS 16)) (defScope (topS 16)) .none kV13 dc13 pm13 an13 cd13 ct13 | 14 => PySem.W.fnOf ("travel_lot" : Str) ("travel_lot" : Str) (defArgs (topS 17)) (defBody (topS 17)) (defScope (topS 17)) .none kV14 dc14 pm14 an14 cd14 ct14 | 15 => PySem.W.fnOf ("_law_cell_at" : Str) ("_law_cell_at" : Str) (defArgs (topS 19)) (defBody (topS 19)) (defScope (topS 19)) .none kV15 dc15 pm15 an15 cd15 ct15 | 16 => PySem.W.fnOf ("_law_draw" : Str) ("_law_draw" : Str) (defArgs (topS 20)) (defBody (topS 20)) (defScope (topS 20)) .none kV16 dc16 pm16 an16 cd16 ct16 | 17 => PySem.W.fnOf ("_law_number" : Str) ("_law_number" : Str) (defArgs (topS 21)) (defBody (topS 21)) (defScope (topS 21)) .none kV17 dc17 pm17 an17 cd17 ct17 | 18 => PySem.W.fnOf ("_law_next" : Str) ("_law_next" : Str) (defArgs (topS 22)) (defBody (topS 22)) (defScope (topS 22)) .none kV18 dc18 pm18 an18 cd18 ct18 | 19 => PySem.W.fnOf ("_law_tool" : Str) ("_law_tool" : Str) (defArgs (topS 23)) (defBody (topS 23)) (defScope (topS 23)) .none kV19 dc19 pm19 an19 cd19 ct19 | 20 => PySem.W.fnOf ("_law_cubes" : Str) ("_law_cubes" : Str) (defArgs (topS 24)) (defBody (topS 24)) (defScope (topS 24)) .none kV20 dc20 pm20 an20 cd20 ct20 | 21 => PySem.W.fnOf ("law" : Str) ("law" : Str) (defArgs (topS 25)) (defBody (topS 25)) (defScope (topS 25)) .none kV21 dc21 pm21 an21 cd21 ct21 | _ => PySem.W.fnOf ("is_kept" : Str) ("is_kept" : Str) (defArgs (topS 2)) (defBody (topS 2)) (defScope (topS 2)) .none kV0 dc0 pm0 an0 cd0 ct0) (fun | 0 => p0 | 1 => p1 | 2 => p2 | 3 => p3 | 4 => p4 | 5 => p5 | 6 => p6 | 7 => p7 | 8 => p8 | 9 => p9 | 10 => p10 | 11 => p11 | 12 => p12 | 13 => p13 | 14 => p14 | 15 => p15 | 16 => p16 | 17 => p17 | 18 => p18 | 19 => p19 | 20 => p20 | 21 => p21 | _ => []) P tp := {
    defs := fun i x e => match i, e with
      | 0, e => by cases e; exact D0
      | 1, e => by cases e; exact D1
      | 2, e => by cases e; exact D2
      | 3, e => by cases e; exact D3
      | 4, e => by cases e; exact D4
      | 5, e => by cases e; exact D5
      | 6, e => by cases e; exact D6
      | 7, e => by cases e; exact D7
      | 8, e => by cases e; exact D8
      | 9, e => by cases e; exact D9
      | 10, e => by cases e; exact D10
      | 11, e => by cases e; exact D11
      | 12, e => by cases e; exact D12
      | 13, e => by cases e; exact D13
      | 14, e => by cases e; exact D14
      | 15, e => by cases e; exact D15
      | 16, e => by cases e; exact D16
      | 17, e => by cases e; exact D17
      | 18, e => by cases e; exact D18
      | 19, e => by cases e; exact D19
      | 20, e => by cases e; exact D20
      | 21, e => by cases e; exact D21
      | n + 22, e => by cases e
    fns := fun i x e => match i, e with
      | 0, e => by cases e; exact PySem.W.mg_of X G a0
      | 1, e => by cases e; exact PySem.W.mg_of X G a1
      | 2, e => by cases e; exact PySem.W.mg_of X G a2
      | 3, e => by cases e; exact PySem.W.mg_of X G a3
      | 4, e => by cases e; exact PySem.W.mg_of X G a4
      | 5, e => by cases e; exact PySem.W.mg_of X G a5
      | 6, e => by cases e; exact PySem.W.mg_of X G a6
      | 7, e => by cases e; exact PySem.W.mg_of X G a7
      | 8, e => by cases e; exact PySem.W.mg_of X G a8
      | 9, e => by cases e; exact PySem.W.mg_of X G a9
      | 10, e => by cases e; exact PySem.W.mg_of X G a10
      | 11, e => by cases e; exact PySem.W.mg_of X G a11
      | 12, e => by cases e; exact PySem.W.mg_of X G a12
      | 13, e => by cases e; exact PySem.W.mg_of X G a13
      | 14, e => by cases e; exact PySem.W.mg_of X G a14
      | 15, e => by cases e; exact PySem.W.mg_of X G a15
      | 16, e => by cases e; exact PySem.W.mg_of X G a16
      | 17, e => by cases e; exact PySem.W.mg_of X G a17
      | 18, e => by cases e; exact PySem.W.mg_of X G a18
      | 19, e => by cases e; exact PySem.W.mg_of X G a19
      | 20, e => by cases e; exact PySem.W.mg_of X G a20
      | 21, e => by cases e; exact PySem.W.mg_of X G a21
      | n + 22, e => by cases e
    cons := lookup_all tp.cons fun q hq => by
      simp only [tp, List.mem_cons, List.not_mem_nil, or_false] at hq
      rcases hq with rfl
      · exact ⟨.ref g0, .ref g0, PySem.W.mg_of X G ga0, rfl, fun m n H => .tup (show SqT K H g0 [V.int (0), V.int (1), V.int (2)] from .inr ⟨_, _, _, gl0, rfl, rfl, (by show 3 ≤ sizeLine; decide), .cons ⟨_, rfl⟩ (.cons ⟨_, rfl⟩ (.cons ⟨_, rfl⟩ (.nil)))⟩) (.cons (.int _) (.cons (.int _) (.cons (.int _) (.nil))))⟩
    bn := fun x hx => by
      simp only [BN, List.mem_cons, List.not_mem_nil, or_false] at hx
      rcases hx with rfl | rfl | rfl | rfl | rfl | rfl | rfl | rfl | rfl | rfl | rfl | rfl | rfl | rfl | rfl | rfl | rfl | rfl
      · exact PySem.W.mg_none_of X G z_len
      · exact PySem.W.mg_none_of X G z_list
      · exact PySem.W.mg_none_of X G z_tuple
      · exact PySem.W.mg_none_of X G z_any
      · exact PySem.W.mg_none_of X G z_all
      · exact PySem.W.mg_none_of X G z_min
      · exact PySem.W.mg_none_of X G z_max
      · exact PySem.W.mg_none_of X G z_sum
      · exact PySem.W.mg_none_of X G z_abs
      · exact PySem.W.mg_none_of X G z_int
      · exact PySem.W.mg_none_of X G z_sorted
      · exact PySem.W.mg_none_of X G z_range
      · exact PySem.W.mg_none_of X G z_zip
      · exact PySem.W.mg_none_of X G z_enumerate
      · exact PySem.W.mg_none_of X G z_isinstance
      · exact PySem.W.mg_none_of X G z_bool
      · exact PySem.W.mg_none_of X G z_str
      · exact PySem.W.mg_none_of X G z_dict
  }
  exact ⟨_, fun s v => .of_eq rfl, fun base _ _ => law_ok rfl T (i := 21) rfl rfl hev⟩
end Law
end Lil
/-! H41: k41's table keeps the specs. Written by mkH.py. -/
set_option linter.all false
set_option Elab.async false
set_option maxRecDepth 100000
namespace Lil
namespace Law
theorem s_is_kept (d : Nat) : KeptOk (tab P (d + 1) 0) := kept_ok (F := tab P d)
theorem s_ends_of (d : Nat) : EndsOk (tab P (d + 1) 1) := ends_ok (F := tab P d)
theorem s_rows_made (d : Nat) : RowsOk (tab P (d + 2) 2) := rows_made_ok (F := tab P (d + 1)) (s_is_kept d) (s_ends_of d)
theorem s_str (d jn : Nat) : StrAt (tab P (d + 2) 3) (tab P (d + 1) jn) jn := str_ok (F := tab P (d + 1)) (s_ends_of d)
theorem s_layers_made (d : Nat) : LayersOk (tab P (d + 4) 4) := layers_made_ok (F := tab P (d + 3)) (s_str (d + 1) 2) (s_rows_made d)
theorem s_union (d : Nat) : SolOk .either (tab P (d + 6) 5) := union_ok (F := tab P (d + 5)) (s_str (d + 3) 4) (s_layers_made d)
theorem s_union_of (d : Nat) : UnionOfOk (tab P (d + 7) 6) := union_of_ok (F := tab P (d + 6)) (s_union d)
theorem s_box (d : Nat) : BoxOk (tab P (d + 1) 7) := box_fn (F := tab P d)
theorem s_boxes_of (d : Nat) : BoxesOfOk (tab P (d + 1) 8) := boxes_of_fn (F := tab P d)
theorem s_of_boxes (d : Nat) : LawSolidOk (tab P (d + 8) 9) := law_solid_ok (F := tab P (d + 7)) (s_union_of d) (s_box (d + 6))
theorem s_moved (d : Nat) : MovedOk (tab P (d + 1) 10) := moved_fn (F := tab P d)
theorem s_swept (d : Nat) : SweptOk (tab P (d + 9) 11) := swept_fn (F := tab P (d + 8)) (s_boxes_of (d + 7)) (s_of_boxes d)
theorem s_cube_at (d : Nat) : CubeAtOk (tab P (d + 2) 12) := cube_at_fn (F := tab P (d + 1)) (s_box d)
theorem s_line_lot (d : Nat) : LineOk (tab P (d + 2) 13) := line_fn (F := tab P (d + 1)) (s_box d)
theorem s_travel_lot (d : Nat) : TravelOk (tab P (d + 2) 14) := travel_fn (F := tab P (d + 1)) (s_box d)
theorem s__law_cell_at (d : Nat) : CellOk (tab P (d + 1) 15) := cell_ok (F := tab P d)
theorem s__law_draw (d : Nat) : DrawOk (tab P (d + 1) 16) := draw_ok (F := tab P d)
theorem s__law_number (d : Nat) : NumOk (tab P (d + 2) 17) := num_ok (F := tab P (d + 1)) (s__law_draw d)
theorem s__law_next (d : Nat) : NextOk (tab P (d + 3) 18) := next_ok (F := tab P (d + 2)) (s__law_cell_at (d + 1)) (s__law_number d)
theorem s__law_tool (d : Nat) : ToolOk (tab P (d + 7) 19) := tool_fn (F := tab P (d + 6)) (s_union d) (s_box (d + 5)) (s__law_next (d + 3))
theorem s__law_cubes (d : Nat) : CubesOk (tab P (d + 1) 20) := cubes_fn (F := tab P d)
theorem hev : ∀ ns : List Int, ns.length ≤ 63 → ∃ h', tab P 20 21 [.ref 0] [.fro (ns.map DV.int)] = .ok (.bl true) h' := fun ns _ =>
  law41 (F := tab P 19) (s_union 13) (s_moved 18) (s_swept 10) (s_cube_at 17) (s_line_lot 17) (s_travel_lot 17) (s__law_next 16) (s__law_tool 12) (s__law_cubes 18) ns
end Law
end Lil
set_option maxRecDepth 100000
open PySem PySem.W PyProof.Rows
set_option maxHeartbeats 0 in
set_option maxRecDepth 100000 in
theorem PySem.Challenge.cw_shopwhole_k41_lots_holds : PySem.Challenge.rw_shopwhole_k41_lots.Holds := by
  w_on; o_law; k_head; (case hw => w_witness2)
  k_fill
  refine L2.walk_of (l := PySem.Challenge.rw_shopwhole_k41_lots) (n := 63) (k := 20) (x := "_law_script") (CX := fun _ => L2.CX0) (sp := fun w => Lil.spTop _) rfl (by decide) rfl ⟨rfl, by decide, by decide⟩ (fun w h Y => PySem.W.kIn_of Y) ?F (fun _ _ a ns hl ho hS => Lil.spTop_only hl ho hS) (fun _ _ _ _ _ h => h)
  case F =>
    intro w mg fa h KX G hmg
    refine' Lil.Law.all_mk KX G hmg ?a0 ?l0 ?c0 ?k0 ?a1 ?l1 ?c1 ?k1 ?a2 ?l2 ?c2 ?k2 ?a3 ?l3 ?c3 ?k3 ?a4 ?l4 ?c4 ?k4 ?a5 ?l5 ?c5 ?k5 ?a6 ?l6 ?c6 ?k6 ?a7 ?l7 ?c7 ?k7 ?a8 ?l8 ?c8 ?k8 ?a9 ?l9 ?c9 ?k9 ?a10 ?l10 ?c10 ?k10 ?a11 ?l11 ?c11 ?k11 ?a12 ?l12 ?c12 ?k12 ?a13 ?l13 ?c13 ?k13 ?a14 ?l14 ?c14 ?k14 ?a15 ?l15 ?c15 ?k15 ?a16 ?l16 ?c16 ?k16 ?a17 ?l17 ?c17 ?k17 ?a18 ?l18 ?c18 ?k18 ?a19 ?l19 ?c19 ?k19 ?a20 ?l20 ?c20 ?k20 ?a21 ?l21 ?c21 ?k21 ?ga0 ?gl0 ?z_len ?z_list ?z_tuple ?z_any ?z_all ?z_min ?z_max ?z_sum ?z_abs ?z_int ?z_sorted ?z_range ?z_zip ?z_enumerate ?z_isinstance ?z_bool ?z_str ?z_dict Lil.Law.hev
    (case a0 => k_is)
    (case l0 => k_is)
    (case c0 => k_is)
    (case k0 => k_is)
    (case a1 => k_is)
    (case l1 => k_is)
    (case c1 => k_is)
    (case k1 => k_is)
    (case a2 => k_is)
    (case l2 => k_is)
    (case c2 => k_is)
    (case k2 => k_is)
    (case a3 => k_is)
    (case l3 => k_is)
    (case c3 => k_is)
    (case k3 => k_is)
    (case a4 => k_is)
    (case l4 => k_is)
    (case c4 => k_is)
    (case k4 => k_is)
    (case a5 => k_is)
    (case l5 => k_is)
    (case c5 => k_is)
    (case k5 => k_is)
    (case a6 => k_is)
    (case l6 => k_is)
    (case c6 => k_is)
    (case k6 => k_is)
    (case a7 => k_is)
    (case l7 => k_is)
    (case c7 => k_is)
    (case k7 => k_is)
    (case a8 => k_is)
    (case l8 => k_is)
    (case c8 => k_is)
    (case k8 => k_is)
    (case a9 => k_is)
    (case l9 => k_is)
    (case c9 => k_is)
    (case k9 => k_is)
    (case a10 => k_is)
    (case l10 => k_is)
    (case c10 => k_is)
    (case k10 => k_is)
    (case a11 => k_is)
    (case l11 => k_is)
    (case c11 => k_is)
    (case k11 => k_is)
    (case a12 => k_is)
    (case l12 => k_is)
    (case c12 => k_is)
    (case k12 => k_is)
    (case a13 => k_is)
    (case l13 => k_is)
    (case c13 => k_is)
    (case k13 => k_is)
    (case a14 => k_is)
    (case l14 => k_is)
    (case c14 => k_is)
    (case k14 => k_is)
    (case a15 => k_is)
    (case l15 => k_is)
    (case c15 => k_is)
    (case k15 => k_is)
    (case a16 => k_is)
    (case l16 => k_is)
    (case c16 => k_is)
    (case k16 => k_is)
    (case a17 => k_is)
    (case l17 => k_is)
    (case c17 => k_is)
    (case k17 => k_is)
    (case a18 => k_is)
    (case l18 => k_is)
    (case c18 => k_is)
    (case k18 => k_is)
    (case a19 => k_is)
    (case l19 => k_is)
    (case c19 => k_is)
    (case k19 => k_is)
    (case a20 => k_is)
    (case l20 => k_is)
    (case c20 => k_is)
    (case k20 => k_is)
    (case a21 => k_is)
    (case l21 => k_is)
    (case c21 => k_is)
    (case k21 => k_is)
    (case ga0 => k_is)
    (case gl0 => k_is)
    (case z_len => k_is)
    (case z_list => k_is)
    (case z_tuple => k_is)
    (case z_any => k_is)
    (case z_all => k_is)
    (case z_min => k_is)
    (case z_max => k_is)
    (case z_sum => k_is)
    (case z_abs => k_is)
    (case z_int => k_is)
    (case z_sorted => k_is)
    (case z_range => k_is)
    (case z_zip => k_is)
    (case z_enumerate => k_is)
    (case z_isinstance => k_is)
    (case z_bool => k_is)
    (case z_str => k_is)
    (case z_dict => k_is)
