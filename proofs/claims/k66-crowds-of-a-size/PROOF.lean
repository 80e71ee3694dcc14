import PyProof.Rows.All
import Wide.All
import OpenK.AllK
import Wide.FinOn
import HandS.ForMost
import HandS.Flow
import HandS.Defaults
import HandS.Nested
import HandS.TupAny
import HandS.TupLe
import HandS.DictComp
import HandS.IsInst
import PyProof.StrOps2
import HandS.Deep
import KE.SortCalls
import HandS.SortKw
import KE.KSortKeySt
import HandS.Strs
import HandS.HeadEnd
import HandS.HeadWalk
import HandS.HeadHook4
import KE.KStateDown
import HandS.Head0
import HandS.Head1
import HandS.Head2
import PySem.Challenge.RW_keysfewest_k66_crowds_of_a_size
set_option autoImplicit false
set_option linter.all false
namespace KF
/-! An evaluator of a part of Python, over trees and a store. -/
abbrev Nm := List Nat
inductive W where
  | non | bl (b : Bool) | int (i : Int) | str (s : Nm)
  | tup (l : List W) | lst (l : List W) | scr (l : List W)
  | ins (c : Nat) (fs : List (Nat × W))
  | dic (l : List (W × W))
  | ref (i : Nat) | cls (c : Nat)
  deriving Inhabited, Repr
inductive Ob where
  | lst (l : List W) | dic (l : List (W × W)) | ins (c : Nat) (fs : List (Nat × W)) | dead
  deriving Inhabited, Repr
abbrev Sto := List Ob
abbrev Env := List (Option W)
inductive Res (α : Type) where
  | ok (a : α) (S : Sto)
  | ex (c : Nat) (fs : List (Nat × W)) (S : Sto)
  | stuck
  deriving Inhabited, Repr
def Res.bind {α β : Type} : Res α → (α → Sto → Res β) → Res β
  | .ok a S, f => f a S
  | .ex c fs S, _ => .ex c fs S
  | .stuck, _ => .stuck
theorem bind_ok {α β : Type} (a : α) (S : Sto) (f : α → Sto → Res β) : (Res.ok a S).bind f = f a S := rfl
theorem bind_stuck {α β : Type} (f : α → Sto → Res β) : (Res.stuck : Res α).bind f = .stuck := rfl
theorem bind_ex {α β : Type} (c : Nat) (fs : List (Nat × W)) (S : Sto) (f : α → Sto → Res β) : (Res.ex c fs S : Res α).bind f = .ex c fs S := rfl
def orStuck {α : Type} (o : Option α) (S : Sto) : Res α := match o with
  | some a => .ok a S
  | none => .stuck

/-! equality of trees -/
mutual
def W.beq : W → W → Bool
  | .non, .non => true
  | .bl a, .bl b => a == b
  | .int a, .int b => a == b
  | .str a, .str b => a == b
  | .tup a, .tup b => beqL a b
  | .lst a, .lst b => beqL a b
  | .scr a, .scr b => beqL a b
  | .ins c a, .ins d b => c == d && beqF a b
  | .dic a, .dic b => beqD a b
  | .ref a, .ref b => a == b
  | .cls a, .cls b => a == b
  | _, _ => false
def beqL : List W → List W → Bool
  | [], [] => true
  | x :: a, y :: b => x.beq y && beqL a b
  | _, _ => false
def beqF : List (Nat × W) → List (Nat × W) → Bool
  | [], [] => true
  | (i, x) :: a, (j, y) :: b => i == j && x.beq y && beqF a b
  | _, _ => false
def beqD : List (W × W) → List (W × W) → Bool
  | [], [] => true
  | (i, x) :: a, (j, y) :: b => i.beq j && x.beq y && beqD a b
  | _, _ => false
end
mutual
theorem W.beq_eq : ∀ (a b : W), a.beq b = true → a = b
  | .non, b, h => by cases b <;> simp_all [W.beq]
  | .bl a, b, h => by cases b <;> simp_all [W.beq]
  | .int a, b, h => by cases b <;> simp_all [W.beq]
  | .str a, b, h => by cases b <;> simp_all [W.beq]
  | .tup a, b, h => by cases b <;> simp [W.beq] at h; exact congrArg _ (beqL_eq _ _ h)
  | .lst a, b, h => by cases b <;> simp [W.beq] at h; exact congrArg _ (beqL_eq _ _ h)
  | .scr a, b, h => by cases b <;> simp [W.beq] at h; exact congrArg _ (beqL_eq _ _ h)
  | .ins c a, b, h => by cases b <;> simp [W.beq] at h; rw [h.1, beqF_eq _ _ h.2]
  | .dic a, b, h => by cases b <;> simp [W.beq] at h; exact congrArg _ (beqD_eq _ _ h)
  | .ref a, b, h => by cases b <;> simp_all [W.beq]
  | .cls a, b, h => by cases b <;> simp_all [W.beq]
theorem beqL_eq : ∀ (a b : List W), beqL a b = true → a = b
  | [], [], _ => rfl
  | [], _ :: _, h => by simp [beqL] at h
  | _ :: _, [], h => by simp [beqL] at h
  | x :: a, y :: b, h => by simp [beqL] at h; rw [W.beq_eq x y h.1, beqL_eq a b h.2]
theorem beqF_eq : ∀ (a b : List (Nat × W)), beqF a b = true → a = b
  | [], [], _ => rfl
  | [], _ :: _, h => by simp [beqF] at h
  | _ :: _, [], h => by simp [beqF] at h
  | (i, x) :: a, (j, y) :: b, h => by simp [beqF] at h; rw [h.1.1, W.beq_eq x y h.1.2, beqF_eq a b h.2]
theorem beqD_eq : ∀ (a b : List (W × W)), beqD a b = true → a = b
  | [], [], _ => rfl
  | [], _ :: _, h => by simp [beqD] at h
  | _ :: _, [], h => by simp [beqD] at h
  | (i, x) :: a, (j, y) :: b, h => by simp [beqD] at h; rw [W.beq_eq i j h.1.1, W.beq_eq x y h.1.2, beqD_eq a b h.2]
end
mutual
theorem W.beq_refl : ∀ (a : W), a.beq a = true
  | .non => by simp [W.beq]
  | .bl a => by simp [W.beq]
  | .int a => by simp [W.beq]
  | .str a => by simp [W.beq]
  | .tup a => by simp [W.beq, beqL_refl a]
  | .lst a => by simp [W.beq, beqL_refl a]
  | .scr a => by simp [W.beq, beqL_refl a]
  | .ins c a => by simp [W.beq, beqF_refl a]
  | .dic a => by simp [W.beq, beqD_refl a]
  | .ref a => by simp [W.beq]
  | .cls a => by simp [W.beq]
theorem beqL_refl : ∀ (a : List W), beqL a a = true
  | [] => by simp [beqL]
  | x :: a => by simp [beqL, W.beq_refl x, beqL_refl a]
theorem beqF_refl : ∀ (a : List (Nat × W)), beqF a a = true
  | [] => by simp [beqF]
  | (i, x) :: a => by simp [beqF, W.beq_refl x, beqF_refl a]
theorem beqD_refl : ∀ (a : List (W × W)), beqD a a = true
  | [] => by simp [beqD]
  | (i, x) :: a => by simp [beqD, W.beq_refl x, W.beq_refl i, beqD_refl a]
end
instance : DecidableEq W := fun a b => if h : a.beq b = true then isTrue (W.beq_eq a b h) else isFalse fun e => h (e ▸ W.beq_refl a)
def Ob.beq : Ob → Ob → Bool
  | .lst a, .lst b => beqL a b
  | .dic a, .dic b => beqD a b
  | .ins c a, .ins d b => c == d && beqF a b
  | .dead, .dead => true
  | _, _ => false
theorem Ob.beq_eq : ∀ (a b : Ob), a.beq b = true → a = b
  | .lst a, b, h => by cases b <;> simp [Ob.beq] at h; exact congrArg _ (beqL_eq _ _ h)
  | .dic a, b, h => by cases b <;> simp [Ob.beq] at h; exact congrArg _ (beqD_eq _ _ h)
  | .ins c a, b, h => by cases b <;> simp [Ob.beq] at h; rw [h.1, beqF_eq _ _ h.2]
  | .dead, b, h => by cases b <;> simp_all [Ob.beq]
theorem Ob.beq_refl : ∀ (a : Ob), a.beq a = true
  | .lst a => by simp [Ob.beq, beqL_refl a]
  | .dic a => by simp [Ob.beq, beqD_refl a]
  | .ins c a => by simp [Ob.beq, beqF_refl a]
  | .dead => rfl
instance : DecidableEq Ob := fun a b => if h : a.beq b = true then isTrue (Ob.beq_eq a b h) else isFalse fun e => h (e ▸ Ob.beq_refl a)

/-! Python's == over data; what it may be asked of -/
mutual
def eqv : W → W → Bool
  | .non, .non => true
  | .bl a, .bl b => a == b
  | .bl a, .int j => (if a then 1 else 0) == j
  | .int i, .bl b => i == (if b then 1 else 0)
  | .int i, .int j => i == j
  | .str x, .str y => x == y
  | .lst a, .lst b => eqvL a b
  | .tup a, .tup b => eqvL a b
  | _, _ => false
def eqvL : List W → List W → Bool
  | [], [] => true
  | x :: a, y :: b => eqv x y && eqvL a b
  | _, _ => false
end
/-- a text of plain signs -/
def plainS (s : Nm) : Bool := s.all fun c => Nat.blt c 55296
mutual
/-- data of depth at most n -/
def dat : Nat → W → Bool
  | _, .non => true
  | _, .bl _ => true
  | _, .int _ => true
  | _, .str s => plainS s
  | 0, _ => false
  | n + 1, .tup l => datL n l
  | n + 1, .lst l => datL n l
  | _ + 1, _ => false
termination_by structural _ w => w
def datL : Nat → List W → Bool
  | _, [] => true
  | n, w :: r => dat n w && datL n r
termination_by structural _ l => l
end

/-! ### the syntax -/
inductive Bop where | add | sub | mul | fdiv | mod | pow | bor | band | bxor | shl | shr
  deriving DecidableEq, Repr
inductive Cop where | eq | ne | lt | le | gt | ge | is | isnot | isin | notin
  deriving DecidableEq, Repr
/-- a built-in function, or a short nest of them -/
inductive Blt where | len | int | list | tuple | sorted | lenSet | sortedSet | sortedXor | min2 | max2 | sum | any | all | isList
  deriving DecidableEq, Repr
/-- a built-in method -/
inductive Bm where | append | extend | insert | pop | popd | index | get1 | get2 | setd | rev | clear | copy
  deriving DecidableEq, Repr
inductive Tg where | nm (i : Nat) | tp (l : List Nat) | tq (i : Nat) (l : List Nat)
  deriving DecidableEq, Repr
mutual
inductive E where
  | var (i : Nat) | int (i : Int) | str (s : Nm) | bl (b : Bool) | non | glob (g : Nat)
  | tup (es : Es) | lst (m : Bool) (es : Es) | dct (m : Bool) (ks vs : Es)
  | bin (op : Bop) (m : Bool) (a b : E) | neg (a : E)
  | cmp (op : Cop) (a b : E) | chn (o1 o2 : Cop) (a b c : E)
  | and (a b : E) | or (a b : E) | not (a : E) | ite (c a b : E)
  | sub (a i : E) | slc (m : Bool) (a : E) (lo hi : Eo)
  | attr (a : E) (f : Nat)
  | call (f : Nat) (es : Es)
  | callk (f : Nat) (es : Es) (kn : List Nat) (kes : Es)
  | make (c : Nat) (m : Bool) (es : Es) (kn : List Nat) (kes : Es)
  | meth (o : E) (n : Nat) (es : Es)
  | blt (b : Blt) (m : Bool) (es : Es)
  | bm (b : Bm) (m : Bool) (o : E) (es : Es)
  | lc (m : Bool) (elt : E) (tg : Tg) (it : It) (cs : Es)
  | lc2 (m : Bool) (elt : E) (tg : Tg) (it : It) (cs : Es) (tg2 : Tg) (it2 : It) (cs2 : Es)
  | tgen (elt : E) (tg : Tg) (it : It) (cs : Es)
  | dc (m : Bool) (k v : E) (tg : Tg) (it : It) (cs : Es)
  | sortk (m : Bool) (a : E) (id : Nat) (js : List Nat) (ns : Nat) (key : E)
  | frz (a : E)
inductive Es where | nil | cons (e : E) (r : Es)
inductive Eo where | none | some (e : E)
inductive It where
  | val (e : E) | rng1 (e : E) | rng2 (a b : E) | rev1 (e : E) | revl (e : E) | enum (e : E) | zip (a b : E) | items (e : E) | vals (e : E)
end
mutual
inductive S where
  | set (i : Nat) (e : E) | unp (l : List Nat) (e : E) | par (l : List Nat) (es : Es)
  | asub (o i e : E) | afld (o : E) (f : Nat) (e : E)
  | aug (i : Nat) (op : Bop) (e : E) | augf (o : E) (f : Nat) (op : Bop) (e : E)
  | expr (e : E) | ret (e : E) | retn
  | ite (c : E) (a b : Ss) | for (tg : Tg) (it : It) (b : Ss) | whl (c : E) (b : Ss)
  | pass | brk | cnt
  | raise (e : E)
inductive Ss where | nil | cons (s : S) (r : Ss)
end

/-! ### values by the store -/
def SZ : Nat := 1000000
def seqOf (S : Sto) : W → Option (List W)
  | .tup l => some l
  | .lst l => some l
  | .scr l => some l
  | .ref i => match S[i]? with
    | some (.lst l) => some l
    | _ => none
  | _ => none
def lstOf (S : Sto) : W → Option (List W)
  | .lst l => some l
  | .ref i => match S[i]? with
    | some (.lst l) => some l
    | _ => none
  | _ => none
def dicOf (S : Sto) : W → Option (List (W × W))
  | .dic l => some l
  | .ref i => match S[i]? with
    | some (.dic l) => some l
    | _ => none
  | _ => none
def insOf (S : Sto) : W → Option (Nat × List (Nat × W))
  | .ins c fs => some (c, fs)
  | .ref i => match S[i]? with
    | some (.ins c fs) => some (c, fs)
    | _ => none
  | _ => none
/-- a list for ==: what stands in it -/
def deref (S : Sto) (w : W) : W := match w with
  | .ref i => match S[i]? with
    | some (.lst l) => .lst l
    | _ => w
  | _ => w
def truthy (S : Sto) : W → Option Bool
  | .non => some false
  | .bl b => some b
  | .int i => some (i != 0)
  | .str s => if s.length ≤ SZ then some !s.isEmpty else none
  | .tup l => some !l.isEmpty
  | .lst l => some !l.isEmpty
  | .scr l => some !l.isEmpty
  | .dic l => some !l.isEmpty
  | .ref i => match S[i]? with
    | some (.lst l) => some !l.isEmpty
    | some (.dic l) => some !l.isEmpty
    | _ => none
  | _ => none
def alloc (o : Ob) (S : Sto) : Res W := .ok (.ref S.length) (S ++ [o])
def mkL (m : Bool) (l : List W) (S : Sto) : Res W := if l.length ≤ SZ then (if m then alloc (.lst l) S else .ok (.lst l) S) else .stuck
def mkT (l : List W) (S : Sto) : Res W := if l.length ≤ SZ then .ok (.tup l) S else .stuck
def mkD (m : Bool) (l : List (W × W)) (S : Sto) : Res W := if l.length ≤ SZ then (if m then alloc (.dic l) S else .ok (.dic l) S) else .stuck
/-- Python's index -/
def pyIx (n : Nat) (i : Int) : Option Nat := if 0 ≤ i then (if i < n then some i.toNat else none) else if -(n : Int) ≤ i then some (i + n).toNat else none
def cutAt (n d : Nat) : Option Int → Nat
  | none => d
  | some v => if v < 0 then (v + (n : Int)).toNat else min v.toNat n
def cut {α : Type} (l : List α) (lo hi : Option Int) : List α := (l.drop (cutAt l.length 0 lo)).take (cutAt l.length l.length hi - cutAt l.length 0 lo)
def hkey : W → Bool
  | .int _ => true
  | .str _ => true
  | _ => false
def dget (k : W) : List (W × W) → Option W
  | [] => none
  | (j, v) :: r => if j = k then some v else dget k r
def dput (k v : W) (l : List (W × W)) : List (W × W) := if (l.any fun p => decide (p.1 = k)) = true then l.map (fun p => if p.1 = k then (p.1, v) else p) else l ++ [(k, v)]
def ddel (k : W) (l : List (W × W)) : List (W × W) := l.filter fun p => decide (p.1 ≠ k)
def fget (f : Nat) : List (Nat × W) → Option W
  | [] => none
  | (g, v) :: r => if f = g then some v else fget f r
def fput (f : Nat) (v : W) : List (Nat × W) → List (Nat × W)
  | [] => [(f, v)]
  | (g, u) :: r => if g = f then (g, v) :: r else (g, u) :: fput f v r
def wints : List W → Option (List Int)
  | [] => some []
  | .int i :: r => (wints r).map (i :: ·)
  | _ => none
def wstrs : List W → Option (List Nm)
  | [] => some []
  | .str s :: r => (wstrs r).map (s :: ·)
  | _ => none
def bools : List W → Option (List Bool)
  | [] => some []
  | .bl b :: r => (bools r).map (b :: ·)
  | _ => none
def nmLt : Nm → Nm → Bool
  | [], [] => false
  | [], _ :: _ => true
  | _ :: _, [] => false
  | x :: a, y :: b => if x = y then nmLt a b else Nat.blt x y
/-! the order of data -/
mutual
def alikeW : W → W → Bool
  | .non, .non => true
  | .bl _, .bl _ => true
  | .int _, .int _ => true
  | .str _, .str _ => true
  | .lst a, .lst b => alikeWL a b
  | .tup a, .tup b => alikeWL a b
  | _, _ => false
def alikeWL : List W → List W → Bool
  | x :: a, y :: b => alikeW x y && alikeWL a b
  | [], _ => true
  | _ :: _, [] => true
end
mutual
def wLt : W → W → Bool
  | .bl a, .bl b => !a && b
  | .int i, .int j => decide (i < j)
  | .str s, .str t => nmLt s t
  | .lst a, .lst b => wLtL a b
  | .tup a, .tup b => wLtL a b
  | _, _ => false
def wLtL : List W → List W → Bool
  | [], [] => false
  | [], _ :: _ => true
  | _ :: _, [] => false
  | x :: a, y :: b => if eqv x y then wLtL a b else wLt x y
end
def tup1 : W → Bool
  | .tup (_ :: _) => true
  | _ => false
def tup0 : W → Bool
  | .tup _ => false
  | .non => false
  | _ => true
/-- alike data, all tuples with an item or no tuple among them -/
def sortable (l : List W) : Bool := datL 60 l && (l.all fun x => l.all fun y => alikeW x y) && (l.all tup1 || l.all tup0)
/-- ws by the keys ks, stable -/
def sortW (ks ws : List W) : List W := ((ks.zip ws).mergeSort fun p q => !wLt q.1 p.1).map fun p => p.2
def undup {α : Type} [DecidableEq α] : List α → List α
  | [] => []
  | x :: r => if x ∈ r then undup r else x :: undup r
def pget {α : Type} (k : Nat) : List (Nat × α) → Option α
  | [] => none
  | (j, v) :: r => if k = j then some v else pget k r
def mget {α : Type} (c n : Nat) : List (Nat × Nat × α) → Option α
  | [] => none
  | (d, j, v) :: r => if c = d ∧ n = j then some v else mget c n r

/-! ### the evaluator -/
structure Def where
  np : Nat
  ns : Nat
  body : Ss
structure Prog where
  dfs : List (Nat × Def)
  meth : List (Nat × Nat × Nat) := []
  ini : List (Nat × Nat) := []
  glob : List (Nat × W) := []
  /-- the keywords' places among the parameters, the defaults: by def -/
  kws : List (Nat × List (Nat × Nat)) := []
/-- the guard of a loop over a thing of the store: it stands as it stood -/
abbrev Gd := Option (Nat × Ob)
def gdOk (g : Gd) (S : Sto) : Bool := match g with
  | none => true
  | some (i, o) => decide (S[i]? = some o)
def gdOf (S : Sto) : W → Gd
  | .ref i => (S[i]?).map fun o => (i, o)
  | _ => none
def setT : Tg → W → Env → Option Env
  | .nm i, w, env => some (env.set i (some w))
  | .tp l, .tup ws, env => if l.length = ws.length then some ((l.zip ws).foldl (fun e p => e.set p.1 (some p.2)) env) else none
  | .tq i l, .tup [w, .tup ws], env => if l.length = ws.length then some ((l.zip ws).foldl (fun e p => e.set p.1 (some p.2)) (env.set i (some w))) else none
  | _, _, _ => none
/-- the elements of a comprehension -/
def lcLoop (g : Gd) (f : W → Sto → Res (Option W)) : List W → Sto → Res (List W)
  | [], S => .ok [] S
  | x :: r, S => (f x S).bind fun o S1 => if gdOk g S1 then (lcLoop g f r S1).bind fun ws S2 => .ok (o.toList ++ ws) S2 else .stuck
def lc2Loop (g : Gd) (f : W → Sto → Res (List W)) : List W → Sto → Res (List W)
  | [], S => .ok [] S
  | x :: r, S => (f x S).bind fun o S1 => if gdOk g S1 then (lc2Loop g f r S1).bind fun ws S2 => .ok (o ++ ws) S2 else .stuck
/-- the pairs of a dict comprehension -/
def dcPut (o : Option (W × W)) (d : List (W × W)) : List (W × W) := match o with
  | some p => dput p.1 p.2 d
  | none => d
def dcLoop (g : Gd) (f : W → Sto → Res (Option (W × W))) : List W → List (W × W) → Sto → Res (List (W × W))
  | [], d, S => .ok d S
  | x :: r, d, S => (f x S).bind fun o S1 => if gdOk g S1 then dcLoop g f r (dcPut o d) S1 else .stuck
abbrev CF := Nat → List W → Sto → Res W
def mulOk (i j : Int) : Bool := (decide (-(2 ^ 64) < i) && decide (i < 2 ^ 64)) || (decide (-(2 ^ 64) < j) && decide (j < 2 ^ 64))
def binop (op : Bop) (m : Bool) (x y : W) (S : Sto) : Res W := match op, x, y with
  | .add, .int i, .int j => .ok (.int (i + j)) S
  | .add, .str a, .str b => if a.length + b.length ≤ SZ then .ok (.str (a ++ b)) S else .stuck
  | .add, .tup a, .tup b => if a.length + b.length ≤ SZ then .ok (.tup (a ++ b)) S else .stuck
  | .add, a, b => match lstOf S a, lstOf S b with
    | some l, some r => mkL m (l ++ r) S
    | _, _ => .stuck
  | .sub, .int i, .int j => .ok (.int (i - j)) S
  | .mul, .int i, .int j => if mulOk i j then .ok (.int (i * j)) S else .stuck
  | .mul, .str a, .int j => if 0 ≤ j ∧ a.length * j.toNat ≤ SZ ∧ j ≤ SZ then .ok (.str (List.replicate j.toNat a).flatten) S else .stuck
  | .mul, a, .int j => match lstOf S a with
    | some l => if 0 ≤ j ∧ j ≤ SZ then mkL m (List.replicate j.toNat l).flatten S else .stuck
    | _ => .stuck
  | .fdiv, .int i, .int j => if j ≠ 0 ∧ j.natAbs < 1073741824 then .ok (.int (i.fdiv j)) S else .stuck
  | .mod, .int i, .int j => if j ≠ 0 then .ok (.int (i.fmod j)) S else .stuck
  | .pow, .int i, .int j => if 0 ≤ j ∧ j ≤ 1000000 ∧ i.natAbs < 2 ^ 64 then .ok (.int (i ^ j.toNat)) S else .stuck
  | _, _, _ => .stuck
def augOp (op : Bop) (x y : W) (S : Sto) : Res W := match op, x, y with
  | .add, .int a, .int b => .ok (.int (a + b)) S
  | .sub, .int a, .int b => .ok (.int (a - b)) S
  | _, _, _ => .stuck
def mem (x : W) (l : List W) : Bool := l.any fun y => eqv y x
/-- a sign in a text -/
def cmpop (op : Cop) (x y : W) (S : Sto) : Res Bool := match op, x, y with
  | .lt, .int i, .int j => .ok (decide (i < j)) S
  | .le, .int i, .int j => .ok (decide (i ≤ j)) S
  | .gt, .int i, .int j => .ok (decide (j < i)) S
  | .ge, .int i, .int j => .ok (decide (j ≤ i)) S
  | .is, x, .non => .ok (decide (x = .non)) S
  | .isnot, x, .non => .ok (!decide (x = .non)) S
  | .eq, x, y => if dat 60 (deref S x) && dat 60 (deref S y) then .ok (eqv (deref S x) (deref S y)) S else .stuck
  | .ne, x, y => if dat 60 (deref S x) && dat 60 (deref S y) then .ok (!eqv (deref S x) (deref S y)) S else .stuck
  | .isin, x, y => match seqOf S y with
    | some l => if dat 60 x && datL 60 l then .ok (mem x l) S else .stuck
    | none => match dicOf S y with
      | some l => if hkey x then .ok (dget x l).isSome S else .stuck
      | none => .stuck
  | .notin, x, y => match seqOf S y with
    | some l => if dat 60 x && datL 60 l then .ok (!mem x l) S else .stuck
    | none => match dicOf S y with
      | some l => if hkey x then .ok (!(dget x l).isSome) S else .stuck
      | none => .stuck
  | _, _, _ => .stuck
def subs (x i : W) (S : Sto) : Res W := match x, i with
  | .str s, .int k => if s.length ≤ SZ then match pyIx s.length k with
    | some j => match s[j]? with
      | some c => .ok (.str [c]) S
      | none => .stuck
    | none => .stuck else .stuck
  | x, i => match seqOf S x, i with
    | some l, .int k => match pyIx l.length k with
      | some j => orStuck l[j]? S
      | none => .stuck
    | _, _ => match dicOf S x with
      | some l => if hkey i then orStuck (dget i l) S else .stuck
      | none => .stuck
def sorted (m : Bool) (l : List W) (S : Sto) : Res W := if sortable l then mkL m (sortW l l) S else .stuck
def sortedSet (m : Bool) (l : List W) (S : Sto) : Res W := match wints l with
  | some is => sorted m ((undup is).map .int) S
  | none => match wstrs l with
    | some ss => sorted m ((undup ss).map .str) S
    | none => .stuck
/-- the keys of a keyed sort -/
def keyLoop (f : W → Sto → Res W) : List W → Sto → Res (List W)
  | [], S => .ok [] S
  | x :: r, S => (f x S).bind fun k S => (keyLoop f r S).bind fun ks S => .ok (k :: ks) S
def bltin (b : Blt) (m : Bool) (ws : List W) (S : Sto) : Res W := match b, ws with
  | .len, [.str s] => if s.length ≤ SZ then .ok (.int s.length) S else .stuck
  | .len, [x] => match seqOf S x with
    | some l => .ok (.int l.length) S
    | none => match dicOf S x with
      | some l => .ok (.int l.length) S
      | none => .stuck
  | .int, [.int i] => .ok (.int i) S
  | .int, [.bl b] => .ok (.int (if b then 1 else 0)) S
  | .list, [x] => match seqOf S x with
    | some l => mkL m l S
    | none => .stuck
  | .tuple, [x] => match seqOf S x with
    | some l => mkT l S
    | none => .stuck
  | .sorted, [x] => match lstOf S x with
    | some l => sorted m l S
    | none => .stuck
  | .lenSet, [x] => match (lstOf S x).bind wstrs with
    | some ss => if ss.all plainS && decide (ss.length ≤ 200) then .ok (.int (undup ss).length) S else .stuck
    | none => .stuck
  | .sortedSet, [x] => match lstOf S x with
    | some l => sortedSet m l S
    | none => .stuck
  | .min2, [.int i, .int j] => .ok (.int (if j < i then j else i)) S
  | .max2, [.int i, .int j] => .ok (.int (if j > i then j else i)) S
  | .any, [x] => match (lstOf S x).bind bools with
    | some bs => .ok (.bl (bs.any id)) S
    | none => .stuck
  | .all, [x] => match (lstOf S x).bind bools with
    | some bs => .ok (.bl (bs.all id)) S
    | none => .stuck
  | .sum, [x] => match (lstOf S x).bind wints with
    | some is => .ok (.int is.sum) S
    | none => .stuck
  | .isList, [x] => match lstOf S x with
    | some _ => .ok (.bl true) S
    | none => match x with
      | .tup _ => .ok (.bl false) S
      | .str _ => .ok (.bl false) S
      | _ => .stuck
  | _, _ => .stuck
def bmeth (b : Bm) (m : Bool) (o : W) (ws : List W) (S : Sto) : Res W := match o with
  | .ref i => match S[i]? with
    | some (.lst l) => match b, ws with
      | .append, [x] => if l.length < SZ then .ok .non (S.set i (.lst (l ++ [x]))) else .stuck
      | .extend, [x] => match lstOf S x with
        | some r => if l.length + r.length ≤ SZ then .ok .non (S.set i (.lst (l ++ r))) else .stuck
        | none => .stuck
      | .insert, [.int k, x] => if 0 ≤ k ∧ k ≤ l.length ∧ l.length < SZ then .ok .non (S.set i (.lst (l.take k.toNat ++ x :: l.drop k.toNat))) else .stuck
      | .pop, [] => match l[l.length - 1]? with
        | some x => .ok x (S.set i (.lst l.dropLast))
        | none => .stuck
      | _, _ => .stuck
    | some (.dic l) => match b, ws with
      | .popd, [k, d] => if hkey k then .ok ((dget k l).getD d) (S.set i (.dic (ddel k l))) else .stuck
      | .get1, [k] => if hkey k then .ok ((dget k l).getD .non) S else .stuck
      | .get2, [k, d] => if hkey k then .ok ((dget k l).getD d) S else .stuck
      | _, _ => .stuck
    | _ => .stuck
  | _ => .stuck
/-- the receiver's kind -/
def bmOk (b : Bm) (x : W) (S : Sto) : Bool := match b with
  | .append | .extend | .insert | .pop | .rev | .clear => (match x with
    | .ref i => match S[i]? with
      | some (.lst _) => true
      | _ => false
    | _ => false)
  | .index => (seqOf S x).isSome
  | .popd | .setd => (match x with
    | .ref i => match S[i]? with
      | some (.dic _) => true
      | _ => false
    | _ => false)
  | .get1 | .get2 | .copy => (dicOf S x).isSome
def setSub (o i v : W) (S : Sto) : Res Unit := match o with
  | .ref a => match S[a]? with
    | some (.lst l) => match i with
      | .int k => match pyIx l.length k with
        | some j => .ok () (S.set a (.lst (l.set j v)))
        | none => .stuck
      | _ => .stuck
    | some (.dic l) => if hkey i ∧ l.length < SZ then .ok () (S.set a (.dic (dput i v l))) else .stuck
    | _ => .stuck
  | _ => .stuck
def freeze (w : W) (S : Sto) : Res W := match w with
  | .ref i => match S[i]? with
    | some (.lst l) => .ok (.lst l) (S.set i .dead)
    | some (.dic l) => .ok (.dic l) (S.set i .dead)
    | some (.ins c fs) => .ok (.ins c fs) (S.set i .dead)
    | _ => .stuck
  | w => .ok w S
def optI : Option W → Option (Option Int)
  | none => some none
  | some (.int i) => some (some i)
  | _ => none
def slice (m : Bool) (x : W) (lo hi : Option W) (S : Sto) : Res W := match optI lo, optI hi with
  | some lo, some hi => match x with
    | .tup l => .ok (.tup (cut l lo hi)) S
    | x => match lstOf S x with
      | some l => if l.length ≤ SZ then mkL m (cut l lo hi) S else .stuck
      | none => .stuck
  | _, _ => .stuck
mutual
def evE (G : Prog) (cf : CF) : E → Env → Sto → Res W
  | .var i, env, S => match env[i]? with
    | some (some w) => .ok w S
    | _ => .stuck
  | .int i, _, S => .ok (.int i) S
  | .str s, _, S => .ok (.str s) S
  | .bl b, _, S => .ok (.bl b) S
  | .non, _, S => .ok .non S
  | .glob g, _, S => orStuck (pget g G.glob) S
  | .tup es, env, S => (evEs G cf es env S).bind fun ws S => mkT ws S
  | .lst m es, env, S => (evEs G cf es env S).bind fun ws S => mkL m ws S
  | .dct m ks vs, env, S => .stuck
  | .bin op m a b, env, S => (evE G cf a env S).bind fun x S => (evE G cf b env S).bind fun y S => binop op m x y S
  | .neg a, env, S => (evE G cf a env S).bind fun x S => match x with
    | .int i => .ok (.int (-i)) S
    | _ => .stuck
  | .cmp op a b, env, S => (evE G cf a env S).bind fun x S => (evE G cf b env S).bind fun y S => (cmpop op x y S).bind fun k S => .ok (.bl k) S
  | .chn o1 o2 a b c, env, S => (evE G cf a env S).bind fun x S => (evE G cf b env S).bind fun y S => (cmpop o1 x y S).bind fun k S =>
      if k then (evE G cf c env S).bind fun z S => (cmpop o2 y z S).bind fun k S => .ok (.bl k) S else .ok (.bl false) S
  | .and a b, env, S => (evE G cf a env S).bind fun x S => match truthy S x with
    | some true => evE G cf b env S
    | some false => .ok x S
    | none => .stuck
  | .or a b, env, S => (evE G cf a env S).bind fun x S => match truthy S x with
    | some true => .ok x S
    | some false => evE G cf b env S
    | none => .stuck
  | .not a, env, S => (evE G cf a env S).bind fun x S => match truthy S x with
    | some k => .ok (.bl !k) S
    | none => .stuck
  | .ite c a b, env, S => (evE G cf c env S).bind fun x S => match truthy S x with
    | some true => evE G cf a env S
    | some false => evE G cf b env S
    | none => .stuck
  | .sub a i, env, S => (evE G cf a env S).bind fun x S => (evE G cf i env S).bind fun y S => subs x y S
  | .slc m a lo hi, env, S => (evE G cf a env S).bind fun x S => (evO G cf lo env S).bind fun l S => (evO G cf hi env S).bind fun h S => slice m x l h S
  | .attr a f, env, S => (evE G cf a env S).bind fun x S => match insOf S x with
    | some (_, fs) => orStuck (fget f fs) S
    | none => .stuck
  | .call f es, env, S => (evEs G cf es env S).bind fun ws S => cf f ws S
  | .callk f es kn kes, env, S => .stuck
  | .make c m es kn kes, env, S => .stuck
  | .meth o n es, env, S => (evE G cf o env S).bind fun x S => match insOf S x with
    | some (c, _) => match mget c n G.meth with
      | some f => (evEs G cf es env S).bind fun ws S => cf f (x :: ws) S
      | none => .stuck
    | none => .stuck
  | .blt b m es, env, S => (evEs G cf es env S).bind fun ws S => bltin b m ws S
  | .bm b m o es, env, S => (evE G cf o env S).bind fun x S => if bmOk b x S = true then (evEs G cf es env S).bind fun ws S => bmeth b m x ws S else .stuck
  | .lc m elt tg it cs, env, S => (evI G cf it env S).bind fun p S => if p.1.length ≤ SZ then (lcLoop p.2 (fun x S => match setT tg x env with
      | none => .stuck
      | some env' => (evTs G cf cs env' S).bind fun b S => if b then (evE G cf elt env' S).bind fun w S => .ok (some w) S else .ok none S) p.1 S).bind fun ws S => mkL m ws S else .stuck
  | .lc2 m elt tg it cs tg2 it2 cs2, env, S => (evI G cf it env S).bind fun p S => (lc2Loop p.2 (fun x S => match setT tg x env with
      | none => .stuck
      | some env' => (evTs G cf cs env' S).bind fun b S => if b then (evI G cf it2 env' S).bind fun p2 S => lcLoop p2.2 (fun x S => match setT tg2 x env' with
          | none => .stuck
          | some env2 => (evTs G cf cs2 env2 S).bind fun b S => if b then (evE G cf elt env2 S).bind fun w S => .ok (some w) S else .ok none S) p2.1 S
        else .ok [] S) p.1 S).bind fun ws S => mkL m ws S
  | .tgen elt tg it cs, env, S => .stuck
  | .dc m k v tg it cs, env, S => (evI G cf it env S).bind fun p S => if p.1.length ≤ SZ then (dcLoop p.2 (fun x S => match setT tg x env with
      | none => .stuck
      | some env' => (evTs G cf cs env' S).bind fun b S => if b then (evE G cf k env' S).bind fun w S => if hkey w then (evE G cf v env' S).bind fun u S => .ok (some (w, u)) S else .stuck else .ok none S) p.1 [] S).bind fun d S => mkD m d S else .stuck
  | .sortk m a _ js ns key, env, S => (evE G cf a env S).bind fun x S => match lstOf S x with
    | some l => if l.length ≤ SZ then (keyLoop (fun w S => evE G cf key (some w :: (js.map (fun j => (env[j]?).join) ++ List.replicate ns none)) S) l S).bind fun ks S => if sortable ks then mkL m (sortW ks l) S else .stuck else .stuck
    | none => .stuck
  | .frz a, env, S => (evE G cf a env S).bind fun w S => freeze w S
def evEs (G : Prog) (cf : CF) : Es → Env → Sto → Res (List W)
  | .nil, _, S => .ok [] S
  | .cons e r, env, S => (evE G cf e env S).bind fun w S => (evEs G cf r env S).bind fun ws S => .ok (w :: ws) S
def evO (G : Prog) (cf : CF) : Eo → Env → Sto → Res (Option W)
  | .none, _, S => .ok none S
  | .some e, env, S => (evE G cf e env S).bind fun w S => .ok (some w) S
/-- the tests of a clause -/
def evTs (G : Prog) (cf : CF) : Es → Env → Sto → Res Bool
  | .nil, _, S => .ok true S
  | .cons e .nil, env, S => (evE G cf e env S).bind fun w S => match truthy S w with
    | some b => .ok b S
    | none => .stuck
  | .cons _ (.cons _ _), _, _ => .stuck
def evI (G : Prog) (cf : CF) : It → Env → Sto → Res (List W × Gd)
  | .val e, env, S => (evE G cf e env S).bind fun w S => match seqOf S w with
    | some l => .ok (l, gdOf S w) S
    | none => .stuck
  | .rng1 e, env, S => (evE G cf e env S).bind fun w S => match w with
    | .int n => if n ≤ SZ ∧ -(SZ : Int) ≤ n then .ok ((List.range n.toNat).map fun k => .int (k : Nat), none) S else .stuck
    | _ => .stuck
  | .rng2 a b, env, S => (evE G cf a env S).bind fun x S => (evE G cf b env S).bind fun y S => match x, y with
    | .int i, .int j => if j ≤ SZ ∧ -(SZ : Int) ≤ i ∧ i ≤ SZ ∧ -(SZ : Int) ≤ j then .ok ((List.range (j - i).toNat).map fun k => .int (i + (k : Nat)), none) S else .stuck
    | _, _ => .stuck
  | .enum e, env, S => (evE G cf e env S).bind fun w S => match lstOf S w with
    | some l => .ok (l.zipIdx.map fun p => .tup [.int p.2, p.1], gdOf S w) S
    | none => .stuck
  | .rev1 _, _, _ => .stuck
  | .revl _, _, _ => .stuck
  | .zip _ _, _, _ => .stuck
  | .items _, _, _ => .stuck
  | .vals _, _, _ => .stuck
end
def evT (G : Prog) (cf : CF) (e : E) (env : Env) (S : Sto) : Res Bool := (evE G cf e env S).bind fun w S => match truthy S w with
  | some b => .ok b S
  | none => .stuck

/-! ### statements -/
inductive Fl where
  | nx (env : Env) | rt (w : W) | bk (env : Env) | ct (env : Env) | xc (c : Nat) (fs : List (Nat × W)) (env : Env)
  deriving Inhabited, Repr
/-- an exception of an expression, in a body -/
def Res.thenS {α : Type} (r : Res α) (env : Env) (f : α → Sto → Res Fl) : Res Fl := match r with
  | .ok a S => f a S
  | .ex c fs S => .ok (.xc c fs env) S
  | .stuck => .stuck
def forLoop (g : Gd) (f : W → Env → Sto → Res Fl) : List W → Env → Sto → Res Fl
  | [], env, S => .ok (.nx env) S
  | x :: r, env, S => (f x env S).bind fun q S => match q with
    | .nx env => if gdOk g S then forLoop g f r env S else .stuck
    | .ct env => if gdOk g S then forLoop g f r env S else .stuck
    | .bk env => .ok (.nx env) S
    | q => .ok q S
def whlLoop (t : Env → Sto → Res Bool) (f : Env → Sto → Res Fl) : Nat → Env → Sto → Res Fl
  | 0, _, _ => .stuck
  | n + 1, env, S => (t env S).thenS env fun b S => if b then (f env S).bind fun q S => match q with
    | .nx env => whlLoop t f n env S
    | .ct env => whlLoop t f n env S
    | .bk env => .ok (.nx env) S
    | q => .ok q S else .ok (.nx env) S
mutual
def evS (G : Prog) (cf : CF) (wf : Nat) : S → Env → Sto → Res Fl
  | .set i e, env, S => (evE G cf e env S).thenS env fun w S => .ok (.nx (env.set i (some w))) S
  | .unp l e, env, S => (evE G cf e env S).thenS env fun w S => match setT (.tp l) w env with
    | some env => .ok (.nx env) S
    | none => .stuck
  | .par l es, env, S => .stuck
  | .asub o i e, env, S => (evE G cf e env S).thenS env fun v S => (evE G cf o env S).thenS env fun x S => (evE G cf i env S).thenS env fun y S => (setSub x y v S).thenS env fun _ S => .ok (.nx env) S
  | .afld o f e, env, S => (evE G cf e env S).thenS env fun v S => (evE G cf o env S).thenS env fun x S => match x with
    | .ref i => match S[i]? with
      | some (.ins c fs) => if fs.length < 900 then .ok (.nx env) (S.set i (.ins c (fput f v fs))) else .stuck
      | _ => .stuck
    | _ => .stuck
  | .aug i op e, env, S => match env[i]? with
    | some (some x) => (evE G cf e env S).thenS env fun y S => (augOp op x y S).thenS env fun w S => .ok (.nx (env.set i (some w))) S
    | _ => .stuck
  | .augf o f op e, env, S => .stuck
  | .expr e, env, S => (evE G cf e env S).thenS env fun _ S => .ok (.nx env) S
  | .ret e, env, S => (evE G cf e env S).thenS env fun w S => .ok (.rt w) S
  | .retn, _, S => .ok (.rt .non) S
  | .ite c a b, env, S => (evT G cf c env S).thenS env fun k S => if k then evSs G cf wf a env S else evSs G cf wf b env S
  | .for tg it b, env, S => (evI G cf it env S).thenS env fun p S => forLoop p.2 (fun x env S => match setT tg x env with
    | some env => evSs G cf wf b env S
    | none => .stuck) p.1 env S
  | .whl c b, env, S => whlLoop (fun env S => evT G cf c env S) (fun env S => evSs G cf wf b env S) wf env S
  | .pass, env, S => .ok (.nx env) S
  | .brk, env, S => .ok (.bk env) S
  | .cnt, env, S => .ok (.ct env) S
  | .raise _, _, _ => .stuck
def evSs (G : Prog) (cf : CF) (wf : Nat) : Ss → Env → Sto → Res Fl
  | .nil, env, S => .ok (.nx env) S
  | .cons s r, env, S => (evS G cf wf s env S).bind fun q S => match q with
    | .nx env => evSs G cf wf r env S
    | q => .ok q S
end
def runD (G : Prog) (cf : CF) (wf : Nat) (D : Def) (ws : List W) (S : Sto) : Res W := if ws.length = D.np then
  (evSs G cf wf D.body (ws.map some ++ List.replicate (D.ns - D.np) none) S).bind fun q S => match q with
    | .nx _ => .ok .non S
    | .rt w => .ok w S
    | .xc c fs _ => .ex c fs S
    | _ => .stuck
  else .stuck
/-- a def called, at most d calls deep -/
def callD (G : Prog) (wf : Nat) : Nat → CF
  | 0, _, _, _ => .stuck
  | d + 1, f, ws, S => match pget f G.dfs with
    | some D => runD G (callD G wf d) wf D ws S
    | none => .stuck
end KF


set_option Elab.async false
set_option linter.all false
set_option autoImplicit false
set_option maxRecDepth 100000
namespace KF
open PySem L2
abbrev Hp := L2.Hp
/-- names by number, classes' addresses by number -/
structure Tab where
  nm : Nat → Str
  ca : Nat → Addr
  /-- the code tables of defs that make functions, with those functions' name -/
  tabs : List (Addr × Str) := []
/-- neither a table nor a thing of another kind -/
def PlainO (x : Option HO) : Prop := ∀ u, x = some u → (∀ ps, u ≠ .tbl ps) ∧ ∀ φ, u ≠ .ext φ
/-- neither a table nor a thing of another kind -/
def PlainH (u : HO) : Prop := (∀ ps, u ≠ .tbl ps) ∧ ∀ φ, u ≠ .ext φ
theorem PlainO.none {x : Option HO} (h : x = none) : PlainO x := fun u e => by rw [h] at e; cases e
theorem PlainO.lst {x : Option HO} {l : List V} (h : x = some (.lst l)) : PlainO x := fun u e => by rw [h] at e; cases e; exact ⟨fun _ z => (nomatch z), fun _ z => (nomatch z)⟩
theorem PlainO.dK {x : Option HO} {l : List (Key × V)} (h : x = some (.dK l)) : PlainO x := fun u e => by rw [h] at e; cases e; exact ⟨fun _ z => (nomatch z), fun _ z => (nomatch z)⟩
theorem tabs_upd {L : List (Addr × Str)} {H : Hp} {p : Addr} {o : HO} (t : LamX.Tabs L H) (h : PlainO (H p)) : LamX.Tabs L (upd H p o) := fun q hq => by
  obtain ⟨ps, h1, h2, h3⟩ := t q hq
  have hne : q.1 ≠ p := fun e => (h (.tbl ps) (by rw [← e]; exact h1)).1 ps rfl
  refine ⟨ps, by rw [upd_ne hne]; exact h1, h2, fun pos cv hc => ?_⟩
  obtain ⟨c, e1, e2⟩ := h3 pos cv hc
  have hc' : c ≠ p := fun e => (h _ (by rw [← e]; exact e2)).2 _ rfl
  exact ⟨c, e1, by rw [upd_ne hc']; exact e2⟩
def toStr (s : Nm) : Str := ⟨s.toArray⟩
theorem toStr_inj {a b : Nm} (h : toStr a = toStr b) : a = b := by
  have := congrArg (fun s : Str => s.cps.toList) h
  simpa [toStr] using this
def KeyW : Key → W → Prop
  | .inl i, .int j => i = j
  | .inr x, .str s => x = toStr s
  | _, _ => False
mutual
inductive VR (K : PySem.W.Frag) (T : Tab) (Φ : Hp) (ρ : List Addr) : V → W → Prop
  | non : VR K T Φ ρ .non .non
  | bl (b : Bool) : VR K T Φ ρ (.bl b) (.bl b)
  | int (i : Int) : VR K T Φ ρ (.int i) (.int i)
  | str (s : Nm) : VR K T Φ ρ (.str (toStr s)) (.str s)
  | tup {a : Addr} {vs : List V} {ws : List W} : SqT K Φ a vs → VRs K T Φ ρ vs ws → VR K T Φ ρ (.ref a) (.tup ws)
  | lst {a : Addr} {vs : List V} {ws : List W} : Φ a = some (.lst vs) → VRs K T Φ ρ vs ws → VR K T Φ ρ (.ref a) (.lst ws)
  | scr {a : Addr} {vs : List V} {ws : List W} : SqL K Φ a vs → VRs K T Φ ρ vs ws → VR K T Φ ρ (.ref a) (.scr ws)
  | ins {a dx : Addr} {c : Nat} {fvs : List (Str × V)} {fs : List (Nat × W)} : Φ a = some (.ins (T.ca c) dx fvs) → VFs K T Φ ρ fvs fs → VR K T Φ ρ (.ref a) (.ins c fs)
  | dic {a : Addr} {kvs : List (Key × V)} {l : List (W × W)} : Φ a = some (.dK kvs) → VDs K T Φ ρ kvs l → VR K T Φ ρ (.ref a) (.dic l)
  | ref {i : Nat} {a : Addr} : ρ[i]? = some a → VR K T Φ ρ (.ref a) (.ref i)
  | cls (c : Nat) : VR K T Φ ρ (.ref (T.ca c)) (.cls c)
inductive VRs (K : PySem.W.Frag) (T : Tab) (Φ : Hp) (ρ : List Addr) : List V → List W → Prop
  | nil : VRs K T Φ ρ [] []
  | cons {v : V} {w : W} {vs : List V} {ws : List W} : VR K T Φ ρ v w → VRs K T Φ ρ vs ws → VRs K T Φ ρ (v :: vs) (w :: ws)
inductive VFs (K : PySem.W.Frag) (T : Tab) (Φ : Hp) (ρ : List Addr) : List (Str × V) → List (Nat × W) → Prop
  | nil : VFs K T Φ ρ [] []
  | cons {f : Nat} {v : V} {w : W} {vs : List (Str × V)} {ws : List (Nat × W)} : VR K T Φ ρ v w → VFs K T Φ ρ vs ws → VFs K T Φ ρ ((T.nm f, v) :: vs) ((f, w) :: ws)
inductive VDs (K : PySem.W.Frag) (T : Tab) (Φ : Hp) (ρ : List Addr) : List (Key × V) → List (W × W) → Prop
  | nil : VDs K T Φ ρ [] []
  | cons {k : Key} {j : W} {v : V} {w : W} {vs : List (Key × V)} {ws : List (W × W)} : KeyW k j → VR K T Φ ρ v w → VDs K T Φ ρ vs ws → VDs K T Φ ρ ((k, v) :: vs) ((j, w) :: ws)
end
theorem sameT {K : PySem.W.Frag} {H H' : Hp} {a : Addr} {xs : List V} (e : Same H H') (h : SqT K H a xs) : SqT K H' a xs := by
  rcases h with (h | ⟨o, h⟩) | h
  · exact .inl (.inl (e _ _ h))
  · exact .inl (.inr ⟨o, e _ _ h⟩)
  · exact .inr h
section
variable {K : PySem.W.Frag} {T : Tab} {Φ Φ' : Hp} {ρ ρ' : List Addr}
theorem pre_get {α : Type} {l l' : List α} (h : l <+: l') {i : Nat} {a : α} (e : l[i]? = some a) : l'[i]? = some a := by
  obtain ⟨t, rfl⟩ := h
  rw [List.getElem?_append_left (List.getElem?_eq_some_iff.mp e).1]
  exact e
mutual
theorem VR.mono (hs : Same Φ Φ') (hp : ρ <+: ρ') : ∀ {v : V} {w : W}, VR K T Φ ρ v w → VR K T Φ' ρ' v w
  | _, _, .non => .non
  | _, _, .bl b => .bl b
  | _, _, .int i => .int i
  | _, _, .str s => .str s
  | _, _, .tup h r => .tup (sameT hs h) (r.mono hs hp)
  | _, _, .lst h r => .lst (hs _ _ h) (r.mono hs hp)
  | _, _, .scr h r => .scr (L2.Same.seq hs h) (r.mono hs hp)
  | _, _, .ins h r => .ins (hs _ _ h) (r.mono hs hp)
  | _, _, .dic h r => .dic (hs _ _ h) (r.mono hs hp)
  | _, _, .ref h => .ref (pre_get hp h)
  | _, _, .cls c => .cls c
theorem VRs.mono (hs : Same Φ Φ') (hp : ρ <+: ρ') : ∀ {v : List V} {w : List W}, VRs K T Φ ρ v w → VRs K T Φ' ρ' v w
  | _, _, .nil => .nil
  | _, _, .cons h r => .cons (h.mono hs hp) (r.mono hs hp)
theorem VFs.mono (hs : Same Φ Φ') (hp : ρ <+: ρ') : ∀ {v : List (Str × V)} {w : List (Nat × W)}, VFs K T Φ ρ v w → VFs K T Φ' ρ' v w
  | _, _, .nil => .nil
  | _, _, .cons h r => .cons (h.mono hs hp) (r.mono hs hp)
theorem VDs.mono (hs : Same Φ Φ') (hp : ρ <+: ρ') : ∀ {v : List (Key × V)} {w : List (W × W)}, VDs K T Φ ρ v w → VDs K T Φ' ρ' v w
  | _, _, .nil => .nil
  | _, _, .cons k h r => .cons k (h.mono hs hp) (r.mono hs hp)
end
theorem VRs.length : ∀ {v : List V} {w : List W}, VRs K T Φ ρ v w → v.length = w.length
  | _, _, .nil => rfl
  | _, _, .cons _ r => congrArg Nat.succ r.length
theorem VRs.append : ∀ {v v' : List V} {w w' : List W}, VRs K T Φ ρ v w → VRs K T Φ ρ v' w' → VRs K T Φ ρ (v ++ v') (w ++ w')
  | _, _, _, _, .nil, q => q
  | _, _, _, _, .cons h r, q => .cons h (r.append q)
theorem VRs.get : ∀ {v : List V} {w : List W} {i : Nat} {x : W}, VRs K T Φ ρ v w → w[i]? = some x → ∃ y, v[i]? = some y ∧ VR K T Φ ρ y x
  | _, _, _, _, .nil, e => by simp at e
  | _, _, 0, _, .cons h _, e => by simp at e; subst e; exact ⟨_, rfl, h⟩
  | _, _, i + 1, _, .cons _ r, e => by
    obtain ⟨y, e', q⟩ := r.get (i := i) (by simpa using e)
    exact ⟨y, by simpa using e', q⟩
theorem VRs.get' : ∀ {v : List V} {w : List W} {i : Nat} {y : V}, VRs K T Φ ρ v w → v[i]? = some y → ∃ x, w[i]? = some x ∧ VR K T Φ ρ y x
  | _, _, _, _, .nil, e => by simp at e
  | _, _, 0, _, .cons h _, e => by simp at e; subst e; exact ⟨_, rfl, h⟩
  | _, _, i + 1, _, .cons _ r, e => by
    obtain ⟨y, e', q⟩ := r.get' (i := i) (by simpa using e)
    exact ⟨y, by simpa using e', q⟩
theorem VRs.set {y : V} {x : W} (h : VR K T Φ ρ y x) : ∀ {v : List V} {w : List W} (i : Nat), VRs K T Φ ρ v w → VRs K T Φ ρ (v.set i y) (w.set i x)
  | _, _, _, .nil => .nil
  | _, _, 0, .cons _ r => .cons h r
  | _, _, i + 1, .cons q r => .cons q (r.set h i)
theorem VRs.take : ∀ {v : List V} {w : List W} (i : Nat), VRs K T Φ ρ v w → VRs K T Φ ρ (v.take i) (w.take i)
  | _, _, 0, _ => .nil
  | _, _, _ + 1, .nil => .nil
  | _, _, i + 1, .cons q r => .cons q (r.take i)
theorem VRs.drop : ∀ {v : List V} {w : List W} (i : Nat), VRs K T Φ ρ v w → VRs K T Φ ρ (v.drop i) (w.drop i)
  | _, _, 0, h => h
  | _, _, _ + 1, .nil => .nil
  | _, _, i + 1, .cons _ r => r.drop i
theorem VRs.rep {v : List V} {w : List W} (h : VRs K T Φ ρ v w) : ∀ k : Nat, VRs K T Φ ρ (List.replicate k v).flatten (List.replicate k w).flatten
  | 0 => .nil
  | k + 1 => by
    rw [List.replicate_succ, List.replicate_succ, List.flatten_cons, List.flatten_cons]
    exact h.append (h.rep k)
theorem VRs.dropLast : ∀ {v : List V} {w : List W}, VRs K T Φ ρ v w → VRs K T Φ ρ v.dropLast w.dropLast
  | _, _, .nil => .nil
  | _, _, .cons _ .nil => .nil
  | _, _, .cons q (.cons p r) => by
    rw [List.dropLast_cons_cons, List.dropLast_cons_cons]
    exact .cons q (VRs.dropLast (.cons p r))
/-- an object of the store -/
inductive ObR (K : PySem.W.Frag) (T : Tab) (Φ : Hp) (ρ : List Addr) : HO → Ob → Prop
  | lst {vs : List V} {ws : List W} : VRs K T Φ ρ vs ws → ObR K T Φ ρ (.lst vs) (.lst ws)
  | dic {kvs : List (Key × V)} {l : List (W × W)} : VDs K T Φ ρ kvs l → ObR K T Φ ρ (.dK kvs) (.dic l)
  | ins {dx : Addr} {c : Nat} {fvs : List (Str × V)} {fs : List (Nat × W)} : VFs K T Φ ρ fvs fs → ObR K T Φ ρ (.ins (T.ca c) dx fvs) (.ins c fs)
theorem ObR.mono (hs : Same Φ Φ') (hp : ρ <+: ρ') {h : HO} {o : Ob} (r : ObR K T Φ ρ h o) : ObR K T Φ' ρ' h o := by
  cases r with
  | lst r => exact .lst (r.mono hs hp)
  | dic r => exact .dic (r.mono hs hp)
  | ins r => exact .ins (r.mono hs hp)
theorem ObR.live {h : HO} {o : Ob} (r : ObR K T Φ ρ h o) : o ≠ .dead := by
  cases r <;> exact fun z => nomatch z
theorem ObR.plain {h : HO} {o : Ob} (r : ObR K T Φ ρ h o) {x : Option HO} (e : x = some h) : PlainO x := fun u z => by
  rw [e] at z
  cases z
  cases r <;> exact ⟨fun _ z => (nomatch z), fun _ z => (nomatch z)⟩
theorem ObR.pl {h : HO} {o : Ob} (r : ObR K T Φ ρ h o) : PlainH h := r.plain rfl h rfl
theorem ObR.notbl {h : HO} {o : Ob} (r : ObR K T Φ ρ h o) (ps : Array Value) : h ≠ .tbl ps := by
  cases r <;> exact fun z => nomatch z
structure Rel (K : PySem.W.Frag) (T : Tab) (Φ : Hp) (ρ : List Addr) (H : Hp) (S : Sto) : Prop where
  sub : Same Φ H
  len : ρ.length = S.length
  nd : ρ.Nodup
  there : ∀ a ∈ ρ, ∃ o, H a = some o ∧ PlainH o
  ob : ∀ (i : Nat) (a : Addr) (o : Ob), ρ[i]? = some a → S[i]? = some o → o ≠ .dead → Φ a = none ∧ ∃ ho, H a = some ho ∧ ObR K T Φ ρ ho o
  ntb : ∀ a ps, Φ a ≠ some (.tbl ps)
  tb : LamX.Tabs T.tabs H
/-- nothing, or a table of code -/
def IsT (x : Option HO) : Prop := x = none ∨ ∃ ps, x = some (.tbl ps)
theorem IsT.no {x : Option HO} (h : IsT x) {o : HO} (e : x = some o) (n : ∀ ps, o ≠ .tbl ps) : False := by
  rcases h with h | ⟨ps, h⟩ <;> rw [h] at e <;> cases e
  exact n _ rfl
theorem IsT.or (x : Option HO) : IsT x ∨ ∃ o, x = some o ∧ ∀ ps, o ≠ .tbl ps := by
  cases x with
  | none => exact .inl (.inl rfl)
  | some o =>
    by_cases h : ∃ ps, o = .tbl ps
    · obtain ⟨ps, rfl⟩ := h
      exact .inl (.inr ⟨ps, rfl⟩)
    · exact .inr ⟨o, rfl, fun ps e => h ⟨ps, e⟩⟩
theorem isT_ne {H : Hp} {b p : Addr} {o : HO} (e : H b = some o) (n : ∀ ps, o ≠ .tbl ps) (h : IsT (H p)) : b ≠ p := fun z => h.no (by rw [← z]; exact e) n
/-- what a step may do to the heap -/
structure Le (Φ : Hp) (ρ : List Addr) (H : Hp) (Φ' : Hp) (ρ' : List Addr) (H' : Hp) : Prop where
  ph : Same Φ Φ'
  rp : ρ <+: ρ'
  new : ∀ a ∈ ρ', a ∉ ρ → IsT (H a)
  fr : ∀ a o, H a = some o → (∀ ps, o ≠ .tbl ps) → a ∉ ρ → H' a = some o
  nph : ∀ a, Φ' a ≠ none → Φ a ≠ none ∨ a ∈ ρ ∨ IsT (H a)
variable {H H' H2 : Hp} {S S' : Sto} {Φ2 : Hp} {ρ2 : List Addr}
theorem Le.refl : Le Φ ρ H Φ ρ H := ⟨Same.refl _, List.prefix_refl _, fun a h n => absurd h n, fun _ _ h _ _ => h, fun _ h => .inl h⟩
theorem Le.none' (a : Le Φ ρ H Φ' ρ' H') {c : Addr} (n : c ∉ ρ) (h : IsT (H' c)) : IsT (H c) := by
  rcases IsT.or (H c) with q | ⟨o, e, nt⟩
  · exact q
  · exact (h.no (a.fr c o e nt n) nt).elim
theorem Le.trans (a : Le Φ ρ H Φ' ρ' H') (b : Le Φ' ρ' H' Φ2 ρ2 H2) : Le Φ ρ H Φ2 ρ2 H2 := by
  refine ⟨a.ph.trans b.ph, a.rp.trans b.rp, fun c hc n => ?_, fun c o h nt n => ?_, fun c h => ?_⟩
  · by_cases h1 : c ∈ ρ'
    · exact a.new c h1 n
    · exact a.none' n (b.new c hc h1)
  · have n' : c ∉ ρ' := fun hc => (a.new c hc n).no h nt
    exact b.fr c o (a.fr c o h nt n) nt n'
  · rcases b.nph c h with h | h | h
    · exact a.nph c h
    · by_cases n : c ∈ ρ
      · exact .inr (.inl n)
      · exact .inr (.inr (a.new c h n))
    · by_cases n : c ∈ ρ
      · exact .inr (.inl n)
      · exact .inr (.inr (a.none' n h))
theorem same_fresh {Φ H : Hp} (e : Same Φ H) {p : Addr} (h : H p = none) : Φ p = none := L2.Same.free e h
theorem same_upd {H : Hp} {p : Addr} {o : HO} (h : H p = none) : Same H (upd H p o) := fun b x e => by
  rw [upd_ne (ne_of_none e h)]
  exact e
theorem Rel.notin' (r : Rel K T Φ ρ H S) {p : Addr} (h : IsT (H p)) : p ∉ ρ := fun z => let ⟨_, e, n⟩ := r.there p z; h.no e n.1
theorem Rel.notin_ext (r : Rel K T Φ ρ H S) {p : Addr} {φ : Heap → Prop} (h : H p = some (.ext φ)) : p ∉ ρ := fun z => let ⟨_, e, n⟩ := r.there p z; by
  rw [h] at e
  cases e
  exact n.2 _ rfl
theorem Rel.notin (r : Rel K T Φ ρ H S) {p : Addr} (h : H p = none) : p ∉ ρ := r.notin' (.inl h)
/-- a new thing of the heap that the store does not know -/
theorem Rel.tmp (r : Rel K T Φ ρ H S) {p : Addr} {o : HO} (h : H p = none) : Rel K T Φ ρ (upd H p o) S where
  sub := r.sub.trans (same_upd h)
  len := r.len
  nd := r.nd
  there := fun a ha => by
    have hne : a ≠ p := fun e => r.notin h (by rw [← e]; exact ha)
    rw [upd_ne hne]
    exact r.there a ha
  ob := fun i a ob h1 h2 h3 => by
    obtain ⟨h4, ho, h5, h6⟩ := r.ob i a ob h1 h2 h3
    exact ⟨h4, ho, by rw [upd_ne (ne_of_none h5 h)]; exact h5, h6⟩
  ntb := r.ntb
  tb := tabs_upd r.tb (.none h)
theorem Le.tmp (r : Rel K T Φ ρ H S) {p : Addr} {o : HO} (h : H p = none) : Le Φ ρ H Φ ρ (upd H p o) :=
  ⟨Same.refl _, List.prefix_refl _, fun a h n => absurd h n, fun a u e _ _ => by rw [upd_ne (ne_of_none e h)]; exact e, fun _ h => .inl h⟩
/-- a new thing that is laid into the frozen part -/
theorem Rel.frozen (r : Rel K T Φ ρ H S) {p : Addr} {o : HO} (h : H p = none) (nt : ∀ ps, o ≠ .tbl ps) : Rel K T (upd Φ p o) ρ (upd H p o) S := by
  have hs : Same Φ (upd Φ p o) := same_upd (same_fresh r.sub h)
  refine ⟨fun b x e => ?_, r.len, r.nd, (r.tmp (o := o) h).there, fun i a ob h1 h2 h3 => ?_, fun a ps e => ?_, (r.tmp (o := o) h).tb⟩
  · by_cases hb : b = p
    · subst hb; rw [upd_same] at e ⊢; exact e
    · rw [upd_ne hb] at e ⊢; exact r.sub b x e
  · obtain ⟨h4, ho, h5, h6⟩ := (r.tmp (o := o) h).ob i a ob h1 h2 h3
    have hne : a ≠ p := fun e => r.notin h (e ▸ List.mem_of_getElem? h1)
    exact ⟨by rw [upd_ne hne]; exact h4, ho, h5, h6.mono hs (List.prefix_refl _)⟩
  · by_cases hb : a = p
    · subst hb; rw [upd_same] at e; cases e; exact nt _ rfl
    · rw [upd_ne hb] at e; exact r.ntb a ps e
theorem Le.frozen (r : Rel K T Φ ρ H S) {p : Addr} {o : HO} (h : H p = none) : Le Φ ρ H (upd Φ p o) ρ (upd H p o) :=
  ⟨same_upd (same_fresh r.sub h), List.prefix_refl _, fun a h n => absurd h n, fun a u e _ _ => by rw [upd_ne (ne_of_none e h)]; exact e, fun a z => by
    by_cases e : a = p
    · subst e; exact .inr (.inr (.inl h))
    · rw [upd_ne e] at z; exact .inl z⟩
/-- a new thing of the store -/
theorem Rel.alloc (r : Rel K T Φ ρ H S) {p : Addr} {o : HO} {ob : Ob} (h : H p = none) (q : ObR K T Φ ρ o ob) : Rel K T Φ (ρ ++ [p]) (upd H p o) (S ++ [ob]) := by
  have hp : ρ <+: ρ ++ [p] := List.prefix_append _ _
  refine ⟨(r.tmp (o := o) h).sub, by simp [r.len], ?_, fun a ha => ?_, fun i a u h1 h2 h3 => ?_, r.ntb, (r.tmp (o := o) h).tb⟩
  · rw [List.nodup_append]
    refine ⟨r.nd, by simp, fun a ha b hb => ?_⟩
    have : b = p := by simpa using hb
    subst this
    exact fun e => r.notin h (e ▸ ha)
  · rcases List.mem_append.mp ha with ha | ha
    · exact (r.tmp (o := o) h).there a ha
    · have : a = p := by simpa using ha
      subst this
      exact ⟨o, upd_same, q.pl⟩
  · by_cases hi : i < ρ.length
    · rw [List.getElem?_append_left hi] at h1
      rw [List.getElem?_append_left (by rw [← r.len]; exact hi)] at h2
      obtain ⟨h4, ho, h5, h6⟩ := (r.tmp (o := o) h).ob i a u h1 h2 h3
      exact ⟨h4, ho, h5, h6.mono (Same.refl _) hp⟩
    · have hi' : ρ.length ≤ i := by omega
      rw [List.getElem?_append_right hi'] at h1
      rw [List.getElem?_append_right (by rw [← r.len]; exact hi')] at h2
      have e1 : i - ρ.length = 0 := by
        have := (List.getElem?_eq_some_iff.mp h1).1
        simp at this
        omega
      rw [e1] at h1
      rw [← r.len, e1] at h2
      simp at h1 h2
      subst h1; subst h2
      exact ⟨same_fresh r.sub h, o, upd_same, q.mono (Same.refl _) hp⟩
theorem Le.alloc (r : Rel K T Φ ρ H S) {p : Addr} {o : HO} (h : H p = none) : Le Φ ρ H Φ (ρ ++ [p]) (upd H p o) := by
  refine ⟨Same.refl _, List.prefix_append _ _, fun a ha n => ?_, fun a u e _ _ => by rw [upd_ne (ne_of_none e h)]; exact e, fun _ h => .inl h⟩
  rcases List.mem_append.mp ha with ha | ha
  · exact absurd ha n
  · have : a = p := by simpa using ha
    subst this; exact .inl h
theorem Rel.new_ref (r : Rel K T Φ ρ H S) {p : Addr} : VR K T Φ (ρ ++ [p]) (.ref p) (.ref S.length) := .ref (by rw [← r.len]; simp)
/-- a thing of the store is changed -/
theorem Rel.write (r : Rel K T Φ ρ H S) {i : Nat} {a : Addr} {o : Ob} {ho' : HO} {o' : Ob} (h1 : ρ[i]? = some a) (h2 : S[i]? = some o) (h3 : o ≠ .dead) (q : ObR K T Φ ρ ho' o') : Rel K T Φ ρ (upd H a ho') (S.set i o') := by
  obtain ⟨h4, ho, h5, h6⟩ := r.ob i a o h1 h2 h3
  have hn : ∀ {j : Nat} {b : Addr}, ρ[j]? = some b → b = a → j = i := fun {j b} hj e => by
    subst e
    obtain ⟨l1, e1⟩ := List.getElem?_eq_some_iff.mp hj
    obtain ⟨l2, e2⟩ := List.getElem?_eq_some_iff.mp h1
    exact (List.getElem_inj r.nd).mp (e1.trans e2.symm)
  refine ⟨fun b x e => ?_, by simp [r.len], r.nd, fun b hb => ?_, fun j b u g1 g2 g3 => ?_, r.ntb, tabs_upd r.tb (h6.plain h5)⟩
  · have hb : b ≠ a := fun z => by rw [z, h4] at e; cases e
    rw [upd_ne hb]; exact r.sub b x e
  · by_cases z : b = a
    · subst z; exact ⟨ho', upd_same, q.pl⟩
    · rw [upd_ne z]; exact r.there b hb
  · by_cases z : b = a
    · have e := hn g1 z
      subst e; subst z
      rw [List.getElem?_set_self (List.getElem?_eq_some_iff.mp h2).1] at g2
      cases g2
      exact ⟨h4, ho', upd_same, q⟩
    · have hj : i ≠ j := fun e => by
        subst e
        rw [h1] at g1; cases g1
        exact z rfl
      rw [List.getElem?_set_ne hj] at g2
      obtain ⟨f1, hb, f2, f3⟩ := r.ob j b u g1 g2 g3
      exact ⟨f1, hb, by rw [upd_ne z]; exact f2, f3⟩
theorem Le.write {i : Nat} {a : Addr} {ho' : HO} (h1 : ρ[i]? = some a) : Le Φ ρ H Φ ρ (upd H a ho') := by
  refine ⟨Same.refl _, List.prefix_refl _, fun a h n => absurd h n, fun b u e _ n => ?_, fun _ h => .inl h⟩
  have hne : b ≠ a := fun z => n (by rw [z]; exact List.mem_of_getElem? h1)
  rw [upd_ne hne]
  exact e
/-- a thing of the store is frozen -/
theorem Rel.freeze (r : Rel K T Φ ρ H S) {i : Nat} {a : Addr} {o : Ob} {ho : HO} (h1 : ρ[i]? = some a) (h2 : S[i]? = some o) (h3 : o ≠ .dead) (h5 : H a = some ho) (nt : ∀ ps, ho ≠ .tbl ps) : Rel K T (upd Φ a ho) ρ H (S.set i .dead) := by
  obtain ⟨h4, _, _, _⟩ := r.ob i a o h1 h2 h3
  have hs : Same Φ (upd Φ a ho) := same_upd h4
  refine ⟨fun b x e => ?_, by simp [r.len], r.nd, r.there, fun j b u g1 g2 g3 => ?_, fun b ps e => ?_, r.tb⟩
  · by_cases hb : b = a
    · subst hb; rw [upd_same] at e; cases e; exact h5
    · rw [upd_ne hb] at e; exact r.sub b x e
  · by_cases hj : i = j
    · subst hj
      rw [List.getElem?_set_self (List.getElem?_eq_some_iff.mp h2).1] at g2
      cases g2; exact absurd rfl g3
    · rw [List.getElem?_set_ne hj] at g2
      obtain ⟨f1, hb, f2, f3⟩ := r.ob j b u g1 g2 g3
      have z : b ≠ a := fun e => by
        subst e
        obtain ⟨l1, e1⟩ := List.getElem?_eq_some_iff.mp g1
        obtain ⟨l2, e2⟩ := List.getElem?_eq_some_iff.mp h1
        exact hj ((List.getElem_inj r.nd).mp (e2.trans e1.symm))
      exact ⟨by rw [upd_ne z]; exact f1, hb, f2, f3.mono hs (List.prefix_refl _)⟩
  · by_cases hb : b = a
    · subst hb; rw [upd_same] at e; cases e; exact nt _ rfl
    · rw [upd_ne hb] at e; exact r.ntb b ps e
theorem Le.freeze {i : Nat} {a : Addr} {ho : HO} (h1 : ρ[i]? = some a) (h4 : Φ a = none) : Le Φ ρ H (upd Φ a ho) ρ H :=
  ⟨same_upd h4, List.prefix_refl _, fun a h n => absurd h n, fun _ _ e _ _ => e, fun b z => by
    by_cases e : b = a
    · subst e; exact .inr (.inl (List.mem_of_getElem? h1))
    · rw [upd_ne e] at z; exact .inl z⟩
/-- the slots -/
def EnvR (K : PySem.W.Frag) (T : Tab) (Φ : Hp) (ρ : List Addr) (σ : St) (env : Env) : Prop :=
  σ.length = env.length ∧ ∀ (i : Nat) (w : W), env[i]? = some (some w) → ∃ v, σ[i]? = some (some v) ∧ VR K T Φ ρ v w
theorem EnvR.mono {σ : St} {env : Env} (e : EnvR K T Φ ρ σ env) (hs : Same Φ Φ') (hp : ρ <+: ρ') : EnvR K T Φ' ρ' σ env :=
  ⟨e.1, fun i w h => let ⟨v, h1, h2⟩ := e.2 i w h; ⟨v, h1, h2.mono hs hp⟩⟩
theorem EnvR.le {σ : St} {env : Env} (e : EnvR K T Φ ρ σ env) (l : Le Φ ρ H Φ' ρ' H') : EnvR K T Φ' ρ' σ env := e.mono l.ph l.rp
theorem VR.le {v : V} {w : W} (e : VR K T Φ ρ v w) (l : Le Φ ρ H Φ' ρ' H') : VR K T Φ' ρ' v w := e.mono l.ph l.rp
theorem VRs.le {v : List V} {w : List W} (e : VRs K T Φ ρ v w) (l : Le Φ ρ H Φ' ρ' H') : VRs K T Φ' ρ' v w := e.mono l.ph l.rp
theorem EnvR.set {σ : St} {env : Env} {i : Nat} {v : V} {w : W} (e : EnvR K T Φ ρ σ env) (h : VR K T Φ ρ v w) : EnvR K T Φ ρ (σ.set i (some v)) (env.set i (some w)) := by
  refine ⟨by simp [e.1], fun j u hj => ?_⟩
  by_cases q : i = j
  · subst q
    have hl : i < env.length := by
      have := (List.getElem?_eq_some_iff.mp hj).1
      simpa using this
    rw [List.getElem?_set_self hl] at hj
    cases hj
    exact ⟨v, by rw [List.getElem?_set_self (by rw [e.1]; exact hl)], h⟩
  · rw [List.getElem?_set_ne q] at hj ⊢
    exact e.2 j u hj
/-- what is wanted of a result; no exception -/
def Pst {α : Type} (r : Res α) (k : α → Sto → Prop) : Prop := match r with
  | .ok a S => k a S
  | _ => False
theorem Pst.mono {α : Type} {r : Res α} {k k' : α → Sto → Prop} (h : Pst r k) (f : ∀ a S, k a S → k' a S) : Pst r k' := by
  cases r with
  | ok a S => exact f a S h
  | ex _ _ _ => exact h
  | stuck => exact h
theorem Pst.bind {α β : Type} {r : Res α} {f : α → Sto → Res β} {k : β → Sto → Prop} (h : Pst (r.bind f) k) : Pst r fun a S => Pst (f a S) k := by
  cases r with
  | ok a S => exact h
  | ex _ _ _ => exact h
  | stuck => exact h
theorem Pst.orStuck {α : Type} {o : Option α} {S : Sto} {k : α → Sto → Prop} (h : Pst (orStuck o S) k) : ∃ a, o = some a ∧ k a S := by
  cases o with
  | none => exact h.elim
  | some a => exact ⟨a, rfl, h⟩
/-- the end of an expression: a value behind a step -/
def EndE (K : PySem.W.Frag) (T : Tab) (Φ : Hp) (ρ : List Addr) (H : Hp) (Q : VK) (w : W) (S' : Sto) : Prop :=
  ∀ Φ' ρ' v H', Le Φ ρ H Φ' ρ' H' → Rel K T Φ' ρ' H' S' → VR K T Φ' ρ' v w → Q v H'
def EndA (K : PySem.W.Frag) (T : Tab) (Φ : Hp) (ρ : List Addr) (H : Hp) (Q : List V → Hp → Prop) (ws : List W) (S' : Sto) : Prop :=
  ∀ Φ' ρ' vs H', Le Φ ρ H Φ' ρ' H' → Rel K T Φ' ρ' H' S' → VRs K T Φ' ρ' vs ws → Q vs H'
def EndT (K : PySem.W.Frag) (T : Tab) (Φ : Hp) (ρ : List Addr) (H : Hp) (Q : Bool → Hp → Prop) (b : Bool) (S' : Sto) : Prop :=
  ∀ Φ' ρ' H', Le Φ ρ H Φ' ρ' H' → Rel K T Φ' ρ' H' S' → Q b H'
theorem EndE.le {Q : VK} {w : W} (h : EndE K T Φ ρ H Q w S') (l : Le Φ ρ H Φ' ρ' H') : EndE K T Φ' ρ' H' Q w S' := fun Φ2 ρ2 v H2 l2 r q => h Φ2 ρ2 v H2 (l.trans l2) r q
theorem EndA.le {Q : List V → Hp → Prop} {w : List W} (h : EndA K T Φ ρ H Q w S') (l : Le Φ ρ H Φ' ρ' H') : EndA K T Φ' ρ' H' Q w S' := fun Φ2 ρ2 v H2 l2 r q => h Φ2 ρ2 v H2 (l.trans l2) r q
theorem EndT.le {Q : Bool → Hp → Prop} {w : Bool} (h : EndT K T Φ ρ H Q w S') (l : Le Φ ρ H Φ' ρ' H') : EndT K T Φ' ρ' H' Q w S' := fun Φ2 ρ2 H2 l2 r => h Φ2 ρ2 H2 (l.trans l2) r
/-- the readings of the evaluator -/
def RE (K : PySem.W.Frag) (T : Tab) (m : Env → Sto → Res W) : TE := fun σ H Q => ∃ Φ ρ env S, EnvR K T Φ ρ σ env ∧ Rel K T Φ ρ H S ∧ Pst (m env S) (EndE K T Φ ρ H Q)
def RA (K : PySem.W.Frag) (T : Tab) (m : Env → Sto → Res (List W)) : TA := fun σ H Q => ∃ Φ ρ env S, EnvR K T Φ ρ σ env ∧ Rel K T Φ ρ H S ∧ Pst (m env S) (EndA K T Φ ρ H Q)
def RT (K : PySem.W.Frag) (T : Tab) (m : Env → Sto → Res Bool) : TT := fun σ H Q => ∃ Φ ρ env S, EnvR K T Φ ρ σ env ∧ Rel K T Φ ρ H S ∧ Pst (m env S) (EndT K T Φ ρ H Q)
/-! a thing off the store and off the frozen part -/
theorem Rel.off (r : Rel K T Φ ρ H S) {p : Addr} {o : HO} (h : p ∉ ρ) (h2 : Φ p = none) (h3 : PlainO (H p)) : Rel K T Φ ρ (upd H p o) S where
  sub := fun b x e => by
    have hb : b ≠ p := fun z => by rw [z, h2] at e; cases e
    rw [upd_ne hb]; exact r.sub b x e
  len := r.len
  nd := r.nd
  there := fun a ha => by
    have hne : a ≠ p := fun e => h (by rw [← e]; exact ha)
    rw [upd_ne hne]
    exact r.there a ha
  ob := fun i a ob h1 h2 h3 => by
    obtain ⟨h4, ho, h5, h6⟩ := r.ob i a ob h1 h2 h3
    have hne : a ≠ p := fun e => h (by rw [← e]; exact List.mem_of_getElem? h1)
    exact ⟨h4, ho, by rw [upd_ne hne]; exact h5, h6⟩
  ntb := r.ntb
  tb := tabs_upd r.tb h3
theorem Le.off (l : Le Φ ρ H Φ' ρ' H') {p : Addr} {o : HO} (h : IsT (H p)) : Le Φ ρ H Φ' ρ' (upd H' p o) :=
  ⟨l.ph, l.rp, l.new, fun a u e nt n => by rw [upd_ne (isT_ne e nt h)]; exact l.fr a u e nt n, l.nph⟩
/-- .. is taken into the store -/
theorem Rel.adopt (r : Rel K T Φ ρ H S) {p : Addr} {o : HO} {ob : Ob} (h : p ∉ ρ) (h2 : Φ p = none) (h3 : H p = some o) (q : ObR K T Φ ρ o ob) : Rel K T Φ (ρ ++ [p]) H (S ++ [ob]) := by
  have hp : ρ <+: ρ ++ [p] := List.prefix_append _ _
  refine ⟨r.sub, by simp [r.len], ?_, fun a ha => ?_, fun i a u h1 h2' h3' => ?_, r.ntb, r.tb⟩
  · rw [List.nodup_append]
    refine ⟨r.nd, by simp, fun a ha b hb => ?_⟩
    have : b = p := by simpa using hb
    subst this
    exact fun e => h (by rw [← e]; exact ha)
  · rcases List.mem_append.mp ha with ha | ha
    · exact r.there a ha
    · have : a = p := by simpa using ha
      subst this
      exact ⟨o, h3, q.pl⟩
  · by_cases hi : i < ρ.length
    · rw [List.getElem?_append_left hi] at h1
      rw [List.getElem?_append_left (by rw [← r.len]; exact hi)] at h2'
      obtain ⟨h4, ho, h5, h6⟩ := r.ob i a u h1 h2' h3'
      exact ⟨h4, ho, h5, h6.mono (Same.refl _) hp⟩
    · have hi' : ρ.length ≤ i := by omega
      rw [List.getElem?_append_right hi'] at h1
      rw [List.getElem?_append_right (by rw [← r.len]; exact hi')] at h2'
      have e1 : i - ρ.length = 0 := by
        have := (List.getElem?_eq_some_iff.mp h1).1
        simp at this
        omega
      rw [e1] at h1
      rw [← r.len, e1] at h2'
      simp at h1 h2'
      subst h1; subst h2'
      exact ⟨h2, o, h3, q.mono (Same.refl _) hp⟩
theorem Le.adopt (l : Le Φ ρ H Φ' ρ' H') {p : Addr} (h : IsT (H p)) : Le Φ ρ H Φ' (ρ' ++ [p]) H' := by
  refine ⟨l.ph, l.rp.trans (List.prefix_append _ _), fun a ha n => ?_, l.fr, l.nph⟩
  rcases List.mem_append.mp ha with ha | ha
  · exact l.new a ha n
  · have : a = p := by simpa using ha
    subst this; exact h
/-- .. is taken into the frozen part -/
theorem Rel.adoptF (r : Rel K T Φ ρ H S) {p : Addr} {o : HO} (h : p ∉ ρ) (h2 : Φ p = none) (h3 : H p = some o) (nt : ∀ ps, o ≠ .tbl ps) : Rel K T (upd Φ p o) ρ H S := by
  have hs : Same Φ (upd Φ p o) := same_upd h2
  refine ⟨fun b x e => ?_, r.len, r.nd, r.there, fun i a ob h1 h2 h3 => ?_, fun a ps e => ?_, r.tb⟩
  · by_cases hb : b = p
    · subst hb; rw [upd_same] at e; cases e; exact h3
    · rw [upd_ne hb] at e; exact r.sub b x e
  · obtain ⟨h4, ho, h5, h6⟩ := r.ob i a ob h1 h2 h3
    have hne : a ≠ p := fun e => h (by rw [← e]; exact List.mem_of_getElem? h1)
    exact ⟨by rw [upd_ne hne]; exact h4, ho, h5, h6.mono hs (List.prefix_refl _)⟩
  · by_cases hb : a = p
    · subst hb; rw [upd_same] at e; cases e; exact nt _ rfl
    · rw [upd_ne hb] at e; exact r.ntb a ps e
theorem Le.adoptF (l : Le Φ ρ H Φ' ρ' H') {p : Addr} {o : HO} (h : IsT (H p)) (h2 : Φ' p = none) : Le Φ ρ H (upd Φ' p o) ρ' H' :=
  ⟨l.ph.trans (same_upd h2), l.rp, l.new, l.fr, fun a z => by
    by_cases e : a = p
    · subst e; exact .inr (.inr h)
    · rw [upd_ne e] at z; exact l.nph a z⟩
/-- a thing that was not there ahead of a step is off what the step leaves, if it is tracked there and was not -/
theorem Le.stays (r : Rel K T Φ ρ H S) (l : Le Φ ρ H Φ' ρ' H') {p : Addr} {o : HO} (h : p ∉ ρ) (h2 : Φ p = none) (h3 : H p = some o) (nt : ∀ ps, o ≠ .tbl ps) : p ∉ ρ' ∧ Φ' p = none ∧ H' p = some o := by
  refine ⟨fun z => (l.new p z h).no h3 nt, ?_, l.fr p o h3 nt h⟩
  cases q : Φ' p with
  | none => rfl
  | some u =>
    rcases l.nph p (by rw [q]; exact fun z => nomatch z) with e | e | e
    · exact absurd h2 e
    · exact absurd e h
    · exact (e.no h3 nt).elim
/-- the tables of code have grown, things of another kind have come -/
theorem Rel.ext (r : Rel K T Φ ρ H S) (e : LamX.ExtN H H') (t : LamX.Tabs T.tabs H') : Rel K T Φ ρ H' S where
  sub := fun b x h => e b x (r.sub b x h) fun ps z => r.ntb b ps (by rw [← z]; exact h)
  len := r.len
  nd := r.nd
  there := fun a ha => let ⟨o, h, n⟩ := r.there a ha; ⟨o, e a o h n.1, n⟩
  ob := fun i a ob h1 h2 h3 => let ⟨h4, ho, h5, h6⟩ := r.ob i a ob h1 h2 h3; ⟨h4, ho, e a ho h5 h6.notbl, h6⟩
  ntb := r.ntb
  tb := t
theorem Le.ext (e : LamX.ExtN H H') : Le Φ ρ H Φ ρ H' := ⟨Same.refl _, List.prefix_refl _, fun a h n => absurd h n, fun a o h nt _ => e a o h nt, fun _ h => .inl h⟩
end
end KF


set_option Elab.async false
set_option linter.all false
set_option autoImplicit false
set_option maxRecDepth 100000
set_option maxHeartbeats 1000000
namespace KF
open PySem PySem.Spec PyProof.Rows L2
section
variable {X : Cx} {T : Tab} {Φ : Hp} {ρ : List Addr} {H : Hp} {S S' : Sto}
theorem sz_line {n : Nat} (h : n ≤ SZ) : n ≤ sizeLine := by
  rw [sizeLine_eq]
  have : SZ = 1000000 := rfl
  omega
/-! ### what an end asks -/
theorem EndE.now {K : PySem.W.Frag} {Q : VK} {w : W} {v : V} (h : EndE K T Φ ρ H Q w S) (r : Rel K T Φ ρ H S) (q : VR K T Φ ρ v w) : Q v H := h Φ ρ v H .refl r q
/-- a new list -/
theorem mkL_ok {K : PySem.W.Frag} {m : Bool} {l : List W} {vs : List V} {Q : VK} (r : Rel K T Φ ρ H S) (q : VRs K T Φ ρ vs l) (h : Pst (mkL m l S) (EndE K T Φ ρ H Q)) : vs.length ≤ sizeLine ∧ ∀ p, H p = none → Q (.ref p) (upd H p (.lst vs)) := by
  unfold mkL at h
  split at h
  · rename_i hz
    refine ⟨by rw [q.length]; exact sz_line hz, fun p hp => ?_⟩
    split at h
    · exact h _ _ _ _ (Le.alloc r hp) (r.alloc hp (.lst q)) r.new_ref
    · have rf := r.frozen (o := .lst vs) hp (fun _ z => nomatch z)
      exact h _ _ _ _ (Le.frozen r hp) rf (.lst upd_same (q.mono (same_upd (same_fresh r.sub hp)) (List.prefix_refl _)))
  · exact h.elim
theorem mkT_ok {K : PySem.W.Frag} {l : List W} {vs : List V} {Q : VK} (r : Rel K T Φ ρ H S) (q : VRs K T Φ ρ vs l) (h : Pst (mkT l S) (EndE K T Φ ρ H Q)) : vs.length ≤ sizeLine ∧ ∀ p, H p = none → Q (.ref p) (upd H p (.tup vs)) := by
  unfold mkT at h
  split at h
  · rename_i hz
    refine ⟨by rw [q.length]; exact sz_line hz, fun p hp => ?_⟩
    have rf := r.frozen (o := .tup vs) hp (fun _ z => nomatch z)
    exact h _ _ _ _ (Le.frozen r hp) rf (.tup (.inl (.inl upd_same)) (q.mono (same_upd (same_fresh r.sub hp)) (List.prefix_refl _)))
  · exact h.elim
/-- a list that is there already, off the store, is handed out -/
theorem mkL_done {K : PySem.W.Frag} {Φ0 : Hp} {ρ0 : List Addr} {H0 : Hp} {m : Bool} {l : List W} {vs : List V} {Q : VK} {p : Addr} (r : Rel K T Φ ρ H S) (q : VRs K T Φ ρ vs l) (le : Le Φ0 ρ0 H0 Φ ρ H) (h0 : IsT (H0 p)) (hr : p ∉ ρ) (hf : Φ p = none) (hp : H p = some (.lst vs))
    (h : Pst (mkL m l S) (EndE K T Φ0 ρ0 H0 Q)) : Q (.ref p) H := by
  unfold mkL at h
  split at h
  · split at h
    · exact h _ _ _ _ (le.adopt h0) (r.adopt hr hf hp (.lst q)) r.new_ref
    · have rf := r.adoptF hr hf hp (fun _ z => nomatch z)
      exact h _ _ _ _ (le.adoptF h0 hf) rf (.lst upd_same (q.mono (same_upd hf) (List.prefix_refl _)))
  · exact h.elim
theorem mkD_done {K : PySem.W.Frag} {Φ0 : Hp} {ρ0 : List Addr} {H0 : Hp} {m : Bool} {l : List (W × W)} {kvs : List (Key × V)} {Q : VK} {p : Addr} (r : Rel K T Φ ρ H S) (q : VDs K T Φ ρ kvs l) (le : Le Φ0 ρ0 H0 Φ ρ H) (h0 : IsT (H0 p)) (hr : p ∉ ρ) (hf : Φ p = none) (hp : H p = some (.dK kvs))
    (h : Pst (mkD m l S) (EndE K T Φ0 ρ0 H0 Q)) : Q (.ref p) H := by
  unfold mkD at h
  split at h
  · split at h
    · exact h _ _ _ _ (le.adopt h0) (r.adopt hr hf hp (.dic q)) r.new_ref
    · have rf := r.adoptF hr hf hp (fun _ z => nomatch z)
      exact h _ _ _ _ (le.adoptF h0 hf) rf (.dic upd_same (q.mono (same_upd hf) (List.prefix_refl _)))
  · exact h.elim
/-! ### what a value is -/
theorem VR.int_inv {K : PySem.W.Frag} {v : V} {i : Int} (h : VR K T Φ ρ v (.int i)) : v = .int i := by cases h; rfl
theorem VR.bl_inv {K : PySem.W.Frag} {v : V} {i : Bool} (h : VR K T Φ ρ v (.bl i)) : v = .bl i := by cases h; rfl
theorem VR.str_inv {K : PySem.W.Frag} {v : V} {i : Nm} (h : VR K T Φ ρ v (.str i)) : v = .str (toStr i) := by cases h; rfl
theorem VR.non_inv {K : PySem.W.Frag} {v : V} (h : VR K T Φ ρ v .non) : v = .non := by cases h; rfl
/-- a list, read where it stands -/
theorem lst_read {K : PySem.W.Frag} (r : Rel K T Φ ρ H S) {v : V} {w : W} {l : List W} (q : VR K T Φ ρ v w) (h : lstOf S w = some l) : ∃ a vs, v = .ref a ∧ H a = some (.lst vs) ∧ VRs K T Φ ρ vs l := by
  cases q with
  | lst h1 h2 => cases h; exact ⟨_, _, rfl, r.sub _ _ h1, h2⟩
  | @ref i a h1 =>
    simp only [lstOf] at h
    split at h
    · rename_i l' e
      cases h
      obtain ⟨_, ho, h5, h6⟩ := r.ob _ _ _ h1 e (fun z => nomatch z)
      cases h6 with
      | lst q => exact ⟨_, _, rfl, h5, q⟩
    · cases h
  | _ => cases h
theorem seq_read {K : PySem.W.Frag} (r : Rel K T Φ ρ H S) {v : V} {w : W} {l : List W} (q : VR K T Φ ρ v w) (h : seqOf S w = some l) : ∃ a vs, v = .ref a ∧ (SqL K H a vs ∨ SqT K H a vs) ∧ VRs K T Φ ρ vs l := by
  cases q with
  | lst h1 h2 => cases h; exact ⟨_, _, rfl, .inl (.inl (.inl (r.sub _ _ h1))), h2⟩
  | scr h1 h2 => cases h; exact ⟨_, _, rfl, .inl (L2.Same.seq r.sub h1), h2⟩
  | tup h1 h2 => cases h; exact ⟨_, _, rfl, .inr (sameT r.sub h1), h2⟩
  | @ref i a h1 =>
    have h' : lstOf S (.ref i) = some l := h
    obtain ⟨a', vs, e, h2, h3⟩ := lst_read r (.ref h1) h'
    exact ⟨a', vs, e, .inl (.inl (.inl h2)), h3⟩
  | _ => cases h
theorem dic_read {K : PySem.W.Frag} (r : Rel K T Φ ρ H S) {v : V} {w : W} {l : List (W × W)} (q : VR K T Φ ρ v w) (h : dicOf S w = some l) : ∃ a kvs, v = .ref a ∧ H a = some (.dK kvs) ∧ VDs K T Φ ρ kvs l := by
  cases q with
  | dic h1 h2 => cases h; exact ⟨_, _, rfl, r.sub _ _ h1, h2⟩
  | @ref i a h1 =>
    simp only [dicOf] at h
    split at h
    · rename_i l' e
      cases h
      obtain ⟨_, ho, h5, h6⟩ := r.ob _ _ _ h1 e (fun z => nomatch z)
      cases h6 with
      | dic q => exact ⟨_, _, rfl, h5, q⟩
    · cases h
  | _ => cases h
theorem ins_read {K : PySem.W.Frag} (r : Rel K T Φ ρ H S) {v : V} {w : W} {c : Nat} {fs : List (Nat × W)} (q : VR K T Φ ρ v w) (h : insOf S w = some (c, fs)) : ∃ a dx fvs, v = .ref a ∧ H a = some (.ins (T.ca c) dx fvs) ∧ VFs K T Φ ρ fvs fs := by
  cases q with
  | ins h1 h2 => cases h; exact ⟨_, _, _, rfl, r.sub _ _ h1, h2⟩
  | @ref i a h1 =>
    simp only [insOf] at h
    split at h
    · rename_i c' fs' e
      cases h
      obtain ⟨_, ho, h5, h6⟩ := r.ob _ _ _ h1 e (fun z => nomatch z)
      cases h6 with
      | ins q => exact ⟨_, _, _, rfl, h5, q⟩
    · cases h
  | _ => cases h
theorem toStr_len (s : Nm) : (toStr s).length = s.length := by simp [toStr, Str.length]
theorem VDs.length {K : PySem.W.Frag} : ∀ {v : List (Key × V)} {w : List (W × W)}, VDs K T Φ ρ v w → v.length = w.length
  | _, _, .nil => rfl
  | _, _, .cons _ _ r => congrArg Nat.succ r.length
theorem empty_eq {α β : Type} {l : List α} {l' : List β} (h : l.length = l'.length) : l.isEmpty = l'.isEmpty := by
  cases l <;> cases l' <;> simp_all
theorem tru_of {K : PySem.W.Frag} (r : Rel K T Φ ρ H S) {v : V} {w : W} {k : Bool} (q : VR K T Φ ρ v w) (h : truthy S w = some k) : TruV K v H k := by
  cases q with
  | non => cases h; rfl
  | bl b => cases h; rfl
  | int i => cases h; rfl
  | str s =>
    simp only [truthy] at h
    split at h
    · rename_i hz
      cases h
      refine ⟨by rw [toStr_len]; exact sz_line hz, ?_⟩
      rw [toStr_len]
      cases s with
      | nil => rfl
      | cons a s =>
        show true = (((s.length + 1 : Nat) : Int) != 0)
        simp
        omega
    · cases h
  | tup h1 h2 => cases h; exact .inr (.inl ⟨_, sameT r.sub h1, by rw [empty_eq h2.length]⟩)
  | lst h1 h2 => cases h; exact .inl ⟨_, .inl (.inl (r.sub _ _ h1)), by rw [empty_eq h2.length]⟩
  | scr h1 h2 => cases h; exact .inl ⟨_, L2.Same.seq r.sub h1, by rw [empty_eq h2.length]⟩
  | dic h1 h2 => cases h; exact .inr (.inr ⟨_, r.sub _ _ h1, by rw [empty_eq h2.length]⟩)
  | @ref i a h1 =>
    simp only [truthy] at h
    split at h
    · rename_i l e
      cases h
      obtain ⟨_, ho, h5, h6⟩ := r.ob _ _ _ h1 e (fun z => nomatch z)
      cases h6 with
      | lst q => exact .inl ⟨_, .inl (.inl h5), by rw [empty_eq q.length]⟩
    · rename_i l e
      cases h
      obtain ⟨_, ho, h5, h6⟩ := r.ob _ _ _ h1 e (fun z => nomatch z)
      cases h6 with
      | dic q => exact .inr (.inr ⟨_, h5, by rw [empty_eq q.length]⟩)
    · cases h
  | ins _ _ => cases h
  | cls _ => cases h
end
end KF


set_option Elab.async false
set_option linter.all false
set_option autoImplicit false
set_option maxRecDepth 100000
set_option maxHeartbeats 1000000
namespace KF
open PySem PySem.Spec PyProof.Rows L2
section
variable {X : Cx} {T : Tab}
def opOf : Bop → Operator
  | .add => .Add | .sub => .Sub | .mul => .Mult | .fdiv => .FloorDiv | .mod => .Mod | .pow => .Pow
  | .bor => .BitOr | .band => .BitAnd | .bxor => .BitXor | .shl => .LShift | .shr => .RShift
theorem op_mul_str : OpR X (binaryOp .Mult) (fun x y H Q => ∃ z n, x = .str z ∧ y = .int n ∧ 0 ≤ n ∧ n ≤ 1000000 ∧ z.length * n.toNat ≤ 1000000 ∧ Q (.str ⟨(List.replicate n.toNat z.cps.toList).flatten.toArray⟩) H) := by
  intro pins s σ H x y v u Q I rx ry h
  obtain ⟨z, n, rfl, rfl, h0, h1, hz, q⟩ := h
  obtain ⟨t, rfl⟩ := rx
  obtain ⟨t', rfl⟩ := ry
  refine PySem.P.mul_str ?_ ?_ ?_ ?_
  · simp; omega
  · intro hn hne
    have h2 : (1000000 : Int) ≤ (2 ^ 63 - 1) / n := by
      have : n * 1000000 ≤ 2 ^ 63 - 1 := by omega
      exact (Int.le_ediv_iff_mul_le (by omega)).mpr (by omega)
    have h3 : z.length ≤ 1000000 := by
      have : z.length * 1 ≤ z.length * n.toNat := Nat.mul_le_mul_left _ (by omega)
      omega
    omega
  · intro _ _
    unfold PySem.Builtin.Str.tooLong
    refine decide_eq_false ?_
    rw [sizeLine_eq]
    omega
  · have key : ∀ (z' : Str) (t0 : Nat), z' = ⟨(List.replicate n.toNat z.cps.toList).flatten.toArray⟩ → EP X pins σ Q (.str z' t0) { s with toks := s.toks + 1 } := fun z' t0 e => ⟨.str z', H, I.tok _, ⟨_, rfl⟩, by rw [e]; exact q⟩
    have fl : ∀ (k : Nat) (a : Array Nat), (List.replicate k z.cps).foldl (· ++ ·) a = a ++ (List.replicate k z.cps.toList).flatten.toArray := by
      intro k
      induction k with
      | zero => intro a; simp
      | succ k ih => intro a; rw [List.replicate_succ, List.foldl_cons, ih, List.replicate_succ, List.flatten_cons]; apply Array.ext'; simp
    split
    · have e0 : n.toNat = 0 := by omega
      refine ⟨?_, key _ _ ?_⟩
      · decide
      · rw [e0]; rfl
    · split
      · rename_i h2 h3
        refine ⟨.str z, H, I, ⟨_, rfl⟩, ?_⟩
        have e : (⟨(List.replicate n.toNat z.cps.toList).flatten.toArray⟩ : Str) = z := by
          rcases (Bool.or_eq_true _ _).mp h3 with h4 | h4
          · have : n.toNat = 1 := by
              have := beq_iff_eq.mp h4
              omega
            rw [this]
            obtain ⟨cps⟩ := z
            simp
          · have h5 : z.cps.toList = [] := by
              have := beq_iff_eq.mp h4
              obtain ⟨cps⟩ := z
              have h6 : cps.size = 0 := this
              simpa using h6
            rw [h5]
            obtain ⟨cps⟩ := z
            have h6 : cps = #[] := by simpa using h5
            subst h6
            simp
        rw [← e]
        exact q
      · refine ⟨?_, key _ _ ?_⟩
        · rw [fl]
          show ((#[] : Array Nat) ++ (List.replicate n.toNat z.cps.toList).flatten.toArray).size ≤ sizeLine
          have hz' : z.cps.size * n.toNat ≤ 1000000 := hz
          rw [sizeLine_eq]
          simp [List.length_flatten]
          rw [Nat.mul_comm]; omega
        · rw [fl]; simp
/-! ### data -/
mutual
def toD : W → PyData
  | .non => .none
  | .bl b => .bool b
  | .int i => .int i
  | .str s => .str (toStr s)
  | .tup l => .tuple (toDL l)
  | .lst l => .list (toDL l)
  | _ => .none
def toDL : List W → List PyData
  | [] => []
  | w :: r => toD w :: toDL r
end
theorem strOk_of {s : Nm} (h : plainS s = true) : PyData.strOk (toStr s) = true := by
  simp only [plainS, List.all_eq_true] at h
  unfold PyData.strOk toStr
  rw [Array.all_eq_true']
  intro x hx
  have h1 := h x (by simpa using hx)
  have h2 : x < 55296 := Nat.le_of_ble_eq_true h1
  exact decide_eq_true (by omega)
mutual
theorem dat_lay : ∀ (n : Nat) (w : W), dat n w = true → (toD w).canLay0 = true ∧ (toD w).depth ≤ n
  | _, .non, _ => by simp [toD, PyData.canLay0, PyData.depth]
  | _, .bl _, _ => by simp [toD, PyData.canLay0, PyData.depth]
  | _, .int _, _ => by simp [toD, PyData.canLay0, PyData.depth]
  | _, .str s, h => by
    have h' : plainS s = true := by simpa [dat] using h
    simp [toD, PyData.canLay0, PyData.depth, strOk_of h']
  | 0, .tup l, h => by simp [dat] at h
  | n + 1, .tup l, h => by
    have ⟨a, b⟩ := dat_layL n l (by simpa [dat] using h)
    simp [toD, PyData.canLay0, PyData.depth, a]; omega
  | 0, .lst l, h => by simp [dat] at h
  | n + 1, .lst l, h => by
    have ⟨a, b⟩ := dat_layL n l (by simpa [dat] using h)
    simp [toD, PyData.canLay0, PyData.depth, a]; omega
  | 0, .scr l, h => by simp [dat] at h
  | _ + 1, .scr l, h => by simp [dat] at h
  | 0, .ins _ l, h => by simp [dat] at h
  | _ + 1, .ins _ l, h => by simp [dat] at h
  | 0, .dic l, h => by simp [dat] at h
  | _ + 1, .dic l, h => by simp [dat] at h
  | 0, .ref l, h => by simp [dat] at h
  | _ + 1, .ref l, h => by simp [dat] at h
  | 0, .cls l, h => by simp [dat] at h
  | _ + 1, .cls l, h => by simp [dat] at h
theorem dat_layL : ∀ (n : Nat) (l : List W), datL n l = true → PyData.canLayAll0 (toDL l) = true ∧ PyData.depthAll (toDL l) ≤ n
  | n, [], _ => by simp [toDL, PyData.canLayAll0, PyData.depthAll]
  | n, w :: r, h => by
    have h' : dat n w = true ∧ datL n r = true := by simpa [datL] using h
    have ⟨a, b⟩ := dat_lay n w h'.1
    have ⟨c, d⟩ := dat_layL n r h'.2
    simp [toDL, PyData.canLayAll0, PyData.depthAll, a, c]; omega
end
theorem shaped_of {w : W} (h : dat 60 w = true) : SeqAt.shaped (toD w) = true := by
  have ⟨a, b⟩ := dat_lay 60 w h
  unfold SeqAt.shaped
  rw [a, Bool.true_and]
  exact decide_eq_true (by omega)
theorem toStr_beq (a b : Nm) : (toStr a == toStr b) = (a == b) := by
  by_cases h : a = b
  · subst h; simp
  · have h2 : toStr a ≠ toStr b := fun e => h (toStr_inj e)
    rw [beq_eq_false_iff_ne.mpr h, beq_eq_false_iff_ne.mpr h2]
mutual
theorem eqv_toD : ∀ (n : Nat) (a b : W), dat n a = true → dat n b = true → PyData.eqv (toD a) (toD b) = eqv a b
  | n, .non, b, _, h => by cases b <;> first | (simp [toD, PyData.eqv, eqv]; done) | (cases n <;> simp [dat] at h)
  | n, .bl x, b, _, h => by cases b <;> first | (simp [toD, PyData.eqv, eqv]; done) | (cases n <;> simp [dat] at h)
  | n, .int x, b, _, h => by cases b <;> first | (simp [toD, PyData.eqv, eqv]; done) | (cases n <;> simp [dat] at h)
  | n, .str x, b, _, h => by cases b <;> first | (simp [toD, PyData.eqv, eqv, toStr_beq]; done) | (cases n <;> simp [dat] at h)
  | 0, .tup l, _, h, _ => by simp [dat] at h
  | n + 1, .tup l, b, h1, h2 => by
    cases b with
    | tup r =>
      have := eqvL_toD n l r (by simpa [dat] using h1) (by simpa [dat] using h2)
      simp [toD, PyData.eqv, eqv, this]
    | _ => first | (simp [toD, PyData.eqv, eqv]; done) | simp [dat] at h2
  | 0, .lst l, _, h, _ => by simp [dat] at h
  | n + 1, .lst l, b, h1, h2 => by
    cases b with
    | lst r =>
      have := eqvL_toD n l r (by simpa [dat] using h1) (by simpa [dat] using h2)
      simp [toD, PyData.eqv, eqv, this]
    | _ => first | (simp [toD, PyData.eqv, eqv]; done) | simp [dat] at h2
  | n, .scr _, _, h, _ => by cases n <;> simp [dat] at h
  | n, .ins _ _, _, h, _ => by cases n <;> simp [dat] at h
  | n, .dic _, _, h, _ => by cases n <;> simp [dat] at h
  | n, .ref _, _, h, _ => by cases n <;> simp [dat] at h
  | n, .cls _, _, h, _ => by cases n <;> simp [dat] at h
theorem eqvL_toD : ∀ (n : Nat) (a b : List W), datL n a = true → datL n b = true → PyData.eqvAll (toDL a) (toDL b) = eqvL a b
  | n, [], [], _, _ => by simp [toDL, PyData.eqvAll, eqvL]
  | n, [], _ :: _, _, _ => by simp [toDL, PyData.eqvAll, eqvL]
  | n, _ :: _, [], _, _ => by simp [toDL, PyData.eqvAll, eqvL]
  | n, x :: a, y :: b, h1, h2 => by
    have h1' : dat n x = true ∧ datL n a = true := by simpa [datL] using h1
    have h2' : dat n y = true ∧ datL n b = true := by simpa [datL] using h2
    simp [toDL, PyData.eqvAll, eqvL, eqv_toD n x y h1'.1 h2'.1, eqvL_toD n a b h1'.2 h2'.2]
end
mutual
theorem dp_of {K : PySem.W.Frag} {Φ : Hp} {ρ : List Addr} {H : Hp} {S : Sto} (r : Rel K T Φ ρ H S) : ∀ (n : Nat) (w : W) (v : V), dat n w = true → VR K T Φ ρ v w → Dp K H v (toD w)
  | _, .non, _, _, q => by cases q; exact .non
  | _, .bl _, _, _, q => by cases q; exact .bl _
  | _, .int _, _, _, q => by cases q; exact .int _
  | _, .str _, _, _, q => by cases q; exact .str _
  | 0, .tup l, _, h, _ => by simp [dat] at h
  | n + 1, .tup l, _, h, q => by
    cases q with
    | tup h1 h2 => simp only [toD]; exact .tup (sameT r.sub h1) (dp_ofL r n l _ (by simpa [dat] using h) h2)
  | 0, .lst l, _, h, _ => by simp [dat] at h
  | n + 1, .lst l, _, h, q => by
    cases q with
    | lst h1 h2 => simp only [toD]; exact .lst (.inl (.inl (r.sub _ _ h1))) (dp_ofL r n l _ (by simpa [dat] using h) h2)
  | n, .scr _, _, h, _ => by cases n <;> simp [dat] at h
  | n, .ins _ _, _, h, _ => by cases n <;> simp [dat] at h
  | n, .dic _, _, h, _ => by cases n <;> simp [dat] at h
  | n, .ref _, _, h, _ => by cases n <;> simp [dat] at h
  | n, .cls _, _, h, _ => by cases n <;> simp [dat] at h
theorem dp_ofL {K : PySem.W.Frag} {Φ : Hp} {ρ : List Addr} {H : Hp} {S : Sto} (r : Rel K T Φ ρ H S) : ∀ (n : Nat) (w : List W) (v : List V), datL n w = true → VRs K T Φ ρ v w → DpAll K H v (toDL w)
  | _, [], _, _, q => by cases q; exact .nil
  | n, w :: l, _, h, q => by
    have h' : dat n w = true ∧ datL n l = true := by simpa [datL] using h
    cases q with
    | cons h1 h2 => simp only [toDL]; exact .cons (dp_of r n w _ h'.1 h1) (dp_ofL r n l _ h'.2 h2)
end
/-- the same of a list of the store -/
theorem dp_deref {K : PySem.W.Frag} {Φ : Hp} {ρ : List Addr} {H : Hp} {S : Sto} (r : Rel K T Φ ρ H S) {w : W} {v : V} (h : dat 60 (deref S w) = true) (q : VR K T Φ ρ v w) : Dp K H v (toD (deref S w)) := by
  cases w with
  | ref i =>
    cases e : S[i]? with
    | none => simp [deref, e, dat] at h
    | some o =>
      cases o with
      | lst l =>
        have e2 : deref S (.ref i) = .lst l := by simp [deref, e]
        rw [e2] at h ⊢
        obtain ⟨a, vs, rfl, h3, h4⟩ := lst_read r q (l := l) (by simp [lstOf, e])
        simp only [toD]
        exact .lst (.inl (.inl h3)) (dp_ofL r 59 l _ (by simpa [dat] using h) h4)
      | _ => simp [deref, e, dat] at h
  | _ => exact dp_of r 60 _ v h q
end
end KF


set_option Elab.async false
set_option linter.all false
set_option autoImplicit false
set_option maxRecDepth 100000
set_option maxHeartbeats 1000000
namespace KF
open PySem PySem.Spec PyProof.Rows L2
section
variable {X : Cx} {T : Tab}
/-- the reading of a rule of two values -/
def R2I (K : PySem.W.Frag) (T : Tab) (g : W → W → Sto → Res W) : R2 := fun v u H Q => ∃ Φ ρ S x y, Rel K T Φ ρ H S ∧ VR K T Φ ρ v x ∧ VR K T Φ ρ u y ∧ Pst (g x y S) (EndE K T Φ ρ H Q)
def RUI (K : PySem.W.Frag) (T : Tab) (g : W → Sto → Res W) : V → Hp → VK → Prop := fun v H Q => ∃ Φ ρ S x, Rel K T Φ ρ H S ∧ VR K T Φ ρ v x ∧ Pst (g x S) (EndE K T Φ ρ H Q)
def RCI (K : PySem.W.Frag) (T : Tab) (g : List W → Sto → Res W) : List V → Hp → VK → Prop := fun v H Q => ∃ Φ ρ S x, Rel K T Φ ρ H S ∧ VRs K T Φ ρ v x ∧ Pst (g x S) (EndE K T Φ ρ H Q)
theorem mulOk_of {i j : Int} (h : mulOk i j = true) : CMul i j := by
  unfold mulOk at h
  simp only [Bool.or_eq_true, Bool.and_eq_true, decide_eq_true_eq] at h
  exact h
theorem binop_ok (op : Bop) (m : Bool) : OpR X (binaryOp (opOf op)) (R2I X.K T (binop op m)) := by
  intro pins s σ H v u vv uu Q I rv ru h
  obtain ⟨Φ, ρ, S, x, y, rel, vx, uy, h⟩ := h
  unfold binop at h
  split at h
  · cases vx; cases uy
    exact op_add pins s σ H _ _ _ _ Q I rv ru ⟨_, _, rfl, rfl, EndE.now h rel (.int _)⟩
  · split at h
    · rename_i a b hz
      cases vx; cases uy
      refine op_add_str pins s σ H _ _ _ _ Q I rv ru ⟨_, _, rfl, rfl, by rw [toStr_len, toStr_len]; exact sz_line hz, ?_⟩
      have e : toStr a ++ toStr b = toStr (a ++ b) := by
        show (⟨a.toArray ++ b.toArray⟩ : Str) = ⟨(a ++ b).toArray⟩
        simp
      rw [e]
      exact EndE.now h rel (.str _)
    · exact h.elim
  · split at h
    · rename_i a b hz
      cases vx with
      | tup h1 h2 =>
        cases uy with
        | tup h3 h4 =>
          rename_i pa xs pb ys
          refine op_catA pins s σ H _ _ _ _ Q I rv ru ⟨pa, pb, xs, ys, rfl, rfl, sameT rel.sub h1, sameT rel.sub h3, by rw [h2.length, h4.length]; exact sz_line hz, fun e => ?_, fun _ e => ?_, fun _ _ p hp => ?_⟩
          · subst e
            cases h2
            exact EndE.now h rel (.tup h3 h4)
          · subst e
            cases h4
            rw [List.append_nil] at h
            exact EndE.now h rel (.tup h1 h2)
          · have rf := rel.frozen (o := .tup (xs ++ ys)) hp (fun _ z => nomatch z)
            exact h _ _ _ _ (Le.frozen rel hp) rf (.tup (.inl (.inl upd_same)) ((h2.append h4).mono (same_upd (same_fresh rel.sub hp)) (List.prefix_refl _)))
    · exact h.elim
  · split at h
    · rename_i hl hr
      obtain ⟨a, vs, rfl, h1, h2⟩ := lst_read rel vx hl
      obtain ⟨b, us, rfl, h3, h4⟩ := lst_read rel uy hr
      obtain ⟨hz, q⟩ := mkL_ok rel (h2.append h4) h
      exact op_cat pins s σ H _ _ _ _ Q I rv ru ⟨a, b, vs, us, rfl, rfl, h1, h3, by rw [← List.length_append]; exact hz, q⟩
    · exact h.elim
  · cases vx; cases uy
    exact op_sub pins s σ H _ _ _ _ Q I rv ru ⟨_, _, rfl, rfl, EndE.now h rel (.int _)⟩
  · split at h
    · rename_i hm
      cases vx; cases uy
      exact op_mul pins s σ H _ _ _ _ Q I rv ru ⟨_, _, rfl, rfl, mulOk_of hm, EndE.now h rel (.int _)⟩
    · exact h.elim
  · split at h
    · rename_i a j hm
      cases vx; cases uy
      have hm2 : j ≤ 1000000 := hm.2.2
      refine op_mul_str pins s σ H _ _ _ _ Q I rv ru ⟨_, _, rfl, rfl, hm.1, hm2, by rw [toStr_len]; exact hm.2.1, ?_⟩
      have e : (⟨(List.replicate j.toNat (toStr a).cps.toList).flatten.toArray⟩ : Str) = toStr (List.replicate j.toNat a).flatten := by simp [toStr]
      rw [e]
      exact EndE.now h rel (.str _)
    · exact h.elim
  · split at h
    · rename_i hl
      split at h
      · rename_i hj
        obtain ⟨a, vs, rfl, h1, h2⟩ := lst_read rel vx hl
        cases uy
        rename_i j _ _ _ _
        obtain ⟨hz, q⟩ := mkL_ok rel (h2.rep j.toNat) h
        have hj2 : j ≤ 1000000 := hj.2
        refine op_rep pins s σ H _ _ _ _ Q I rv ru ⟨a, j, vs, rfl, rfl, h1, by omega, by omega, ?_, q⟩
        rw [PyProof.Rows.lm_len_rep_flat] at hz
        rw [Nat.mul_comm]; exact hz
      · exact h.elim
    · exact h.elim
  · split at h
    · rename_i hm
      cases vx; cases uy
      exact op_fdivN pins s σ H _ _ _ _ Q I rv ru ⟨_, _, rfl, rfl, hm, EndE.now h rel (.int _)⟩
    · exact h.elim
  · split at h
    · rename_i hm
      cases vx; cases uy
      exact op_modN pins s σ H _ _ _ _ Q I rv ru ⟨_, _, rfl, rfl, hm, EndE.now h rel (.int _)⟩
    · exact h.elim
  · split at h
    · rename_i hm
      cases vx; cases uy
      exact op_pow pins s σ H _ _ _ _ Q I rv ru ⟨_, _, rfl, rfl, hm, EndE.now h rel (.int _)⟩
    · exact h.elim
  · exact h.elim
/-! ### keys -/
theorem key_of_w {K : PySem.W.Frag} {Φ : Hp} {ρ : List Addr} {v : V} {w : W} (h : hkey w = true) (q : VR K T Φ ρ v w) : ∃ k, KeyW k w ∧ v = kV k := by
  cases q with
  | int i => exact ⟨.inl i, rfl, rfl⟩
  | str s => exact ⟨.inr (toStr s), rfl, rfl⟩
  | _ => cases h
theorem keyW_inj {k : Key} {a b : W} (h1 : KeyW k a) (h2 : KeyW k b) : a = b := by
  cases k with
  | inl i => cases a <;> cases b <;> simp_all [KeyW]
  | inr x =>
    cases a <;> cases b <;> simp [KeyW] at h1 h2
    rw [h1] at h2
    rw [toStr_inj h2]
theorem keyW_fun {k j : Key} {a : W} (h1 : KeyW k a) (h2 : KeyW j a) : k = j := by
  cases k <;> cases j <;> cases a <;> simp_all [KeyW]
theorem dget_read {K : PySem.W.Frag} {Φ : Hp} {ρ : List Addr} {k : Key} {w : W} (hk : KeyW k w) : ∀ {kvs : List (Key × V)} {l : List (W × W)}, VDs K T Φ ρ kvs l → (∃ v u, valV kvs k = some v ∧ dget w l = some u ∧ VR K T Φ ρ v u) ∨ (valV kvs k = none ∧ dget w l = none)
  | _, _, .nil => .inr ⟨rfl, rfl⟩
  | _, _, .cons (k := j) (j := w') (v := v) (w := u) h1 h2 r => by
    by_cases e : j = k
    · have e2 : w' = w := keyW_inj (e ▸ h1) hk
      exact .inl ⟨v, u, valV_pos e, by simp [dget, e2], h2⟩
    · have e2 : w' ≠ w := fun z => e (keyW_fun h1 (z ▸ hk))
      rw [valV_neg e]
      simp only [dget, if_neg e2]
      exact dget_read hk r
theorem valV_dget_isSome {K : PySem.W.Frag} {Φ : Hp} {ρ : List Addr} {k : Key} {w : W} (hk : KeyW k w) {kvs : List (Key × V)} {l : List (W × W)} (r : VDs K T Φ ρ kvs l) : (valV kvs k).isSome = (dget w l).isSome := by
  rcases dget_read hk r with ⟨_, _, a, b, _⟩ | ⟨a, b⟩ <;> rw [a, b] <;> rfl
/-! ### comparisons -/
def cmpOf : Cop → CmpOp
  | .eq => .Eq | .ne => .NotEq | .lt => .Lt | .le => .LtE | .gt => .Gt | .ge => .GtE | .is => .Is | .isnot => .IsNot | .isin => .In | .notin => .NotIn
theorem toDL_any (n : Nat) (x : W) (hx : dat n x = true) : ∀ (l : List W), datL n l = true → ((toDL l).any fun z => PyData.eqv z (toD x)) = mem x l
  | [], _ => rfl
  | w :: r, h => by
    have h' : dat n w = true ∧ datL n r = true := by simpa [datL] using h
    have ih := toDL_any n x hx r h'.2
    unfold mem at ih ⊢
    simp only [toDL, List.any_cons, eqv_toD n w x h'.1 hx, ih]
theorem shapedL {l : List W} (h : datL 60 l = true) : PyData.canLayAll0 (toDL l) = true ∧ PyData.depthAll (toDL l) ≤ 60 := dat_layL 60 l h
theorem in_ok (hu : X.A.units + 65 < cLine) : OpR X (compareOp .In) (R2I X.K T fun x y S => (cmpop .isin x y S).bind fun k S => .ok (.bl k) S) := by
  intro pins s σ H v u vv uu Q I rv ru h
  obtain ⟨Φ, ρ, S, x, y, rel, vx, uy, h⟩ := h
  have h := Pst.bind h
  simp only [cmpop] at h
  split at h
  · rename_i l hl
    split at h
    · rename_i hd
      have hd' : dat 60 x = true ∧ datL 60 l = true := by simpa using hd
      obtain ⟨a, vs, rfl, hs, hv⟩ := seq_read rel uy hl
      obtain ⟨c1, c2⟩ := shapedL hd'.2
      have sx := shaped_of hd'.1
      have dx := dp_of rel 60 x v hd'.1 vx
      have dl := dp_ofL rel 60 l vs hd'.2 hv
      have q : Q (.bl (mem x l)) H := EndE.now h rel (.bl _)
      obtain ⟨as, r1⟩ := Dp.reads I _ v vv dx rv
      rcases hs with hs | hs
      · obtain ⟨bs, r2⟩ := Dp.reads I (.list (toDL l)) (.ref a) uu (.lst hs dl) ru
        refine SeqAt.in_list_reads r2 r1 c1 (SeqAt.canLay_of_shaped sx) (by omega) ⟨.bl _, H, I, rfl, ?_⟩
        rw [toDL_any 60 x hd'.1 l hd'.2]; exact q
      · obtain ⟨bs, r2⟩ := Dp.reads I (.tuple (toDL l)) (.ref a) uu (.tup hs dl) ru
        refine SeqAt.in_tuple_reads r2 r1 c1 (SeqAt.canLay_of_shaped sx) (by omega) ⟨.bl _, H, I, rfl, ?_⟩
        rw [toDL_any 60 x hd'.1 l hd'.2]; exact q
    · exact h.elim
  · split at h
    · rename_i l hl
      split at h
      · rename_i hk
        obtain ⟨a, kvs, rfl, hd, hv⟩ := dic_read rel uy hl
        obtain ⟨k, k1, rfl⟩ := key_of_w hk vx
        cases ru
        refine d_in (by omega) I (DGet.k hd) rv fun s' I' => ⟨.bl _, H, I', rfl, ?_⟩
        rw [valV_dget_isSome k1 hv]
        exact EndE.now h rel (.bl _)
      · exact h.elim
    · exact h.elim
theorem notin_ok (hu : X.A.units + 65 < cLine) : OpR X (compareOp .NotIn) (R2I X.K T fun x y S => (cmpop .notin x y S).bind fun k S => .ok (.bl k) S) := by
  intro pins s σ H v u vv uu Q I rv ru h
  obtain ⟨Φ, ρ, S, x, y, rel, vx, uy, h⟩ := h
  have h := Pst.bind h
  simp only [cmpop] at h
  split at h
  · rename_i l hl
    split at h
    · rename_i hd
      have hd' : dat 60 x = true ∧ datL 60 l = true := by simpa using hd
      obtain ⟨a, vs, rfl, hs, hv⟩ := seq_read rel uy hl
      obtain ⟨c1, c2⟩ := shapedL hd'.2
      have sx := shaped_of hd'.1
      have dx := dp_of rel 60 x v hd'.1 vx
      have dl := dp_ofL rel 60 l vs hd'.2 hv
      have q : Q (.bl (!mem x l)) H := EndE.now h rel (.bl _)
      obtain ⟨as, r1⟩ := Dp.reads I _ v vv dx rv
      rcases hs with hs | hs
      · obtain ⟨bs, r2⟩ := Dp.reads I (.list (toDL l)) (.ref a) uu (.lst hs dl) ru
        refine SeqAt.notIn_list_reads r2 r1 c1 (SeqAt.canLay_of_shaped sx) (by omega) ⟨.bl _, H, I, rfl, ?_⟩
        rw [toDL_any 60 x hd'.1 l hd'.2]; exact q
      · obtain ⟨bs, r2⟩ := Dp.reads I (.tuple (toDL l)) (.ref a) uu (.tup hs dl) ru
        refine SeqAt.notIn_tuple_reads r2 r1 c1 (SeqAt.canLay_of_shaped sx) (by omega) ⟨.bl _, H, I, rfl, ?_⟩
        rw [toDL_any 60 x hd'.1 l hd'.2]; exact q
    · exact h.elim
  · split at h
    · rename_i l hl
      split at h
      · rename_i hk
        obtain ⟨a, kvs, rfl, hd, hv⟩ := dic_read rel uy hl
        obtain ⟨k, k1, rfl⟩ := key_of_w hk vx
        cases ru
        refine d_notIn (by omega) I (DGet.k hd) rv fun s' I' => ⟨.bl _, H, I', rfl, ?_⟩
        rw [valV_dget_isSome k1 hv]
        exact EndE.now h rel (.bl _)
      · exact h.elim
    · exact h.elim
theorem VR.non_iff {K : PySem.W.Frag} {Φ : Hp} {ρ : List Addr} {v : V} {w : W} (q : VR K T Φ ρ v w) : decide (v = .non) = decide (w = .non) := by
  cases q <;> simp
theorem cmpop_ok (hu : X.A.units + 65 < cLine) (op : Cop) : OpR X (compareOp (cmpOf op)) (R2I X.K T fun x y S => (cmpop op x y S).bind fun k S => .ok (.bl k) S) := by
  by_cases e1 : op = .isin
  · subst e1; exact in_ok hu
  by_cases e2 : op = .notin
  · subst e2; exact notin_ok hu
  intro pins s σ H v u vv uu Q I rv ru h
  obtain ⟨Φ, ρ, S, x, y, rel, vx, uy, h⟩ := h
  have h := Pst.bind h
  unfold cmpop at h
  split at h
  · cases vx; cases uy
    exact op_lt pins s σ H _ _ _ _ Q I rv ru ⟨_, _, rfl, rfl, EndE.now h rel (.bl _)⟩
  · cases vx; cases uy
    exact op_le pins s σ H _ _ _ _ Q I rv ru ⟨_, _, rfl, rfl, EndE.now h rel (.bl _)⟩
  · cases vx; cases uy
    exact op_gt pins s σ H _ _ _ _ Q I rv ru ⟨_, _, rfl, rfl, EndE.now h rel (.bl _)⟩
  · cases vx; cases uy
    exact op_ge pins s σ H _ _ _ _ Q I rv ru ⟨_, _, rfl, rfl, EndE.now h rel (.bl _)⟩
  · cases uy
    exact op_isN pins s σ H _ _ _ _ Q I rv ru ⟨rfl, by rw [vx.non_iff]; exact EndE.now h rel (.bl _)⟩
  · cases uy
    exact op_notN pins s σ H _ _ _ _ Q I rv ru ⟨rfl, by rw [vx.non_iff]; exact EndE.now h rel (.bl _)⟩
  · split at h
    · rename_i hd
      have hd' : dat 60 (deref S x) = true ∧ dat 60 (deref S y) = true := by simpa using hd
      refine op_eqD (by omega) pins s σ H _ _ _ _ Q I rv ru ⟨_, _, dp_deref rel hd'.1 vx, dp_deref rel hd'.2 uy, shaped_of hd'.1, shaped_of hd'.2, ?_⟩
      rw [eqv_toD 60 _ _ hd'.1 hd'.2]
      exact EndE.now h rel (.bl _)
    · exact h.elim
  · split at h
    · rename_i hd
      have hd' : dat 60 (deref S x) = true ∧ dat 60 (deref S y) = true := by simpa using hd
      refine op_neD (by omega) pins s σ H _ _ _ _ Q I rv ru ⟨_, _, dp_deref rel hd'.1 vx, dp_deref rel hd'.2 uy, shaped_of hd'.1, shaped_of hd'.2, ?_⟩
      rw [eqv_toD 60 _ _ hd'.1 hd'.2]
      exact EndE.now h rel (.bl _)
    · exact h.elim
  · exact absurd rfl e1
  · exact absurd rfl e2
  · exact h.elim
end
end KF


set_option Elab.async false
set_option linter.all false
set_option autoImplicit false
set_option maxRecDepth 100000
set_option maxHeartbeats 1000000
namespace KF
open PySem PySem.Spec PyProof.Rows L2
section
variable {X : Cx} {T : Tab}
theorem pyIx_eq (n : Nat) (i : Int) : pyIx n i = ixN n i := rfl
theorem cutAt_eq (n d : Nat) (o : Option Int) : cutAt n d o = HT.sIx n d o := by
  cases o <;> rfl
theorem VRs.cutL {K : PySem.W.Frag} {Φ : Hp} {ρ : List Addr} {vs : List V} {l : List W} (q : VRs K T Φ ρ vs l) (lo hi : Option Int) : VRs K T Φ ρ (cutV vs lo hi) (cut l lo hi) := by
  unfold cutV cut
  rw [cutAt_eq, cutAt_eq, q.length]
  exact (q.drop _).take _
theorem subs_ok (hu : X.A.units + 1 < cLine) : IxR X (R2I X.K T subs) := by
  intro value slice pins s σ H v u vv uu Q I rv ru h hsub
  obtain ⟨Φ, ρ, S, x, y, rel, vx, uy, h⟩ := h
  unfold subs at h
  split at h
  · split at h
    · rename_i z k hz
      split at h
      · rename_i j hj
        split at h
        · rename_i c hc
          cases vx; cases uy
          refine ix_str value slice pins s σ H _ _ _ _ Q I rv ru ⟨_, _, c, rfl, rfl, by rw [toStr_len]; exact sz_line hz, ?_, ?_⟩ hsub
          · show atI z k = some c
            unfold atI
            rw [← pyIx_eq, hj]
            exact hc
          · exact EndE.now h rel (.str [c])
        · exact h.elim
      · exact h.elim
    · exact h.elim
  · split at h
    · rename_i l k hl _
      split at h
      · rename_i j hj
        obtain ⟨w, hw, q⟩ := Pst.orStuck h
        obtain ⟨a, vs, rfl, hs, hv⟩ := seq_read rel vx hl
        cases uy
        obtain ⟨y, hy, vy⟩ := hv.get hw
        have ha : atI vs k = some y := by
          unfold atI
          rw [← pyIx_eq, hv.length, hj]
          exact hy
        rcases hs with hs | hs
        · exact ix_list value slice pins s σ H _ _ _ _ Q I rv ru ⟨a, vs, k, y, rfl, rfl, hs, ha, EndE.now q rel vy⟩ hsub
        · exact ix_tup value slice pins s σ H _ _ _ _ Q I rv ru ⟨a, vs, k, y, rfl, rfl, hs, ha, EndE.now q rel vy⟩ hsub
      · exact h.elim
    · split at h
      · rename_i l hl
        split at h
        · rename_i hk
          obtain ⟨w, hw, q⟩ := Pst.orStuck h
          obtain ⟨a, kvs, rfl, hd, hv⟩ := dic_read rel vx hl
          obtain ⟨k, k1, rfl⟩ := key_of_w hk uy
          rcases dget_read k1 hv with ⟨v', w', e1, e2, r⟩ | ⟨_, e2⟩
          · rw [hw] at e2; cases e2
            cases rv
            have g : DGet H a (kV k) (some v') := by rw [← e1]; exact DGet.k hd
            exact tail_any (dict_typeIs I g) PySem.F.slot_dict_getitem.lookup (d_getItem hu I g ru fun w' s3 I3 rw' => ⟨v', H, I3, rw', EndE.now q rel r⟩) hsub
          · rw [hw] at e2; cases e2
        · exact h.elim
      · exact h.elim
/-- the parts of a slice -/
def RSl (K : PySem.W.Frag) (T : Tab) (m : Bool) : V → Option Int → Option Int → Hp → VK → Prop := fun v lo hi H Q => ∃ Φ ρ S x, Rel K T Φ ρ H S ∧ VR K T Φ ρ v x ∧ Pst (slice m x (lo.map .int) (hi.map .int) S) (EndE K T Φ ρ H Q)
theorem optI_map (o : Option Int) : optI (o.map .int) = some o := by cases o <;> rfl
theorem slice_ok (m : Bool) : SlR X (RSl X.K T m) := by
  intro pins s σ H v vv vl vu lo hi sl Q I rv hs pl pu h
  obtain ⟨Φ, ρ, S, x, rel, vx, h⟩ := h
  unfold slice at h
  rw [optI_map, optI_map] at h
  simp only at h
  split at h
  · cases vx with
    | tup h1 h2 =>
      rename_i l a vs
      have hl := h2.length
      refine sl_tupA pins s σ H _ vv vl vu lo hi sl Q I rv hs pl pu ⟨a, vs, rfl, sameT rel.sub h1, fun e => ?_, fun _ p hp => ?_⟩
      · have e2 : cut l lo hi = l := by
          unfold cut
          rw [cutAt_eq, cutAt_eq, ← hl, e.1, e.2, hl]
          simp
        rw [e2] at h
        exact EndE.now h rel (.tup h1 h2)
      · have rf := rel.frozen (o := .tup (cutV vs lo hi)) hp (fun _ z => nomatch z)
        exact h _ _ _ _ (Le.frozen rel hp) rf (.tup (.inl (.inl upd_same)) ((h2.cutL lo hi).mono (same_upd (same_fresh rel.sub hp)) (List.prefix_refl _)))
  · split at h
    · rename_i l hl
      split at h
      · obtain ⟨a, vs, rfl, hs', hv⟩ := lst_read rel vx hl
        obtain ⟨hz, q⟩ := mkL_ok rel (hv.cutL lo hi) h
        exact sl_list pins s σ H _ vv vl vu lo hi sl Q I rv hs pl pu ⟨a, vs, rfl, .inl (.inl hs'), q⟩
      · exact h.elim
    · exact h.elim
/-! ### built-in functions -/
theorem len_ok (m : Bool) : CallR X (.builtin "len") (RCI X.K T (bltin .len m)) := by
  intro pins s σ H vs us Q I r h
  obtain ⟨Φ, ρ, S, xs, rel, vx, h⟩ := h
  unfold bltin at h
  split at h <;> first | exact h.elim | skip
  all_goals (rename_i e1; first | (cases e1; done) | skip)
  · split at h
    · rename_i z hz
      cases vx with
      | cons v1 v2 =>
        cases v2; cases v1
        refine call_len_str pins s σ H _ us Q I r ⟨_, rfl, by rw [toStr_len]; exact sz_line hz, ?_⟩
        rw [toStr_len]
        exact EndE.now h rel (.int _)
    · exact h.elim
  · cases vx with
    | cons v1 v2 =>
      cases v2
      split at h
      · rename_i l hl
        obtain ⟨a, vs, rfl, hs, hv⟩ := seq_read rel v1 hl
        refine call_len_seq pins s σ H _ us Q I r ⟨a, vs, rfl, hs, ?_⟩
        rw [hv.length]
        exact EndE.now h rel (.int _)
      · split at h
        · rename_i l hl
          obtain ⟨a, kvs, rfl, hd, hv⟩ := dic_read rel v1 hl
          refine call_lenD pins s σ H _ us Q I r ⟨a, kvs, rfl, hd, ?_⟩
          rw [hv.length]
          exact EndE.now h rel (.int _)
        · exact h.elim
theorem int_ok (m : Bool) : CallR X (.type "int") (RCI X.K T (bltin .int m)) := by
  intro pins s σ H vs us Q I r h
  obtain ⟨Φ, ρ, S, xs, rel, vx, h⟩ := h
  unfold bltin at h
  split at h <;> first | exact h.elim | skip
  all_goals (rename_i e1; first | (cases e1; done) | skip)
  · cases vx with
    | cons v1 v2 =>
      cases v2; cases v1
      exact call_int1 pins s σ H _ us Q I r (.inl ⟨_, rfl, EndE.now h rel (.int _)⟩)
  · cases vx with
    | cons v1 v2 =>
      cases v2; cases v1
      exact call_int1 pins s σ H _ us Q I r (.inr ⟨_, rfl, EndE.now h rel (.int _)⟩)
theorem list_ok (m : Bool) : CallR X (.type "list") (RCI X.K T (bltin .list m)) := by
  intro pins s σ H vs us Q I r h
  obtain ⟨Φ, ρ, S, xs, rel, vx, h⟩ := h
  unfold bltin at h
  split at h <;> first | exact h.elim | skip
  all_goals (rename_i e1; first | (cases e1; done) | skip)
  · cases vx with
    | cons v1 v2 =>
      cases v2
      split at h
      · rename_i l hl
        obtain ⟨a, vs, rfl, hs, hv⟩ := seq_read rel v1 hl
        obtain ⟨hz, q⟩ := mkL_ok rel hv h
        exact call_list_of pins s σ H _ us Q I r ⟨a, vs, rfl, hs, q⟩
      · exact h.elim
theorem tuple_ok (m : Bool) : CallR X (.type "tuple") (RCI X.K T (bltin .tuple m)) := by
  intro pins s σ H vs us Q I r h
  obtain ⟨Φ, ρ, S, xs, rel, vx, h⟩ := h
  unfold bltin at h
  split at h <;> first | exact h.elim | skip
  all_goals (rename_i e1; first | (cases e1; done) | skip)
  · cases vx with
    | cons v1 v2 =>
      cases v2
      split at h
      · rename_i l hl
        have go : ∀ {v : V} {a : Addr} {vs : List V}, v = .ref a → SqL X.K H a vs → VRs X.K T Φ ρ vs l → Vals [v] us → wpAny (model X.prog X.w) X.A (PySem.call (.type "tuple") us) (EP X pins σ Q) X.xe s := fun {v a vs} e hs hv r => by
          subst e
          obtain ⟨hz, q⟩ := mkT_ok rel hv h
          exact call_tuple_of pins s σ H _ us Q I r ⟨a, vs, rfl, .inl ⟨hs, q⟩⟩
        cases v1 with
        | tup h1 h2 =>
          cases hl
          unfold mkT at h
          split at h
          · exact call_tuple_of pins s σ H _ us Q I r ⟨_, _, rfl, .inr ⟨sameT rel.sub h1, EndE.now h rel (.tup h1 h2)⟩⟩
          · exact h.elim
        | lst h1 h2 => cases hl; exact go rfl (.inl (.inl (rel.sub _ _ h1))) h2 r
        | scr h1 h2 => cases hl; exact go rfl (L2.Same.seq rel.sub h1) h2 r
        | ref h1 =>
          obtain ⟨a', vs', e, h2, h3⟩ := lst_read rel (.ref h1) (show lstOf S _ = some l from hl)
          exact go e (.inl (.inl h2)) h3 r
        | _ => cases hl
      · exact h.elim
theorem min2_ok (m : Bool) (hc : X.calm = true) : CallR X (.builtin "min") (RCI X.K T (bltin .min2 m)) := by
  intro pins s σ H vs us Q I r h
  obtain ⟨Φ, ρ, S, xs, rel, vx, h⟩ := h
  unfold bltin at h
  split at h <;> first | exact h.elim | skip
  all_goals (rename_i e1; first | (cases e1; done) | skip)
  · cases vx with
    | cons v1 v2 =>
      cases v2 with
      | cons v3 v4 =>
        cases v4; cases v3; cases v1
        exact call_min2 hc pins s σ H _ us Q I r ⟨_, _, rfl, EndE.now h rel (.int _)⟩
theorem max2_ok (m : Bool) (hc : X.calm = true) : CallR X (.builtin "max") (RCI X.K T (bltin .max2 m)) := by
  intro pins s σ H vs us Q I r h
  obtain ⟨Φ, ρ, S, xs, rel, vx, h⟩ := h
  unfold bltin at h
  split at h <;> first | exact h.elim | skip
  all_goals (rename_i e1; first | (cases e1; done) | skip)
  · cases vx with
    | cons v1 v2 =>
      cases v2 with
      | cons v3 v4 =>
        cases v4; cases v3; cases v1
        exact call_max2 hc pins s σ H _ us Q I r ⟨_, _, rfl, EndE.now h rel (.int _)⟩
/-- o[i] = v -/
def RSet (K : PySem.W.Frag) (T : Tab) : TSet := fun o i v H Q => ∃ Φ ρ S x y z, Rel K T Φ ρ H S ∧ VR K T Φ ρ o x ∧ VR K T Φ ρ i y ∧ VR K T Φ ρ v z ∧ Pst (setSub x y z S) fun _ S' => ∀ Φ' ρ' H', Le Φ ρ H Φ' ρ' H' → Rel K T Φ' ρ' H' S' → Q H'
theorem VDs.anyk {K : PySem.W.Frag} {Φ : Hp} {ρ : List Addr} {k : Key} {w : W} (hk : KeyW k w) : ∀ {kvs : List (Key × V)} {l : List (W × W)}, VDs K T Φ ρ kvs l → (kvs.any fun kv => decide (kv.1 = k)) = l.any fun p => decide (p.1 = w)
  | _, _, .nil => rfl
  | _, _, .cons (k := j) (j := w') h1 h2 r => by
    have e : decide (j = k) = decide (w' = w) := by
      by_cases e : j = k
      · have e2 : w' = w := keyW_inj (e ▸ h1) hk
        rw [decide_eq_true e, decide_eq_true e2]
      · have e2 : w' ≠ w := fun z => e (keyW_fun h1 (z ▸ hk))
        rw [decide_eq_false e, decide_eq_false e2]
    simp only [List.any_cons, e, VDs.anyk hk r]
theorem VDs.mapk {K : PySem.W.Frag} {Φ : Hp} {ρ : List Addr} {k : Key} {w : W} {v : V} {u : W} (hk : KeyW k w) (hv : VR K T Φ ρ v u) : ∀ {kvs : List (Key × V)} {l : List (W × W)}, VDs K T Φ ρ kvs l →
    VDs K T Φ ρ (kvs.map fun kv => if kv.1 = k then (kv.1, v) else kv) (l.map fun p => if p.1 = w then (p.1, u) else p)
  | _, _, .nil => .nil
  | _, _, .cons (k := j) (j := w') h1 h2 r => by
    by_cases e : j = k
    · have e2 : w' = w := keyW_inj (e ▸ h1) hk
      simp only [List.map_cons, if_pos e, if_pos e2]
      exact .cons h1 hv (VDs.mapk hk hv r)
    · have e2 : w' ≠ w := fun z => e (keyW_fun h1 (z ▸ hk))
      simp only [List.map_cons, if_neg e, if_neg e2]
      exact .cons h1 h2 (VDs.mapk hk hv r)
theorem VDs.append {K : PySem.W.Frag} {Φ : Hp} {ρ : List Addr} : ∀ {a c : List (Key × V)} {b d : List (W × W)}, VDs K T Φ ρ a b → VDs K T Φ ρ c d → VDs K T Φ ρ (a ++ c) (b ++ d)
  | _, _, _, _, .nil, q => q
  | _, _, _, _, .cons h1 h2 r, q => .cons h1 h2 (r.append q)
theorem VDs.put {K : PySem.W.Frag} {Φ : Hp} {ρ : List Addr} {k : Key} {w : W} {v : V} {u : W} (hk : KeyW k w) (hv : VR K T Φ ρ v u) {kvs : List (Key × V)} {l : List (W × W)} (r : VDs K T Φ ρ kvs l) : VDs K T Φ ρ (putK kvs k v) (dput w u l) := by
  unfold putK dput
  rw [VDs.anyk hk r]
  split
  · exact VDs.mapk hk hv r
  · exact r.append (.cons hk hv .nil)
theorem VDs.del {K : PySem.W.Frag} {Φ : Hp} {ρ : List Addr} {k : Key} {w : W} (hk : KeyW k w) : ∀ {kvs : List (Key × V)} {l : List (W × W)}, VDs K T Φ ρ kvs l → VDs K T Φ ρ (dropK kvs k) (ddel w l)
  | _, _, .nil => .nil
  | _, _, .cons (k := j) (j := w') h1 h2 r => by
    unfold dropK ddel
    by_cases e : j = k
    · have e2 : w' = w := keyW_inj (e ▸ h1) hk
      rw [List.filter_cons_of_neg (by simp [e]), List.filter_cons_of_neg (by simp [e2])]
      exact VDs.del hk r
    · have e2 : w' ≠ w := fun z => e (keyW_fun h1 (z ▸ hk))
      rw [List.filter_cons_of_pos (by simp [e]), List.filter_cons_of_pos (by simp [e2])]
      exact .cons h1 h2 (VDs.del hk r)
theorem lst_ref {K : PySem.W.Frag} {Φ : Hp} {ρ : List Addr} {H : Hp} {S : Sto} (rel : Rel K T Φ ρ H S) {i : Nat} {l : List W} {v : V} (q : VR K T Φ ρ v (.ref i)) (e : S[i]? = some (.lst l)) : ∃ a vs, v = .ref a ∧ ρ[i]? = some a ∧ H a = some (.lst vs) ∧ VRs K T Φ ρ vs l := by
  cases q with
  | ref h1 =>
    obtain ⟨_, ho, h5, h6⟩ := rel.ob _ _ _ h1 e (fun z => nomatch z)
    cases h6 with
    | lst q => exact ⟨_, _, rfl, h1, h5, q⟩
theorem dic_ref {K : PySem.W.Frag} {Φ : Hp} {ρ : List Addr} {H : Hp} {S : Sto} (rel : Rel K T Φ ρ H S) {i : Nat} {l : List (W × W)} {v : V} (q : VR K T Φ ρ v (.ref i)) (e : S[i]? = some (.dic l)) : ∃ a kvs, v = .ref a ∧ ρ[i]? = some a ∧ H a = some (.dK kvs) ∧ VDs K T Φ ρ kvs l := by
  cases q with
  | ref h1 =>
    obtain ⟨_, ho, h5, h6⟩ := rel.ob _ _ _ h1 e (fun z => nomatch z)
    cases h6 with
    | dic q => exact ⟨_, _, rfl, h1, h5, q⟩
theorem ins_ref {K : PySem.W.Frag} {Φ : Hp} {ρ : List Addr} {H : Hp} {S : Sto} (rel : Rel K T Φ ρ H S) {i c : Nat} {fs : List (Nat × W)} {v : V} (q : VR K T Φ ρ v (.ref i)) (e : S[i]? = some (.ins c fs)) : ∃ a dx fvs, v = .ref a ∧ ρ[i]? = some a ∧ H a = some (.ins (T.ca c) dx fvs) ∧ VFs K T Φ ρ fvs fs := by
  cases q with
  | ref h1 =>
    obtain ⟨_, ho, h5, h6⟩ := rel.ob _ _ _ h1 e (fun z => nomatch z)
    cases h6 with
    | ins q => exact ⟨_, _, _, rfl, h1, h5, q⟩
theorem setSub_ok (hu : X.A.units + 1 < cLine) : PSet X (RSet X.K T) := by
  intro pins s σ H o i v ov iv u Q I ro ri rv h
  obtain ⟨Φ, ρ, S, x, y, z, rel, vo, vi, vv, h⟩ := h
  unfold setSub at h
  split at h
  · split at h
    · rename_i a l e
      obtain ⟨b, vs, rfl, h1, h2, h3⟩ := lst_ref rel vo e
      split at h
      · split at h
        · rename_i k _ j hj
          cases vi
          exact set_list pins s σ H _ _ _ _ _ _ Q I ro ri rv ⟨b, vs, k, j, rfl, rfl, h2, by rw [← pyIx_eq, h3.length]; exact hj, h _ _ _ (Le.write h1) (rel.write h1 e (fun z => nomatch z) (.lst (h3.set vv j)))⟩
        · exact h.elim
      · exact h.elim
    · rename_i a l e
      obtain ⟨b, kvs, rfl, h1, h2, h3⟩ := dic_ref rel vo e
      split at h
      · rename_i hk
        obtain ⟨k, k1, rfl⟩ := key_of_w hk.1 vi
        cases ro
        have hz : kvs.length < sizeLine := by
          have h9 : l.length < 1000000 := hk.2
          rw [h3.length, sizeLine_eq]; omega
        refine d_setItem hu I (DPut.k h2 hz) ri rv fun s' I' => ⟨_, I', ?_⟩
        exact h _ _ _ (Le.write h1) (rel.write h1 e (fun z => nomatch z) (.dic (h3.put k1 vv)))
      · exact h.elim
    · exact h.elim
  · exact h.elim
/-- a built-in method -/
def RM (K : PySem.W.Frag) (T : Tab) (g : W → List W → Sto → Res W) : V → List V → Hp → VK → Prop := fun v vs H Q => ∃ Φ ρ S x ws, Rel K T Φ ρ H S ∧ VR K T Φ ρ v x ∧ VRs K T Φ ρ vs ws ∧ Pst (g x ws S) (EndE K T Φ ρ H Q)
theorem append_ok (m : Bool) : MtR X "list.append" (RM X.K T (bmeth .append m)) := by
  intro pins s σ H v vs u us Q I rv r h
  obtain ⟨Φ, ρ, S, x, ws, rel, vx, vw, h⟩ := h
  unfold bmeth at h
  split at h
  · split at h
    · rename_i i l e
      obtain ⟨b, xs, rfl, h1, h2, h3⟩ := lst_ref rel vx e
      split at h <;> first | exact h.elim | skip
      all_goals (rename_i e1; first | (cases e1; done) | skip)
      split at h
      · rename_i hz
        cases vw with
        | cons q1 q2 =>
          cases q2
          refine mt_append pins s σ H _ _ _ _ Q I rv r ⟨b, xs, _, rfl, rfl, h2, ?_, ?_⟩
          · have h9 : l.length < 1000000 := hz
            rw [h3.length, sizeLine_eq]; omega
          · exact h _ _ _ _ (Le.write h1) (rel.write h1 e (fun z => nomatch z) (.lst (h3.append (.cons q1 .nil)))) .non
      · exact h.elim
    · rename_i i l e
      split at h <;> first | exact h.elim | skip
      all_goals (rename_i e1; first | (cases e1; done) | skip)
    · exact h.elim
  · exact h.elim
end
end KF


set_option Elab.async false
set_option linter.all false
set_option autoImplicit false
set_option maxRecDepth 100000
set_option maxHeartbeats 1000000
namespace KF
open PySem PySem.Spec PyProof.Rows L2
open PySem.W (alike alikeAll keyToks keyToksAll dataLt dataKind SortsAt EachIs sortVals)
/-! the order of data, as the library tells it -/
mutual
theorem alike_toD : ∀ (n : Nat) (a b : W), dat n a = true → dat n b = true → alike (toD a) (toD b) = alikeW a b
  | n, .non, b, _, hb => by cases b <;> first | rfl | (cases n <;> simp [dat] at hb; done) | simp [toD, alike, alikeW]
  | n, .bl _, b, _, hb => by cases b <;> first | rfl | simp [toD, alike, alikeW]
  | n, .int _, b, _, hb => by cases b <;> first | rfl | simp [toD, alike, alikeW]
  | n, .str _, b, _, hb => by cases b <;> first | rfl | simp [toD, alike, alikeW]
  | 0, .tup _, b, ha, _ => by simp [dat] at ha
  | 0, .lst _, b, ha, _ => by simp [dat] at ha
  | n + 1, .tup l, b, ha, hb => by
    cases b <;> first | (simp [toD, alike, alikeW]; done) | skip
    rename_i r
    simp only [toD, alike, alikeW]
    exact alike_toDL n l r (by simpa [dat] using ha) (by simpa [dat] using hb)
  | n + 1, .lst l, b, ha, hb => by
    cases b <;> first | (simp [toD, alike, alikeW]; done) | skip
    rename_i r
    simp only [toD, alike, alikeW]
    exact alike_toDL n l r (by simpa [dat] using ha) (by simpa [dat] using hb)
  | n, .scr _, b, ha, _ => by cases n <;> simp [dat] at ha
  | n, .ins _ _, b, ha, _ => by cases n <;> simp [dat] at ha
  | n, .dic _, b, ha, _ => by cases n <;> simp [dat] at ha
  | n, .ref _, b, ha, _ => by cases n <;> simp [dat] at ha
  | n, .cls _, b, ha, _ => by cases n <;> simp [dat] at ha
theorem alike_toDL : ∀ (n : Nat) (a b : List W), datL n a = true → datL n b = true → alikeAll (toDL a) (toDL b) = alikeWL a b
  | n, [], b, _, _ => by cases b <;> simp [toDL, alikeAll, alikeWL]
  | n, x :: a, [], _, _ => by simp [toDL, alikeAll, alikeWL]
  | n, x :: a, y :: b, ha, hb => by
    simp only [datL, Bool.and_eq_true] at ha hb
    simp only [toDL, alikeAll, alikeWL]
    rw [alike_toD n x y ha.1 hb.1, alike_toDL n a b ha.2 hb.2]
end
theorem nmLt_lt : ∀ a b : Nm, decide (a < b) = nmLt a b
  | [], [] => by simp [nmLt]
  | [], y :: b => by simp [nmLt]
  | x :: a, [] => by simp [nmLt]
  | x :: a, y :: b => by
    have ih := nmLt_lt a b
    rw [nmLt]
    by_cases h : x = y
    · subst h
      rw [if_pos rfl, ← ih]
      exact decide_eq_decide.mpr (by simp [List.cons_lt_cons_iff])
    · rw [if_neg h]
      by_cases q : x < y
      · have e : Nat.blt x y = true := Nat.blt_eq.mpr q
        rw [e]
        exact decide_eq_true (List.cons_lt_cons_iff.mpr (.inl q))
      · have e : Nat.blt x y = false := by
          cases z : Nat.blt x y with
          | false => rfl
          | true => exact absurd (Nat.blt_eq.mp z) q
        rw [e]
        refine decide_eq_false fun z => ?_
        rcases List.cons_lt_cons_iff.mp z with z | z
        · exact q z
        · exact h z.1
mutual
theorem wLt_toD : ∀ (n : Nat) (a b : W), dat n a = true → dat n b = true → alikeW a b = true → dataLt (toD a) (toD b) = wLt a b
  | n, .non, b, _, hb, h => by
    cases b <;> first | (simp [alikeW] at h; done) | skip
    simp only [toD, wLt]
    exact lex_irrefl _
  | n, .bl p, b, _, hb, h => by
    cases b <;> first | (simp [alikeW] at h; done) | skip
    rename_i q
    simp only [toD, wLt]
    rw [PySem.W.dataLt_bool]
    cases p <;> cases q <;> rfl
  | n, .int i, b, _, hb, h => by
    cases b <;> first | (simp [alikeW] at h; done) | skip
    simp only [toD, wLt]
    exact PySem.W.dataLt_int _ _
  | n, .str s, b, _, hb, h => by
    cases b <;> first | (simp [alikeW] at h; done) | skip
    rename_i t
    simp only [toD, wLt]
    rw [PySem.W.dataLt_str, ← nmLt_lt]
    exact decide_eq_decide.mpr Iff.rfl
  | 0, .tup _, b, ha, _, _ => by simp [dat] at ha
  | 0, .lst _, b, ha, _, _ => by simp [dat] at ha
  | n + 1, .tup l, b, ha, hb, h => by
    cases b <;> first | (simp [alikeW] at h; done) | skip
    rename_i r
    simp only [toD, wLt]
    rw [PySem.W.dataLt_tuple]
    exact wLt_toDL n l r (by simpa [dat] using ha) (by simpa [dat] using hb) (by simpa [alikeW] using h)
  | n + 1, .lst l, b, ha, hb, h => by
    cases b <;> first | (simp [alikeW] at h; done) | skip
    rename_i r
    simp only [toD, wLt]
    rw [PySem.W.dataLt_list]
    exact wLt_toDL n l r (by simpa [dat] using ha) (by simpa [dat] using hb) (by simpa [alikeW] using h)
  | n, .scr _, b, ha, _, _ => by cases n <;> simp [dat] at ha
  | n, .ins _ _, b, ha, _, _ => by cases n <;> simp [dat] at ha
  | n, .dic _, b, ha, _, _ => by cases n <;> simp [dat] at ha
  | n, .ref _, b, ha, _, _ => by cases n <;> simp [dat] at ha
  | n, .cls _, b, ha, _, _ => by cases n <;> simp [dat] at ha
theorem wLt_toDL : ∀ (n : Nat) (a b : List W), datL n a = true → datL n b = true → alikeWL a b = true → PyProof.Rows.lexLt itemOrd (keyToksAll (toDL a)) (keyToksAll (toDL b)) = wLtL a b
  | n, [], [], _, _, _ => lex_irrefl _
  | n, [], y :: b, _, _, _ => by
    simp only [toDL, wLtL, keyToksAll]
    rw [lex_diff (O := itemOrd) (by simp)]
    simp [itemLt]
  | n, x :: a, [], _, _, _ => by
    simp only [toDL, wLtL, keyToksAll]
    rw [lex_diff (O := itemOrd) (by simp)]
    simp [itemLt]
  | n, x :: a, y :: b, ha, hb, h => by
    simp only [datL, Bool.and_eq_true] at ha hb
    simp only [alikeWL, Bool.and_eq_true] at h
    simp only [toDL, wLtL]
    have al : alike (toD x) (toD y) = true := by rw [alike_toD n x y ha.1 hb.1]; exact h.1
    by_cases e : eqv x y = true
    · rw [if_pos e, PySem.W.dataLt_all_yes al (by rw [eqv_toD n x y ha.1 hb.1]; exact e)]
      exact wLt_toDL n a b ha.2 hb.2 h.2
    · rw [if_neg e, PySem.W.dataLt_all_no al (by rw [eqv_toD n x y ha.1 hb.1]; simpa using e)]
      exact wLt_toD n x y ha.1 hb.1 h.1
end
theorem toDL_map : ∀ l : List W, toDL l = l.map toD
  | [] => rfl
  | x :: l => by simp [toDL, toDL_map l]
theorem datL_mem {n : Nat} : ∀ {l : List W} {x : W}, datL n l = true → x ∈ l → dat n x = true
  | [], _, _, h => nomatch h
  | y :: l, x, hd, h => by
    simp only [datL, Bool.and_eq_true] at hd
    rcases List.mem_cons.mp h with e | h
    · rw [e]; exact hd.1
    · exact datL_mem hd.2 h
structure Srt (l : List W) : Prop where
  d : datL 60 l = true
  al : ∀ x ∈ l, ∀ y ∈ l, alikeW x y = true
  k : (∀ x ∈ l, tup1 x = true) ∨ ∀ x ∈ l, tup0 x = true
theorem srt_of {l : List W} (h : sortable l = true) : Srt l := by
  simp only [sortable, Bool.and_eq_true, Bool.or_eq_true, List.all_eq_true] at h
  exact ⟨h.1.1, h.1.2, h.2⟩
theorem Srt.alike {l : List W} (h : Srt l) : PySem.W.AllAlike (toDL l) := by
  intro d hd d' hd'
  rw [toDL_map] at hd hd'
  obtain ⟨x, hx, rfl⟩ := List.mem_map.mp hd
  obtain ⟨y, hy, rfl⟩ := List.mem_map.mp hd'
  rw [alike_toD 60 x y (datL_mem h.d hx) (datL_mem h.d hy)]
  exact h.al x hx y hy
theorem Srt.kind {l : List W} (h : Srt l) : PySem.W.Sortable (toDL l) := by
  rcases h.k with k | k
  · refine .inl fun d hd => ?_
    rw [toDL_map] at hd
    obtain ⟨x, hx, rfl⟩ := List.mem_map.mp hd
    have q := k x hx
    unfold tup1 at q
    split at q
    · rename_i y r
      exact ⟨toD y, toDL r, by simp [toD, toDL]⟩
    · cases q
  · refine .inr fun d hd => ?_
    rw [toDL_map] at hd
    obtain ⟨x, hx, rfl⟩ := List.mem_map.mp hd
    have q := k x hx
    have dx := datL_mem h.d hx
    cases x <;> first | (simp [tup0] at q; done) | (simp [dat] at dx; done) | (simp [toD]; done)
theorem Srt.depth {l : List W} (h : Srt l) : ∀ d ∈ toDL l, d.depth ≤ 60 := by
  intro d hd
  rw [toDL_map] at hd
  obtain ⟨x, hx, rfl⟩ := List.mem_map.mp hd
  exact (dat_lay 60 x (datL_mem h.d hx)).2
/-! pairs, sorted by their keys -/
theorem zip_range {α β : Type} (da : α) (db : β) : ∀ (ks : List α) (ws : List β), ks.length = ws.length → ks.zip ws = (List.range ks.length).map fun i => (ks.getD i da, ws.getD i db)
  | [], [], _ => rfl
  | [], _ :: _, h => by simp at h
  | _ :: _, [], h => by simp at h
  | k :: ks, w :: ws, h => by
    rw [List.length_cons, List.range_succ_eq_map, List.map_cons, List.map_map, List.zip_cons_cons, zip_range da db ks ws (by simpa using h)]
    rfl
theorem sortW_ix (ks ws : List W) (h : ks.length = ws.length) : sortW ks ws = ((List.range ks.length).mergeSort fun i j => !wLt (ks.getD j .non) (ks.getD i .non)).map fun i => ws.getD i .non := by
  unfold sortW
  rw [zip_range W.non W.non ks ws h, ← List.map_mergeSort (r := fun i j => !wLt (ks.getD j .non) (ks.getD i .non)) (fun a _ b _ => rfl), List.map_map]
  rfl
theorem sortVals_ix {κ : PyProof.Rows.KeyKind} {us : List Value} {ks : List Value} (h : ks.length = us.length) (lt : Nat → Nat → Bool) (hl : ∀ i < ks.length, ∀ j < ks.length, κ.blt (PySem.W.keyD κ (ks.getD j .none)) (PySem.W.keyD κ (ks.getD i .none)) = lt j i) :
    sortVals κ false ks us = ((List.range ks.length).mergeSort fun i j => !lt j i).map fun i => us.getD i .none := by
  unfold sortVals
  rw [zip_range Value.none Value.none ks us h, ← List.map_mergeSort (r := fun i j => !lt j i) (fun a ha b hb => ?_), List.map_map]
  · rfl
  · rw [← hl a (by simpa using ha) b (by simpa using hb)]
    rfl
theorem VRs.pick {K : PySem.W.Frag} {T : Tab} {Φ : Hp} {ρ : List Addr} {vs : List V} {ws : List W} (h : VRs K T Φ ρ vs ws) : ∀ {L : List Nat}, (∀ i ∈ L, i < ws.length) → VRs K T Φ ρ (L.map fun i => vs.getD i .non) (L.map fun i => ws.getD i .non)
  | [], _ => .nil
  | i :: L, hL => by
    have hi := hL i (List.mem_cons_self ..)
    obtain ⟨v, hv, r⟩ := h.get (List.getElem?_eq_getElem hi)
    refine .cons ?_ (h.pick fun j hj => hL j (List.mem_cons_of_mem _ hj))
    simp only [List.getD_eq_getElem?_getD, hv, List.getElem?_eq_getElem hi, Option.getD_some]
    exact r
theorem vals_pick {vs : List V} {us : List Value} (h : Vals vs us) : ∀ {L : List Nat}, (∀ i ∈ L, i < vs.length) → Vals (L.map fun i => vs.getD i .non) (L.map fun i => us.getD i .none)
  | [], _ => .nil
  | i :: L, hL => by
    have hi := hL i (List.mem_cons_self ..)
    obtain ⟨u, hu, r⟩ := h.get (List.getElem?_eq_getElem hi)
    refine .cons ?_ (vals_pick h fun j hj => hL j (List.mem_cons_of_mem _ hj))
    simp only [List.getD_eq_getElem?_getD, hu, List.getElem?_eq_getElem hi, Option.getD_some]
    exact r
theorem each_of {h : Heap} : ∀ {us : List Value} {ds : List PyData} {as : List Addr}, ReadsAll h us ds as → EachIs (fun v d => ∃ as, Reads h v d as) us ds
  | _, _, _, .nil => .nil
  | _, _, _, .cons r rs => .cons ⟨_, r⟩ (each_of rs)
section
variable {X : Cx} {T : Tab} {pins : List (Addr × Obj)} {σ : L2.St} {H : Hp} {s : Shared} {Φ : Hp} {ρ : List Addr} {S : Sto}
/-- what sorts: keys that are alike data -/
theorem sorts_at {A : Around} (hA : A.units + 62 < cLine) (I : Inv X pins σ H s) (r : Rel X.K T Φ ρ H S) {ks : List V} {kw : List W} {ku : List Value} (hs : Srt kw) (vr : VRs X.K T Φ ρ ks kw) (ru : Vals ks ku) :
    SortsAt X.prog X.w A s (dataKind s.heap (toDL kw)) ku ∧ ∀ (us : List Value) (vs : List V) (ws : List W), Vals vs us → VRs X.K T Φ ρ vs ws → ws.length = kw.length → ∃ out, Vals out (sortVals (dataKind s.heap (toDL kw)) false ku us) ∧ VRs X.K T Φ ρ out (sortW kw ws) := by
  obtain ⟨as, ra⟩ := Dp.readsAll I (toDL kw) ks ku (dp_ofL r 60 kw ks hs.d vr) ru
  refine ⟨SortsAt.data (each_of ra) hs.alike hs.kind fun d hd => by have := hs.depth d hd; omega, fun us vs ws rv vw hl => ?_⟩
  have l1 := vr.length
  have l2 := ru.length
  have l3 := vw.length
  have l4 := rv.length
  have key : ∀ i < ku.length, PySem.W.keyD (dataKind s.heap (toDL kw)) (ku.getD i .none) = keyToks (toD (kw.getD i .non)) := by
    intro i hi
    have hiw : i < kw.length := by omega
    have he := each_of ra
    have : ∀ {us : List Value} {ds : List PyData} (i : Nat), EachIs (fun v d => ∃ as, Reads s.heap v d as) us ds → ∀ (hd : i < ds.length), ∃ as, Reads s.heap (us.getD i .none) ds[i] as := by
      intro us ds i e
      induction e generalizing i with
      | nil => intro hd; exact absurd hd (by simp)
      | cons h t ih =>
        intro hd
        cases i with
        | zero => exact h
        | succ i => exact ih i (by simpa using hd)
    have hd : i < (toDL kw).length := by rw [toDL_map]; simpa using hiw
    obtain ⟨bs, rb⟩ := this i he hd
    have e1 : (toDL kw)[i] = toD (kw.getD i .non) := by
      simp only [toDL_map, List.getElem_map, List.getD_eq_getElem?_getD, List.getElem?_eq_getElem hiw, Option.getD_some]
    rw [PySem.W.keyD_some (PySem.W.dataKind_some hs.alike (List.getElem_mem hd) rb), e1]
  have lens : ku.length = us.length := by omega
  rw [sortVals_ix lens (fun j i => wLt (kw.getD j .non) (kw.getD i .non)) (fun i hi j hj => by
    rw [key i hi, key j hj]
    have hiw : i < kw.length := by omega
    have hjw : j < kw.length := by omega
    have gm : ∀ i < kw.length, kw.getD i .non ∈ kw := fun i hi => by
      simp only [List.getD_eq_getElem?_getD, List.getElem?_eq_getElem hi, Option.getD_some]
      exact List.getElem_mem hi
    exact wLt_toD 60 _ _ (datL_mem hs.d (gm j hjw)) (datL_mem hs.d (gm i hiw)) (hs.al _ (gm j hjw) _ (gm i hiw))), sortW_ix kw ws hl.symm]
  have hkk : ku.length = kw.length := by omega
  rw [hkk]
  have hL : ∀ i ∈ (List.range kw.length).mergeSort fun i j => !wLt (kw.getD j .non) (kw.getD i .non), i < kw.length := fun i hi => by
    have := (List.mergeSort_perm _ _).mem_iff.mp hi
    simpa using this
  exact ⟨_, vals_pick rv fun i hi => by have := hL i hi; omega, vw.pick fun i hi => by have := hL i hi; omega⟩
end
end KF


set_option Elab.async false
set_option linter.all false
set_option autoImplicit false
set_option maxRecDepth 100000
set_option maxHeartbeats 1000000
namespace KF
open PySem PySem.Spec PyProof.Rows L2
open PySem.W (dataKind SortsAt sortVals copyHeap sortingHeap)
section
variable {X : Cx} {T : Tab} {pins : List (Addr × Obj)} {σ : L2.St} {H : Hp} {s : Shared}
/-- a pinned record of ours has turned -/
theorem repin {rest : List (Addr × Obj)} {a : Addr} {o o' : Obj} {h' : Heap} {t' : Nat} (I : Inv X ((a, o) :: rest) σ H s) (hs : X.s_0.heap.objs.size ≤ a) (hr : ∀ p ∈ X.pn ++ rest, p.1 ≠ a) (k : ∀ b u, b ≠ a → s.heap.get? b = some u → h'.get? b = some u)
    (new : h'.get? a = some o') (nd : ∀ v, o'.data ≠ .cell v) : Inv X ((a, o') :: rest) σ H { s with heap := h', toks := t' } := by
  have p0 := I.pin (a, o) (List.mem_append_right _ (List.mem_cons_self ..))
  have I1 : Inv X rest σ H s := I.pins_of fun p hp => I.pin p (List.mem_append_right _ (List.mem_cons_of_mem _ hp))
  have hc : ∀ x c, X.env.cells.lookup x = some c → c ≠ a := fun x c e z => by
    obtain ⟨v, oc, ho, hd⟩ := I.cell x c e
    rw [z, p0.1] at ho
    cases ho
    exact p0.2.2.2.2 v hd
  have I2 : Inv X rest σ H { s with heap := h', toks := t' } := I1.turned k p0.2.1 p0.2.2.1 (.inr hs) hc hr
  refine I2.pins_of fun p hp => ?_
  rcases List.mem_cons.mp hp with rfl | hp
  · exact ⟨new, p0.2.1, p0.2.2.1, p0.2.2.2.1, nd⟩
  · exact I2.pin p (List.mem_append_right _ hp)
/-- a pinned list of ours gets its items and is told of -/
theorem adoptL {rest : List (Addr × Obj)} {a : Addr} {o : Obj} {h' : Heap} {t' n : Nat} {vs : List V} {its : List Value} (I : Inv X ((a, o) :: rest) σ H s) (hs : X.s_0.heap.objs.size ≤ a) (hr : ∀ p ∈ X.pn ++ rest, p.1 ≠ a) (k : ∀ b u, b ≠ a → s.heap.get? b = some u → h'.get? b = some u)
    (new : h'.get? a = some { cls := .type "list", data := .seq its.toArray n }) (rv : Vals vs its) (hz : vs.length ≤ sizeLine) : Inv X rest σ (upd H a (.lst vs)) { s with heap := h', toks := t' } := by
  have p0 := I.pin (a, o) (List.mem_append_right _ (List.mem_cons_self ..))
  have I1 : Inv X rest σ H s := I.pins_of fun p hp => I.pin p (List.mem_append_right _ (List.mem_cons_of_mem _ hp))
  have hc : ∀ x c, X.env.cells.lookup x = some c → c ≠ a := fun x c e z => by
    obtain ⟨v, oc, ho, hd⟩ := I.cell x c e
    rw [z, p0.1] at ho
    cases ho
    exact p0.2.2.2.2 v hd
  have nit : ∀ b u, H b = some u → b ≠ a := fun b u e z => by rw [z, p0.2.1] at e; cases e
  refine I1.step (g' := s.gens) (d' := s.drawn) (ch := [a]) (fun b hb => ?_) (fun b o _ _ hc e _ => k b o (fun z => hc (by simp [z])) e) (fun b o _ _ hc e _ => ⟨o.slots, k b o (fun z => hc (by simp [z])) e⟩)
    (fun b _ hb _ n => by rw [upd_ne (fun z => hb (by simp [z]))]; exact n)
    (fun b o hc e => ⟨o, k b o (fun z => hc (by simp [z])) e⟩) (fun b _ e => by rw [upd_ne (nit b _ e)]; exact e) (fun b _ _ e => by rw [upd_ne (nit b _ e)]; exact e) (fun b ps e => ⟨#[], by rw [upd_ne (nit b _ e), e]; simp⟩) (fun m hm => ?_) (fun b u e => ?_) I1.bare
  · have e : b = a := by simpa using hb
    subst e
    exact ⟨.inr hs, p0.2.2.1, hc, hr⟩
  · obtain ⟨o, es, ep, ho, r⟩ := hm
    exact ⟨o, es, ep, k _ o (Ne.symm p0.2.2.1) ho, r⟩
  · by_cases hb : b = a
    · subst hb
      rw [upd_same] at e
      cases e
      exact ⟨hz, its, n, rv, new⟩
    · rw [upd_ne hb] at e
      refine (I1.hok b u e).stay (fun c v hc q => k c v ?_ q) (fun d q => by rw [upd_ne (nit d _ q)]; exact q) fun d _ q => by rw [upd_ne (nit d _ q)]; exact q
      rcases hc with z | z
      · rw [z]; exact nit b u e
      · exact nit c _ z
/-- what a call of the key gives -/
def KTurn (X : Cx) (T : Tab) (σ : L2.St) (f : Addr) (fo : Obj) (g : W → Sto → Res W) (Φ0 : Hp) (ρ0 : List Addr) (H0 : Hp) : Prop :=
  ∀ (pins : List (Addr × Obj)) (s : Shared) (H : Hp) (Φ : Hp) (ρ : List Addr) (S : Sto) (v : V) (w : W) (u : Value) (Q : VK), Inv X pins σ H s → s.heap.get? f = some fo → Le Φ0 ρ0 H0 Φ ρ H → Rel X.K T Φ ρ H S → VR X.K T Φ ρ v w → RelV v u →
    Pst (g w S) (EndE X.K T Φ ρ H Q) → wpAny (model X.prog X.w) X.A.in1.in1 (call (.ref f) [u]) (EP X pins σ Q) (fun _ _ => False) s
theorem keyLoop_len {g : W → Sto → Res W} : ∀ (l : List W) (S : Sto) (R : List W → Sto → Prop), Pst (keyLoop g l S) R → Pst (keyLoop g l S) fun ks S => ks.length = l.length ∧ R ks S
  | [], S, R, h => ⟨rfl, h⟩
  | x :: r, S, R, h => by
    unfold keyLoop at h ⊢
    cases e : g x S with
    | ok k S1 =>
      rw [e] at h
      have h1 : Pst ((keyLoop g r S1).bind fun ks S => .ok (k :: ks) S) R := h
      have h2 := keyLoop_len r S1 _ (Pst.bind h1)
      show Pst ((keyLoop g r S1).bind fun ks S => .ok (k :: ks) S) _
      cases e2 : keyLoop g r S1 with
      | ok ks S2 =>
        rw [e2] at h2
        exact ⟨by simp [h2.1], h2.2⟩
      | ex _ _ _ => rw [e2] at h2; exact h2.elim
      | stuck => rw [e2] at h2; exact h2.elim
    | ex _ _ _ => rw [e] at h; exact h.elim
    | stuck => rw [e] at h; exact h.elim
/-- the end of the keyed sort -/
theorem ks_end {A : Around} {E : Value → Shared → Prop} {P : PySem.Fin → Shared → Prop} {a kS : Addr} {e e1 : Nat} {ku us : List Value} {kv vs : List V} {kw ws : List W} {Φ : Hp} {ρ : List Addr} {S : Sto} {rest : List (Addr × Obj)} (hA : A.units + 62 < cLine)
    (I : Inv X ((kS, seqObj "list" ku.toArray e) :: (a, seqObj "list" #[] e1) :: rest) σ H s) (hks : X.s_0.heap.objs.size ≤ kS) (has : X.s_0.heap.objs.size ≤ a) (hka : a ≠ kS) (hkr : ∀ p ∈ X.pn ++ rest, p.1 ≠ kS) (har : ∀ p ∈ X.pn ++ rest, p.1 ≠ a)
    (r : Rel X.K T Φ ρ H S) (hs : Srt kw) (vk : VRs X.K T Φ ρ kv kw) (rk : Vals kv ku) (vw : VRs X.K T Φ ρ vs ws) (rv : Vals vs us) (hl : ws.length = kw.length) (hz : vs.length ≤ sizeLine)
    (h : ∀ out h' tk, Inv X rest σ (upd H a (.lst out)) { s with heap := h', toks := tk } → VRs X.K T Φ ρ out (sortW kw ws) → out.length ≤ sizeLine → P (.done (.ret .none)) { s with heap := h', toks := tk }) :
    wpAny (model X.prog X.w) A (ksk_end a false us.toArray e1 (.ref kS) ku.toArray) P E s := by
  obtain ⟨SA, so⟩ := sorts_at (T := T) (A := A) hA I r hs vk rk
  obtain ⟨out, ro, vo⟩ := so us vs ws rv vw hl
  obtain ⟨kd, h1, h2⟩ := SA.kind
  have l1 := vk.length
  have l2 := rk.length
  have l3 := vw.length
  have l4 := rv.length
  have h0 : PyProof.Rows.KeysOf (dataKind s.heap (toDL kw)) (ku.toArray.zip us.toArray) := PySem.W.keysOf_zip SA.keys
  have lo : out.length = us.length := by rw [ro.length, PySem.W.sortVals_length false (by omega)]
  have nk := I.pin (kS, seqObj "list" ku.toArray e) (List.mem_append_right _ (List.mem_cons_self ..))
  have na := I.pin (a, seqObj "list" #[] e1) (List.mem_append_right _ (List.mem_cons_of_mem _ (List.mem_cons_self ..)))
  have zz : (ku.toArray.zip us.toArray).size = us.length := by rw [Array.size_zip]; simp; omega
  have tail : ∀ st' : SortSt, failedOf st' = none → ((arrOf st').map (·.2)) = (sortVals (dataKind s.heap (toDL kw)) false ku us).toArray → wpAny (model X.prog X.w) A (ksk_tail a false e1 (.ref kS) st') P E s := by
    intro st' hf ho
    have s1 := Heap.SameBut.update s.heap kS (Obj.mapSeq fun _ => (#[] : Array Value))
    obtain ⟨c1, hc1⟩ : ∃ c1, (s.heap.update kS (Obj.mapSeq fun _ => (#[] : Array Value))).get? kS = some (seqObj "list" #[] c1) := ⟨_, get?_update_seq nk.1 fun _ => #[]⟩
    have na1 : (s.heap.update kS (Obj.mapSeq fun _ => (#[] : Array Value))).get? a = some (seqObj "list" #[] e1) := (s1.2 a hka).trans na.1
    have s2 := Heap.SameBut.update (s.heap.update kS (Obj.mapSeq fun _ => (#[] : Array Value))) a (Obj.mapSeq fun _ => (arrOf st').map (·.2))
    obtain ⟨c2, hc2⟩ : ∃ c2, ((s.heap.update kS (Obj.mapSeq fun _ => (#[] : Array Value))).update a (Obj.mapSeq fun _ => (arrOf st').map (·.2))).get? a = some (seqObj "list" ((arrOf st').map (·.2)) c2) := ⟨_, get?_update_seq na1 fun _ => (arrOf st').map (·.2)⟩
    have I1 : Inv X ((kS, seqObj "list" #[] c1) :: (a, seqObj "list" #[] e1) :: rest) σ H { s with heap := s.heap.update kS (Obj.mapSeq fun _ => (#[] : Array Value)), toks := s.toks } :=
      repin I hks (fun p hp => by
        rcases List.mem_append.mp hp with hp | hp
        · exact hkr p (List.mem_append_left _ hp)
        · rcases List.mem_cons.mp hp with rfl | hp
          · exact hka
          · exact hkr p (List.mem_append_right _ hp)) (fun b u hb q => (s1.2 b hb).trans q) hc1 (fun v z => nomatch z)
    have I2 : Inv X ((a, seqObj "list" #[] e1) :: rest) σ H { s with heap := s.heap.update kS (Obj.mapSeq fun _ => (#[] : Array Value)), toks := s.toks } := I1.pins_of fun p hp => I1.pin p (List.mem_append_right _ (List.mem_cons_of_mem _ hp))
    rw [ho] at hc2 s2
    have I3 := adoptL (t' := s.toks) I2 has har (fun b u hb q => (s2.2 b hb).trans q) hc2 ro (by omega)
    unfold ksk_tail
    try dsimp only
    refine wpAny_bind (listUpdate_at nk.1 rfl ?_ (by rw [List.size_toArray]; omega) (Nat.zero_le _))
    refine wpAny_bind (wpAny_letGo ?_)
    refine wpAny_bind (seqEpoch_at na1 rfl ?_)
    simp only [Bool.false_eq_true, if_false]
    rw [ho]
    refine wpAny_bind (listUpdate_at na1 rfl ?_ (Nat.zero_le _) (by rw [List.size_toArray, ← ro.length]; omega))
    rw [hf]
    simp only [bne_self_eq_false, Bool.false_eq_true, if_false]
    exact wpAny_pure (h out _ _ I3 vo (by omega))
  unfold ksk_end
  try dsimp only
  simp only [Bool.false_eq_true, if_false]
  by_cases hl2 : us.toArray.size < 2
  · rw [if_pos hl2, if_pos hl2]
    refine wpAny_bind (wpAny_pure ?_)
    rw [StateT.run_pure]
    refine wpAny_bind (wpAny_pure ?_)
    try dsimp only
    refine tail _ rfl ?_
    have e := PySem.W.sort_out (rev := false) (keys := ku.toArray) (items := us.toArray) (xs := ku.toArray.zip us.toArray) (κ := dataKind s.heap (toDL kw)) h0 (Array.Perm.refl _) (by
      intro i j hij hj
      have hj' : j < (ku.toArray.zip us.toArray).size := by simpa using hj
      rw [zz] at hj'
      rw [List.size_toArray] at hl2
      have : i = j := by omega
      subst this
      exact KeyOrd.kle_refl _) (Stable.refl _)
    have e' := congrArg List.toArray e
    rw [Array.toArray_toList] at e'
    exact e'
  · rw [if_neg hl2, if_neg hl2]
    rw [List.size_toArray] at hl2
    refine wpAny_bind (h2 (by omega) _ ?_)
    refine wpAny_bind (wpAny_mono (PyProof.Rows.H.wpS_sortRunsSt (κ := dataKind s.heap (toDL kw)) (kd := kd) (a₀ := ku.toArray.zip us.toArray)
      (st := SortSt.mk' kd (ku.toArray.zip us.toArray) #[] 7 none)
      (Q := fun _ st' => failedOf st' = none ∧ ((arrOf st').map (·.2)) = (sortVals (dataKind s.heap (toDL kw)) false ku us).toArray)
      h1 h0 ⟨Array.Perm.refl _, rfl, rfl⟩ rfl (Stable.refl _) (by rw [zz]; omega) fun st' a1 a2 a3 a4 => ⟨a2, ?_⟩) ?_ fun _ _ e => e)
    · have e := PySem.W.sort_out (rev := false) (keys := ku.toArray) (items := us.toArray) (xs := arrOf st') (κ := dataKind s.heap (toDL kw)) h0 a1 a3 a4
      have e' := congrArg List.toArray e
      rw [Array.toArray_toList] at e'
      exact e'
    · rintro ⟨⟨⟩, st'⟩ s' ⟨rfl, hf, e⟩
      try dsimp only at e ⊢
      exact tail st' hf e
end
end KF


set_option Elab.async false
set_option linter.all false
set_option autoImplicit false
set_option maxRecDepth 100000
set_option maxHeartbeats 1000000
namespace KF
open PySem PySem.Spec PyProof.Rows L2
open PySem.W (dataKind SortsAt sortVals copyHeap sortingHeap)
section
variable {X : Cx} {T : Tab} {pins : List (Addr × Obj)} {σ : L2.St} {H : Hp} {s : Shared}
/-- what holds while the keys are made -/
def KInv (X : Cx) (T : Tab) (pins : List (Addr × Obj)) (σ : L2.St) (Φ : Hp) (ρ : List Addr) (H : Hp) (a kS f : Addr) (fo : Obj) (e1 : Nat) (ws : List W) (g : W → Sto → Res W) (Z : List W → Sto → Prop) (i : Nat) (s' : Shared) : Prop :=
  ∃ (H' Φ' : Hp) (ρ' : List Addr) (S' : Sto) (kw : List W) (kv : List V) (ku : List Value) (e : Nat), Inv X ((kS, seqObj "list" ku.toArray e) :: (a, seqObj "list" #[] e1) :: (f, fo) :: pins) σ H' s' ∧ Le Φ ρ H Φ' ρ' H' ∧ Rel X.K T Φ' ρ' H' S' ∧ VRs X.K T Φ' ρ' kv kw ∧ Vals kv ku ∧
    kw.length = i ∧ Pst (keyLoop g (ws.drop i) S') fun ks S => Z (kw ++ ks) S
theorem ks_rest {A : Around} {P : PySem.Fin → Shared → Prop} {a kS f : Addr} {fo : Obj} {e1 : Nat} {us : List Value} {vs : List V} {ws : List W} {Φ : Hp} {ρ : List Addr} {S : Sto} {g : W → Sto → Res W} {m : Bool} {Q : VK} (eA : A = X.A.in1.in1) (hA : A.units + 62 < cLine) (turn : KTurn X T σ f fo g Φ ρ H)
    (I : Inv X ((kS, seqObj "list" #[] 0) :: (a, seqObj "list" #[] e1) :: (f, fo) :: pins) σ H s) (hks : X.s_0.heap.objs.size ≤ kS) (has : X.s_0.heap.objs.size ≤ a) (hka : a ≠ kS) (hfk : f ≠ kS) (hfa : f ≠ a) (hkr : ∀ p ∈ X.pn ++ pins, p.1 ≠ kS) (har : ∀ p ∈ X.pn ++ pins, p.1 ≠ a)
    (haH : H a = none)
    (r : Rel X.K T Φ ρ H S) (vw : VRs X.K T Φ ρ vs ws) (rv : Vals vs us) (hz : vs.length ≤ sizeLine)
    (p : Pst (keyLoop g ws S) fun ks S => Pst (if sortable ks = true then mkL m (sortW ks ws) S else .stuck) (EndE X.K T Φ ρ H Q))
    (h : ∀ s' H', Inv X pins σ H' s' → Q (.ref a) H' → P (.done (.ret .none)) s') :
    wpAny (model X.prog X.w) A (ksk_rest a (.ref f) false us.toArray e1 (.ref kS)) P (fun _ _ => False) s := by
  have l3 := vw.length
  have l4 := rv.length
  have hkr' : ∀ p ∈ X.pn ++ (a, seqObj "list" #[] e1) :: (f, fo) :: pins, p.1 ≠ kS := fun p hp => by
    rcases List.mem_append.mp hp with hp | hp
    · exact hkr p (List.mem_append_left _ hp)
    · rcases List.mem_cons.mp hp with rfl | hp
      · exact hka
      · rcases List.mem_cons.mp hp with rfl | hp
        · exact hfk
        · exact hkr p (List.mem_append_right _ hp)
  unfold ksk_rest
  refine wpAny_bind (wpAny_rule ?_)
  first
    | rw [List.forIn_toArray]
    | (rw [← Array.forIn_toList]; simp only [List.toList_toArray])
    | rw [← Array.forIn_toList]
  refine wpAny_bind (ksk_fold (fun i s' => s'.os = s.os ∧ KInv X T pins σ Φ ρ H a kS f fo e1 ws g (fun ks S => Pst (if sortable ks = true then mkL m (sortW ks ws) S else .stuck) (EndE X.K T Φ ρ H Q)) i s') us 0 s
    ⟨rfl, H, Φ, ρ, S, [], [], [], 0, I, .refl, r, .nil, .nil, rfl, by simpa using p⟩ ?step ?done)
  case step =>
    rintro j x s' hx ⟨hos, H', Φ', ρ', S', kw, kv, ku, e, I', le, r', vk, rk, hlen, q⟩
    simp only [Nat.zero_add] at hlen q ⊢
    have hj : j < us.length := (List.getElem?_eq_some_iff.mp hx).1
    have hjw : j < ws.length := by omega
    obtain ⟨v, hv, rx⟩ := (vw.le le).get (List.getElem?_eq_getElem hjw)
    obtain ⟨u, hu, ru⟩ := rv.get hv
    rw [hx] at hu
    cases hu
    rw [List.drop_eq_getElem_cons hjw] at q
    have q1 : Pst (g ws[j] S') fun k S => Pst ((keyLoop g (ws.drop (j + 1)) S).bind fun ks S => .ok (k :: ks) S) fun ks S => Pst (if sortable (kw ++ ks) = true then mkL m (sortW (kw ++ ks) ws) S else .stuck) (EndE X.K T Φ ρ H Q) := Pst.bind q
    have nf := I'.pin (f, fo) (by simp)
    have lk := vk.length
    have lk2 := rk.length
    rw [eA]
    refine wpAny_bind (wpAny_attempt (wpAny_mono (turn _ s' H' Φ' ρ' S' v ws[j] x (fun v2 H2 => ∃ Φ2 ρ2 S2 w2, Le Φ' ρ' H' Φ2 ρ2 H2 ∧ Rel X.K T Φ2 ρ2 H2 S2 ∧ VR X.K T Φ2 ρ2 v2 w2 ∧ Pst ((keyLoop g (ws.drop (j + 1)) S2).bind fun ks S => .ok (w2 :: ks) S) fun ks S => Pst (if sortable (kw ++ ks) = true then mkL m (sortW (kw ++ ks) ws) S else .stuck) (EndE X.K T Φ ρ H Q)) I' nf.1 le r' rx ru
      (q1.mono fun w2 S2 q2 Φ2 ρ2 v2 H2 l2 r2 x2 => ⟨Φ2, ρ2, S2, w2, l2, r2, x2, q2⟩)) (fun uk s'' he => ?_) fun _ _ hF => hF.elim))
    obtain ⟨v2, H2, I2, ru2, Φ2, ρ2, S2, w2, l2, r2, x2, q2⟩ := he
    try dsimp only
    have nk := I2.pin (kS, seqObj "list" ku.toArray e) (by simp)
    have s1 := Heap.SameBut.update s''.heap kS (Obj.mapSeq (·.push uk))
    obtain ⟨c2, hc2⟩ : ∃ c2, (s''.heap.update kS (Obj.mapSeq (·.push uk))).get? kS = some (seqObj "list" (ku.toArray.push uk) c2) := ⟨_, get?_update_seq nk.1 (·.push uk)⟩
    have ea : ku.toArray.push uk = (ku ++ [uk]).toArray := by simp
    rw [ea] at hc2
    refine wpAny_bind (listUpdate_at nk.1 rfl ?_ (by rw [List.size_toArray]; omega) (by rw [Array.size_push, List.size_toArray]; omega))
    have I3 : Inv X ((kS, seqObj "list" (ku ++ [uk]).toArray c2) :: (a, seqObj "list" #[] e1) :: (f, fo) :: pins) σ H2 { s'' with heap := s''.heap.update kS (Obj.mapSeq (·.push uk)), toks := s''.toks } :=
      repin I2 hks hkr' (fun b u hb q => (s1.2 b hb).trans q) hc2 (fun v z => nomatch z)
    refine wpAny_pure ⟨rfl, ?_, H2, Φ2, ρ2, S2, kw ++ [w2], kv ++ [v2], ku ++ [uk], c2, I3, le.trans l2, r2, (vk.le l2).append (.cons x2 .nil), rk.append (.cons ru2 .nil), by rw [List.length_append, hlen]; rfl, ?_⟩
    · exact I2.os.trans I.os.symm
    · refine (Pst.bind q2).mono fun ks S3 q3 => ?_
      have e3 : kw ++ [w2] ++ ks = kw ++ (w2 :: ks) := by simp
      rw [e3]
      exact q3
  case done =>
    rintro s' ⟨hos, H', Φ', ρ', S', kw, kv, ku, e, I', le, r', vk, rk, hlen, q⟩
    have hd : ws.drop (0 + us.length) = [] := List.drop_eq_nil_of_le (by omega)
    rw [hd] at q
    have q : Pst (if sortable (kw ++ []) = true then mkL m (sortW (kw ++ []) ws) S' else .stuck) (EndE X.K T Φ ρ H Q) := q
    rw [List.append_nil] at q
    split at q
    · rename_i hsr
      have nk := I'.pin (kS, seqObj "list" ku.toArray e) (by simp)
      have na := I'.pin (a, seqObj "list" #[] e1) (by simp)
      try dsimp only
      refine wpAny_bind (listItems_at nk.1 rfl ?_)
      have I4 : Inv X ((kS, seqObj "list" ku.toArray e) :: (a, seqObj "list" #[] e1) :: pins) σ H' s' := I'.pins_of fun p hp => by
        rcases List.mem_cons.mp hp with rfl | hp
        · exact nk
        · rcases List.mem_cons.mp hp with rfl | hp
          · exact na
          · exact I'.pin p (by simp; exact .inr (.inr (.inr (.inr hp))))
      refine ks_end (T := T) hA I4 hks has hka hkr har r' (srt_of hsr) vk rk (vw.le le) rv (by simp at hlen; omega) hz fun out h' tk I5 vo lo => ?_
      have na' : H' a = none := na.2.1
      have n1 : a ∉ ρ' := r'.notin na'
      have n2 : Φ' a = none := same_fresh r'.sub na'
      exact h _ _ I5 (mkL_done (r'.off n1 n2 (.none na')) vo (le.off (.inl haH)) (.inl haH) n1 n2 upd_same q)
    · exact q.elim
/-- sorted(l, key=f) -/
theorem ks_sorted {l f : Addr} {fo : Obj} {vs : List V} {ws : List W} {Φ : Hp} {ρ : List Addr} {S : Sto} {g : W → Sto → Res W} {m : Bool} {Q : VK} {E : Value → Shared → Prop} (hA : X.A.units + 70 < cLine) (turn : KTurn X T σ f fo g Φ ρ H)
    (I : Inv X pins σ H s) (hf : s.heap.get? f = some fo) (hfH : H f = none) (hfL : f ≠ X.env.locals) (hfs : f ∉ X.fs) (hfd : ∀ v, fo.data ≠ .cell v)
    (r : Rel X.K T Φ ρ H S) (hs : SqL X.K H l vs) (vw : VRs X.K T Φ ρ vs ws)
    (p : Pst (keyLoop g ws S) fun ks S => Pst (if sortable ks = true then mkL m (sortW ks ws) S else .stuck) (EndE X.K T Φ ρ H Q)) :
    wpAny (model X.prog X.w) X.A (call (.builtin "sorted") [.ref l] [(Str.ofString "key", .ref f)]) (EP X pins σ Q) E s := by
  obtain ⟨us, rv, hl, hz⟩ := I.list hs
  have hz' : us.length ≤ sizeLine := by rw [← rv.length]; exact hz
  have c1 : (copyHeap s.heap us).get? (s.heap.objs.size + 1) = some (seqObj "list" us.toArray 0) := PySem.W.copyHeap_at s.heap us
  have cs : (copyHeap s.heap us).objs.size = s.heap.objs.size + 2 := by
    unfold copyHeap
    rw [size_push', Heap.size_update, size_push']
  refine PySem.W.sorted_of_sort hl.isList hz' (ksk_s1 _ _) (fun _ => ksk_l1 _ _) fun E' => ?_
  rw [ksk_t1]
  unfold ksk_tree
  refine wpAny_bind (listItems_at c1 rfl ?_)
  refine wpAny_bind (listUpdate_at c1 rfl ?_ (by rw [List.size_toArray]; exact hz') (Nat.zero_le _))
  obtain ⟨e1, ho1⟩ : ∃ e1, ((copyHeap s.heap us).update (s.heap.objs.size + 1) (Obj.mapSeq fun _ => (#[] : Array Value))).get? (s.heap.objs.size + 1) = some (seqObj "list" #[] e1) := ⟨_, get?_update_seq c1 fun _ => #[]⟩
  refine wpAny_bind (seqEpoch_at ho1 rfl ?_)
  refine wpAny_bind (wpAny_newTuple ?_ (by show us.length ≤ _; exact hz'))
  refine wpAny_bind (wpAny_newList ?_ (Nat.zero_le _))
  refine wpAny_holding ?_
  have sz2 : (((copyHeap s.heap us).update (s.heap.objs.size + 1) (Obj.mapSeq fun _ => (#[] : Array Value))).push (seqObj "tuple" us.toArray 0)).objs.size = s.heap.objs.size + 3 := by
    rw [size_push', Heap.size_update, cs]
  have eh : (((copyHeap s.heap us).update (s.heap.objs.size + 1) (Obj.mapSeq fun _ => (#[] : Array Value))).push (seqObj "tuple" us.toArray 0)).push (seqObj "list" #[] 0) = sortingHeap (copyHeap s.heap us) (s.heap.objs.size + 1) us := rfl
  have old : ∀ b o, s.heap.get? b = some o → (sortingHeap (copyHeap s.heap us) (s.heap.objs.size + 1) us).get? b = some o := fun b o e => PySem.W.sorting_copy_old e
  have atk : (sortingHeap (copyHeap s.heap us) (s.heap.objs.size + 1) us).get? (s.heap.objs.size + 3) = some (seqObj "list" #[] 0) := by
    rw [← eh, ← sz2]
    exact Heap.get?_push_size _ rfl
  have ata : (sortingHeap (copyHeap s.heap us) (s.heap.objs.size + 1) us).get? (s.heap.objs.size + 1) = some (seqObj "list" #[] e1) := by
    rw [← eh]
    exact Heap.get?_push_of_some _ (Heap.get?_push_of_some _ ho1)
  have I0 : Inv X pins σ H { s with heap := sortingHeap (copyHeap s.heap us) (s.heap.objs.size + 1) us, toks := s.toks } := I.kept old
  have lt' : ∀ (b : Addr) (o : Obj), s.heap.get? b = some o → b ≠ s.heap.objs.size + 3 ∧ b ≠ s.heap.objs.size + 1 := fun b o e => by
    have := Heap.lt_size e
    exact ⟨Nat.ne_of_lt (Nat.lt_of_lt_of_le this (Nat.le_add_right _ 3)), Nat.ne_of_lt (Nat.lt_of_lt_of_le this (Nat.le_add_right _ 1))⟩
  have pinned : ∀ {q : Addr} {o : Obj}, s.heap.objs.size ≤ q → (sortingHeap (copyHeap s.heap us) (s.heap.objs.size + 1) us).get? q = some o → (∀ v, o.data ≠ .cell v) → (sortingHeap (copyHeap s.heap us) (s.heap.objs.size + 1) us).get? q = some o ∧ H q = none ∧ q ≠ X.env.locals ∧ q ∉ X.fs ∧ ∀ v, o.data ≠ .cell v := fun {q o} hq e d =>
    ⟨e, I.hok.fresh hq, fun z => by have := I.lt; rw [← z] at this; exact Nat.lt_irrefl _ (Nat.lt_of_lt_of_le this hq), I.nofs hq, d⟩
  have I1 : Inv X ((s.heap.objs.size + 3, seqObj "list" #[] 0) :: (s.heap.objs.size + 1, seqObj "list" #[] e1) :: (f, fo) :: pins) σ H { s with heap := sortingHeap (copyHeap s.heap us) (s.heap.objs.size + 1) us, toks := s.toks } := by
    refine I0.pins_of fun q hq => ?_
    rcases List.mem_cons.mp hq with rfl | hq
    · exact pinned (Nat.le_add_right _ 3) atk (fun v z => nomatch z)
    · rcases List.mem_cons.mp hq with rfl | hq
      · exact pinned (Nat.le_add_right _ 1) ata (fun v z => nomatch z)
      · rcases List.mem_cons.mp hq with rfl | hq
        · exact ⟨old _ _ hf, hfH, hfL, hfs, hfd⟩
        · exact I0.pin q (List.mem_append_right _ hq)
  have szb := I.sz
  have nA : H (s.heap.objs.size + 1) = none := I.hok.fresh (Nat.le_succ _)
  show wpAny (model X.prog X.w) X.A.in1.in1 (ksk_rest (s.heap.objs.size + 1) (.ref f) false us.toArray _ (.ref (((copyHeap s.heap us).update (s.heap.objs.size + 1) (Obj.mapSeq fun _ => (#[] : Array Value))).push (seqObj "tuple" us.toArray 0)).objs.size)) _ _ { s with heap := sortingHeap (copyHeap s.heap us) (s.heap.objs.size + 1) us }
  rw [sz2]
  refine wpAny_mono (ks_rest (T := T) (P := fun f' s' => f' = .done (.ret .none) ∧ EP X pins σ Q (.ref (s.heap.objs.size + 1)) s') rfl (by show X.A.units + 1 + 1 + 62 < _; omega) turn I1
    (Nat.le_trans szb (Nat.le_add_right _ 3)) (Nat.le_trans szb (Nat.le_add_right _ 1)) (by show (s.heap.objs.size + 1 : Nat) ≠ s.heap.objs.size + 3; omega) (lt' f fo hf).1 (lt' f fo hf).2
    (fun q hq => (lt' q.1 q.2 (I.pin q hq).1).1) (fun q hq => (lt' q.1 q.2 (I.pin q hq).1).2) nA r vw rv hz p fun s' H' I' hq => ⟨rfl, .ref _, H', I', rfl, hq⟩) (fun _ _ h => h) fun _ _ h => h.elim
end
end KF


set_option Elab.async false
set_option linter.all false
set_option autoImplicit false
set_option maxRecDepth 100000
set_option maxHeartbeats 4000000
namespace KF
open PySem PySem.Spec PyProof.Rows L2
/-! a set made of a list of texts, of any length below the bound -/
section
variable {Pg : Program} {wd : World} {A1 : Around} {Rs : Result → Shared → Prop} {it : Addr} {fps wrs : List Addr} {Gs : Array GenState → Array GenState → Prop} {cnt : Nat} {Pv : Nat → Value → Prop} {Stt : Nat → Shared → Prop}
/-- what stands in the set when i of xs are in -/
def Has (Pg : Program) (wd : World) (h : Heap) (z : Addr) (xs : List Str) (i : Nat) : Prop := ∃ L : List Str, L.Nodup ∧ (∀ k, k ∈ L ↔ k ∈ xs.take i) ∧ h.SetOf (PySem.strKind Pg wd) z (fun k => L.any (· == k)) L.length
theorem Has.move {h h' : Heap} {z : Addr} {xs : List Str} {i : Nat} (q : Has Pg wd h z xs i) (k : ∀ o, h.get? z = some o → h'.get? z = some o) : Has Pg wd h' z xs i := by
  obtain ⟨L, n, m, o, es, ep, t, ho, r⟩ := q
  exact ⟨L, n, m, o, es, ep, t, k o ho, r⟩
theorem nodup_len {α : Type} [BEq α] [LawfulBEq α] : ∀ {L M : List α}, L.Nodup → (∀ k, k ∈ L → k ∈ M) → L.length ≤ M.length
  | [], _, _, _ => Nat.zero_le _
  | x :: L, M, n, h => by
    have hx := h x (List.mem_cons_self ..)
    have n' := List.nodup_cons.mp n
    have e := List.length_erase_of_mem hx
    have p := List.length_pos_of_mem hx
    have q := nodup_len (M := M.erase x) n'.2 fun k hk => (List.mem_erase_of_ne (fun z => n'.1 (by rw [← z]; exact hk))).mpr (h k (List.mem_cons_of_mem _ hk))
    rw [e] at q
    rw [List.length_cons]
    omega
theorem nodup_take {xs L : List Str} (n : L.Nodup) {i : Nat} (m : ∀ k, k ∈ L ↔ k ∈ xs.take i) : L.length ≤ i :=
  Nat.le_trans (nodup_len n fun k hk => (m k).mp hk) (by rw [List.length_take]; exact Nat.min_le_left _ _)
theorem set_loop (Wk : WalksS Pg wd A1.in1 it fps wrs Gs cnt Pv Stt) (z : Addr) (hz : z ∉ fps) (xs : List Str) (hx : xs.length = cnt) (hb : cnt + 1 < scanBound) (hv : ∀ i v, Pv i v → ∃ x t, xs[i]? = some x ∧ v = .str x t) :
    ∀ (m i : Nat) (s : Shared), cnt - i = m → i ≤ cnt → Stt i s → Has Pg wd s.heap z xs i → (∀ s', Moved (z :: wrs) Gs s s' → Has Pg wd s'.heap z xs cnt → Rs (.ok (.ret .none)) s') → codeAny (model Pg wd) A1 (.builtin "set.update.loop" ⟨[.ref z, .ref it], []⟩) Rs s := by
  have hzw : z ∉ wrs := fun q => hz (Wk.sub _ q)
  have sb : ∀ b ∈ wrs, b ∈ z :: wrs := fun b q => List.mem_cons_of_mem _ q
  intro m
  induction m with
  | zero =>
    intro i s e1 e2 st q fin
    obtain rfl : i = cnt := Nat.le_antisymm e2 (by omega)
    refine codeAny_builtin PyProof.Rows.F.entry_set_update_loop ?_
    rw [Around.under_plainId PyProof.Rows.F.plain_set_update_loop _] <;>
    show wpAny _ A1.in1 (pyNext (.ref it) >>= _) _ _ s
    refine wpAny_bind (Wk.done s _ _ st fun s2 mv => ?_)
    show wpAny _ A1.in1 (ret Value.none) _ _ s2
    exact wpAny_pure (fin s2 (mv.mono sb) (q.move fun o ho => mv.heap z _ hzw ho))
  | succ m ih =>
    intro i s e1 e2 st q fin
    have lt : i < cnt := by omega
    refine codeAny_builtin PyProof.Rows.F.entry_set_update_loop ?_
    rw [Around.under_plainId PyProof.Rows.F.plain_set_update_loop _] <;>
    show wpAny _ A1.in1 (pyNext (.ref it) >>= _) _ _ s
    refine wpAny_bind (Wk.item i s _ _ lt st fun v s2 hp st2 mv => ?_)
    obtain ⟨x, t, hxi, rfl⟩ := hv i v hp
    obtain ⟨L, nd, mem, hS⟩ := q.move fun o ho => mv.heap z o hzw ho
    have ll := nodup_take nd mem
    show wpAny _ A1.in1 (holding [Value.str x t] (setAdd z (.str x t)) >>= _) _ _ s2
    refine (wpAny_bind (wpAny_holding ?_))
    unfold setAdd
    refine wpAny_holding ?_
    refine wpAny_bind ((PySem.strKind Pg wd).pyHash (k := x) (strKind_is _ _ _ _) ?_)
    refine wpAny_setAddHashed_of (knd := PySem.strKind Pg wd) (s := { s2 with toks := s2.toks + 1 }) (strKind_is _ _ _ _) rfl hS (by omega) fun h2 same hS2 => ?_
    have tk : xs.take (i + 1) = xs.take i ++ [x] := by rw [List.take_add_one, hxi]; rfl
    have q2 : Has Pg wd h2 z xs (i + 1) := by
      by_cases hm : x ∈ L
      · have ha : (L.any (· == x)) = true := List.any_eq_true.mpr ⟨x, hm, by simp⟩
        refine ⟨L, nd, fun k => ?_, SetOf_congr hS2 (fun k => ?_) (by simp [ha])⟩
        · rw [tk, List.mem_append, mem k]
          refine ⟨.inl, fun h => h.elim id fun h => ?_⟩
          have : k = x := by simpa using h
          rw [this]; exact (mem x).mp hm
        · show (L.any (· == k) || decide (k = x)) = L.any (· == k)
          by_cases e : k = x
          · rw [e, ha]; rfl
          · simp [e]
      · have ha : (L.any (· == x)) = false := by
          rw [List.any_eq_false]
          intro y hy e
          have : y = x := by simpa using e
          exact hm (this ▸ hy)
        refine ⟨L ++ [x], ?_, fun k => ?_, SetOf_congr hS2 (fun k => ?_) (by simp [ha])⟩
        · rw [List.nodup_append]
          exact ⟨nd, by simp, fun a ha b hb e => hm (by have : b = x := by simpa using hb
                                                        rw [← this, ← e]; exact ha)⟩
        · rw [tk, List.mem_append, List.mem_append, mem k]
        · show (L.any (· == k) || decide (k = x)) = (L ++ [x]).any (· == k)
          rw [List.any_append]
          congr 1
          by_cases e : k = x
          · simp [e]
          · have : (x == k) = false := by simpa using fun h : x = k => e h.symm
            simp [e, this]
    refine wpAny_pure ⟨plainId_quiet PyProof.Rows.F.plain_set_update_loop _, ih (i + 1) _ (by omega) lt (Wk.frame _ s2 _ _ st2 (Nat.le_succ _) fun b q o e => ?_) q2 fun s3 mv3 q3 => ?_⟩
    · rw [same.2 b (fun h : b = z => hz (by rw [← h]; exact q))] <;> exact e
    · refine fin s3 (Moved.trans Wk.gtrans ((mv.mono sb).then_heap (Nat.le_succ _) fun b o q e => ?_) mv3) q3
      rw [same.2 b (fun h : b = z => q (by rw [h]; exact List.mem_cons_self))] <;> exact e
end
section
variable {Pg : Program} {wd : World} {A1 : Around} {Er : Value → Shared → Prop} {s : Shared}
/-- the new set's object -/
abbrev newSet (led : Bool) : Obj := { cls := .type "set", dict := none, data := .set #[] 0 (.fresh 0 0 led) }
theorem set_of_strs {l : Addr} {its : Array Value} {xs : List Str} {Q : Value → Shared → Prop} (hh : A1.handled = none) (hl : s.heap.IsList l its) (hi : StrsAre its.toList xs) (hb : xs.length + 1 < scanBound)
    (h : ∀ (h' : Heap) (tk : Nat), Has Pg wd h' s.heap.objs.size xs xs.length → (∀ b o, b < s.heap.objs.size → s.heap.get? b = some o → h'.get? b = some o) → Q (.ref s.heap.objs.size) { s with heap := h', toks := tk }) :
    wpAny (model Pg wd) A1 (call (.type "set") [.ref l]) Q Er s := by
  obtain ⟨mc, mt, hmro⟩ := PySem.F.called_set.mro
  have f1 := PySem.F.called_set.made
  have f2 := PySem.F.called_set.sub
  refine wpAny_call (codeAny_of_tree ?_)
  show (wpAny _ _ (callAny (.type "set") _) _ _ _)
  refine (wpAny_pure ⟨Code.quiet_builtin _ (by decide +kernel), codeAny_builtin PySem.F.entry_type_call ?_⟩)
  rw [Around.under_plain (weight_type_call_type "set" [.ref l] []) rfl]
  have f3 := PySem.F.called_set.notType
  have f4 := PySem.F.called_set.canCreate
  have f5 := PySem.F.typeCall_set_1 (.ref l)
  repeat (any_goals (first | assumption | wp_step))
  refine codeAny_mono (code_set_new_1 (.ref l) (E := Er) (Q₁ := fun ob s1 => ∃ led : Bool, ob = .ref s.heap.objs.size ∧ s1 = { s with heap := s.heap.push (newSet led) }) fun led => ⟨led, rfl, rfl⟩) fun r s1 hr => ?_
  cases r with
  | error e => exact hr
  | ok fl =>
    cases fl with
    | next => exact hr
    | brk => exact hr
    | cont => exact hr
    | ret ob =>
      obtain ⟨led, rfl, rfl⟩ := hr
      have gS : (s.heap.push (newSet led)).get? s.heap.objs.size = some (newSet led) := Heap.get?_push_size _ rfl
      have tS : Shared.TypeIs { s with heap := s.heap.push (newSet led) } (.ref s.heap.objs.size) "set" := ⟨_, gS, rfl⟩
      have f6 := PySem.F.called_set.init.lookup
      have f7 := PySem.F.called_set.init.bind (.ref s.heap.objs.size)
      repeat (any_goals (first | assumption | wp_step))
      refine codeAny_mono (codeAny_call_builtin (R := wants (fun r s2 => r = .none ∧ ∃ h' tk, s2 = { s with heap := h', toks := tk } ∧ Has Pg wd h' s.heap.objs.size xs xs.length ∧ ∀ b o, b < s.heap.objs.size → s.heap.get? b = some o → h'.get? b = some o) Er) PySem.F.called_set.init.plain PySem.F.entry_set_init (check_set_init_1 tS ?_)) fun r2 s2 hr2 => ?_
      · obtain ⟨⟨oc, od, odt, osl⟩, ho, hc, nl, hd⟩ := hl
        simp only at hc hd
        subst hc; subst hd
        have ho' : (s.heap.push (newSet led)).get? l = some { cls := .type "list", dict := od, data := .seq its nl, slots := osl } := Heap.get?_push_of_some _ ho
        have f8 := PySem.F.sub_list_set
        have f9 := PySem.F.sub_list_frozenset
        have fa : (Value.type "list" == Value.type "dict") = false := by decide
        have hl1 : (s.heap.push (newSet led)).IsList l its := ⟨_, ho', rfl, nl, rfl⟩
        unfold Builtin.«set.__init__» noKeywords Builtin.Frozenset.updateFrom
        generalize hPI : pyIter = PI
        wp_walk
        subst hPI
        refine wpAny_pyIter_list hl1 (wpAny_bind (wpAny_runValue ?_))
        have lS : l < s.heap.objs.size := Heap.lt_size ho
        have h3 : A1.in1.in1.in1.handled = none := by simp [hh]
        have nI : l ≠ (s.heap.push (newSet led)).objs.size := by rw [Heap.size_push]; exact Nat.ne_of_lt (Nat.lt_succ_of_lt lS)
        have zf : s.heap.objs.size ∉ [(s.heap.push (newSet led)).objs.size, l] := by
          rw [Heap.size_push]; simp only [List.mem_cons, List.mem_singleton, List.not_mem_nil, or_false, not_or]; exact ⟨Nat.ne_of_lt (Nat.lt_succ_self _), Nat.ne_of_gt lS⟩
        have isz : its.size = xs.length := by rw [← hi.length]; simp
        have val : ∀ (i : Nat) (v : Value), its[i]? = some v → ∃ x t, xs[i]? = some x ∧ v = .str x t := fun i v hv => by
          have hlt : i < its.size := (Array.getElem?_eq_some_iff.mp hv).1
          obtain ⟨t, e⟩ := SS.strs_at hi i v (by rw [Array.getElem?_toList]; exact hv)
          refine ⟨xs[i]'(by omega), t, List.getElem?_eq_getElem _, ?_⟩
          rw [e]
          congr 1
          simp [List.getD_eq_getElem?_getD, List.getElem?_eq_getElem (show i < xs.length by omega)]
        refine set_loop ((Walks.list h3 _ l nI its).toS) s.heap.objs.size zf xs isz.symm (by omega) val (its.size - 0) 0 _ (by omega) (Nat.zero_le _) ⟨⟨_, Heap.get?_push_size _ rfl, rfl, rfl⟩, (hl1.push _)⟩ ?start ?fin
        case start =>
          have g2 : ((s.heap.push (newSet led)).push { cls := .type "list_iterator", data := .fields #[.ref l, .int 0 0] }).get? s.heap.objs.size = some (newSet led) := Heap.get?_push_of_some _ gS
          exact ⟨[], List.nodup_nil, fun k => by simp, SetOf_congr ((setObjOf_fresh (knd := PySem.strKind Pg wd) led).setOf g2 (by unfold scanBound; omega)) (fun _ => rfl) rfl⟩
        case fin =>
          intro s3 mv q3
          obtain ⟨h', g', d', tk', os'⟩ := s3
          obtain rfl : g' = s.gens := mv.gens
          obtain rfl : d' = s.drawn := mv.drawn
          obtain rfl : os' = s.os := mv.os
          rw [isz] at q3
          show wpAny _ _ _ _ _ _
          refine wpAny_pure ?_
          show wpAny _ _ (ret Value.none) _ _ _
          refine wpAny_pure ⟨rfl, h', tk', rfl, q3, fun b o q e => ?_⟩
          have n1 : b ≠ s.heap.objs.size := Nat.ne_of_lt q
          have n2 : b ≠ (s.heap.push (newSet led)).objs.size := by rw [Heap.size_push]; exact Nat.ne_of_lt (Nat.lt_succ_of_lt q)
          exact mv.heap b o (by simp only [List.mem_cons, List.mem_singleton, List.not_mem_nil, or_false, not_or]; exact ⟨n1, n2⟩) (Heap.get?_push_of_some _ (Heap.get?_push_of_some _ e))
      · cases r2 with
        | error e => exact hr2
        | ok fl2 =>
          cases fl2 with
          | next => exact hr2
          | brk => exact hr2
          | cont => exact hr2
          | ret r =>
            obtain ⟨rfl, h', tk, rfl, q3, k3⟩ := hr2
            repeat (any_goals (first | assumption | wp_step))
            exact h _ _ q3 k3
end
end KF


set_option Elab.async false
set_option linter.all false
set_option autoImplicit false
set_option maxRecDepth 100000
set_option maxHeartbeats 1000000
namespace KF
open PySem PySem.Spec PyProof.Rows L2
/-! ### the text: what the checker knows -/
structure Txt where
  /-- names of fields and methods -/
  nm : List (Nat × Str)
  /-- the defs of the module -/
  fn : List (Nat × Str)
  /-- its classes -/
  cl : List (Nat × Str)
  /-- its constants -/
  gl : List (Nat × Str)
  /-- names that are built-in ones -/
  bl : List Str
  /-- the lambdas' names: the parameter, what they capture, their own -/
  lam : List (Nat × List Str) := []
/-- the block -/
structure Cc where
  N : List Str
  sc : Scope
  fn : Str → Bool
  /-- its code object's table is known -/
  lam : Bool := false
def visB (sc : Scope) (x : Str) : Bool := match sc.names.lookup x with
  | some .local => true
  | some .cell => true
  | some .free => true
  | _ => false
theorem vis_of {sc : Scope} {x : Str} (h : visB sc x = true) : Vis sc x := by
  unfold visB at h
  unfold Vis
  split at h <;> simp_all
def glB (sc : Scope) (x : Str) : Bool := decide (sc.names.lookup x = some .globalImplicit) && !(x == ("__debug__" : Str)) && !(x == ("__name__" : Str))
def locB (c : Cc) (x : Str) : Bool := match c.sc.names.lookup x with
  | some .local => true
  | some .cell => c.fn x
  | _ => false
theorem loc_of {c : Cc} {x : Str} (h : locB c x = true) : L2.Loc c.sc x ∧ (c.fn x = true ∨ c.sc.names.lookup x = some .local) := by
  unfold locB at h
  unfold L2.Loc
  split at h <;> simp_all
/-! ### targets -/
def nmB (c : Cc) (i : Nat) : Expr → Bool
  | .Name x _ => decide (c.N[i]? = some x) && locB c x
  | _ => false
def nmsB (c : Cc) : List Nat → List Expr → Bool
  | [], [] => true
  | i :: r, e :: es => nmB c i e && nmsB c r es
  | _, _ => false
def tgB (c : Cc) : Tg → Expr → Bool
  | .nm i, e => nmB c i e
  | .tp l, .Tuple es _ _ => nmsB c l es
  | _, _ => false
def tgSl : Tg → List Nat
  | .nm i => [i]
  | .tp l => l
  | .tq i l => i :: l
def gNs : List Nat → TGs
  | [] => gNil
  | i :: r => gCons (gName i) (gNs r)
def gT (K : PySem.W.Frag) : Tg → TG
  | .nm i => gName i
  | .tp l => gTup K l.length (gNs l)
  | .tq _ _ => fun _ _ _ _ => False
section
variable {X : Cx} {T : Tab} {c : Cc}
/-- the block that runs is the checker's -/
structure Blk (c : Cc) (X : Cx) : Prop where
  N : X.N = c.N
  sc : X.env.scope = c.sc
  fn : X.fn = c.fn
  nd : c.N.Nodup
  calm : X.calm = true
theorem pg_nm (b : Blk c X) {i : Nat} {e : Expr} (h : nmB c i e = true) : PG X e (gName i) := by
  cases e <;> first | (exfalso; simp [nmB] at h; done) | skip
  rename_i x p
  have h' : decide (c.N[i]? = some x) = true ∧ locB c x = true := by simpa [nmB] using h
  have ⟨h1, h2⟩ := loc_of h'.2
  exact pg_name (by rw [b.N]; exact b.nd) (by rw [b.N]; exact of_decide_eq_true h'.1) (by rw [b.sc]; exact h1) (by rw [b.sc, b.fn]; exact h2)
theorem nm_name {i : Nat} {e : Expr} (h : nmB c i e = true) : ∃ x p, e = .Name x p := by
  cases e <;> first | exact ⟨_, _, rfl⟩ | (exfalso; simp [nmB] at h; done)
theorem pgs_nms (b : Blk c X) : ∀ {l : List Nat} {es : List Expr}, nmsB c l es = true → PGs X es (gNs l) ∧ (assignEach es X.env).length = l.length ∧ (assignEach es X.env).findIdx? (·.1) = none
  | [], [], _ => ⟨pgs_nil, rfl, rfl⟩
  | [], _ :: _, h => by simp [nmsB] at h
  | _ :: _, [], h => by simp [nmsB] at h
  | i :: r, e :: es, h => by
    have h' : nmB c i e = true ∧ nmsB c r es = true := by simpa [nmsB] using h
    obtain ⟨a1, a2, a3⟩ := pgs_nms b h'.2
    obtain ⟨x, p, rfl⟩ := nm_name h'.1
    have e1 : assignEach (.Name x p :: es) X.env = (false, assign (.Name x p) X.env) :: assignEach es X.env := rfl
    refine ⟨pgs_cons (pg_nm b h'.1) a1 rfl, by rw [e1]; simp [a2], ?_⟩
    rw [e1, List.findIdx?_cons]
    simp [a3]
theorem pg_tg (b : Blk c X) {tg : Tg} {e : Expr} (h : tgB c tg e = true) : PG X e (gT X.K tg) := by
  cases tg with
  | nm i => exact pg_nm b h
  | tp l =>
    cases e <;> first | (exfalso; simp [tgB] at h; done) | skip
    rename_i es kk p
    obtain ⟨a1, a2, a3⟩ := pgs_nms b (show nmsB c l es = true from h)
    exact pg_tup b.calm a1 a2 a3
  | tq i l => exfalso; cases e <;> simp [tgB] at h
/-- the slots but those -/
def EnvX (K : PySem.W.Frag) (T : Tab) (Φ : Hp) (ρ : List Addr) (l : List Nat) (σ : L2.St) (env : Env) : Prop :=
  σ.length = env.length ∧ ∀ (i : Nat) (w : W), i ∉ l → env[i]? = some (some w) → ∃ v, σ[i]? = some (some v) ∧ VR K T Φ ρ v w
theorem EnvR.x {K : PySem.W.Frag} {Φ : Hp} {ρ : List Addr} {σ : L2.St} {env : Env} (e : EnvR K T Φ ρ σ env) (l : List Nat) : EnvX K T Φ ρ l σ env := ⟨e.1, fun i w _ h => e.2 i w h⟩
theorem EnvX.all {K : PySem.W.Frag} {Φ : Hp} {ρ : List Addr} {σ : L2.St} {env : Env} (e : EnvX K T Φ ρ [] σ env) : EnvR K T Φ ρ σ env := ⟨e.1, fun i w h => e.2 i w (by simp) h⟩
theorem EnvX.set {K : PySem.W.Frag} {Φ : Hp} {ρ : List Addr} {σ : L2.St} {env : Env} {i : Nat} {l : List Nat} {v : V} {w : W} (e : EnvX K T Φ ρ (i :: l) σ env) (h : VR K T Φ ρ v w) : EnvX K T Φ ρ l (σ.set i (some v)) (env.set i (some w)) := by
  refine ⟨by simp [e.1], fun j u hn hj => ?_⟩
  by_cases q : i = j
  · subst q
    have hl : i < env.length := by
      have := (List.getElem?_eq_some_iff.mp hj).1
      simpa using this
    rw [List.getElem?_set_self hl] at hj
    cases hj
    exact ⟨v, by rw [List.getElem?_set_self (by rw [e.1]; exact hl)], h⟩
  · rw [List.getElem?_set_ne q] at hj ⊢
    exact e.2 j u (by simp [Ne.symm q, hn]) hj
theorem gNs_read {K : PySem.W.Frag} {Φ : Hp} {ρ : List Addr} {H : Hp} {R : L2.St → Hp → Prop} : ∀ {l : List Nat} {vs : List V} {ws : List W} {σ : L2.St} {env : Env}, VRs K T Φ ρ vs ws → l.length = ws.length → EnvX K T Φ ρ l σ env →
    (∀ σ', EnvR K T Φ ρ σ' ((l.zip ws).foldl (fun e p => e.set p.1 (some p.2)) env) → (∀ j, j ∉ l → σ'[j]? = σ[j]?) → σ'.length = σ.length → R σ' H) → gNs l vs σ H R
  | [], _, _, _, _, .nil, _, e, k => ⟨rfl, k _ e.all (fun _ _ => rfl) rfl⟩
  | [], _, _, _, _, .cons _ _, h, _, _ => by simp at h
  | _ :: _, _, _, _, _, .nil, h, _, _ => by simp at h
  | i :: l, _, _, σ, env, .cons (v := v) (w := w) h1 r, h, e, k => by
    refine ⟨v, _, rfl, ?_⟩
    refine gNs_read (l := l) r (by simpa using h) (e.set h1) fun σ' e' hj hl => k σ' e' (fun j hn => ?_) (by simpa using hl)
    have hn' : j ≠ i ∧ j ∉ l := by simpa using hn
    rw [hj j hn'.2, List.getElem?_set_ne (Ne.symm hn'.1)]
theorem gT_read {K : PySem.W.Frag} {Φ : Hp} {ρ : List Addr} {H : Hp} {S : Sto} {R : L2.St → Hp → Prop} (rel : Rel K T Φ ρ H S) {tg : Tg} {v : V} {w : W} {σ : L2.St} {env env' : Env} (q : VR K T Φ ρ v w) (hs : setT tg w env = some env') (ht : ∀ i l, tg ≠ .tq i l) (e : EnvX K T Φ ρ (tgSl tg) σ env)
    (k : ∀ σ', EnvR K T Φ ρ σ' env' → (∀ j, j ∉ tgSl tg → σ'[j]? = σ[j]?) → σ'.length = σ.length → R σ' H) : gT K tg v σ H R := by
  cases tg with
  | nm i =>
    simp only [setT] at hs
    cases hs
    refine k _ (EnvX.all (EnvX.set e q)) (fun j hj => ?_) (by simp)
    rw [List.getElem?_set_ne (fun z => hj (by simp [tgSl, z]))]
  | tp l =>
    cases q with
    | tup h1 h2 =>
      simp only [setT] at hs
      split at hs
      · rename_i hl
        cases hs
        refine ⟨_, _, rfl, sameT rel.sub h1, by rw [h2.length]; exact hl.symm, gNs_read h2 hl e fun σ' e' hj hl' => k σ' e' hj hl'⟩
      · cases hs
    | _ => simp [setT] at hs
  | tq i l => exact absurd rfl (ht i l)
theorem tgB_ne {tg : Tg} {e : Expr} (h : tgB c tg e = true) : ∀ i l, tg ≠ .tq i l := fun i l z => by
  subst z
  cases e <;> simp [tgB] at h
/-! ### wiping -/
theorem wipe_get (σ : L2.St) : ∀ (vs : List Nat) (j : Nat), (wipe σ vs)[j]? = if j ∈ vs ∧ j < σ.length then some none else σ[j]?
  | [], j => by simp [wipe]
  | v :: vs, j => by
    show ((wipe σ vs).set v none)[j]? = _
    by_cases e : v = j
    · subst e
      by_cases hl : v < σ.length
      · rw [List.getElem?_set_self (by rw [wipe_length]; exact hl)]
        simp [hl]
      · rw [List.getElem?_eq_none (by simp [wipe_length]; omega)]
        simp [hl]
    · rw [List.getElem?_set_ne e, wipe_get σ vs j]
      have : (j ∈ v :: vs) ↔ j ∈ vs := by simp [Ne.symm e]
      simp only [this]
theorem wipe_eq {σ σ' : L2.St} {vs : List Nat} (hl : σ'.length = σ.length) (h : ∀ j, j ∉ vs → σ'[j]? = σ[j]?) : wipe σ' vs = wipe σ vs := by
  refine List.ext_getElem? fun j => ?_
  rw [wipe_get, wipe_get, hl]
  by_cases e : j ∈ vs
  · by_cases hl2 : j < σ.length
    · simp [e, hl2]
    · simp only [e, hl2, and_false, if_false]
      rw [List.getElem?_eq_none (by omega), List.getElem?_eq_none (by omega)]
  · simp only [e, false_and, if_false]
    exact h j e
theorem wipe_wipe (σ : L2.St) (vs : List Nat) : wipe (wipe σ vs) vs = wipe σ vs := wipe_eq (wipe_length _ _) fun j hj => by rw [wipe_get]; simp [hj]
theorem EnvR.wiped {K : PySem.W.Frag} {Φ : Hp} {ρ : List Addr} {σ : L2.St} {env : Env} (e : EnvR K T Φ ρ σ env) (vs : List Nat) : EnvX K T Φ ρ vs (wipe σ vs) env :=
  ⟨by rw [wipe_length]; exact e.1, fun i w hn h => by rw [wipe_get]; simp only [hn, false_and, if_false]; exact e.2 i w h⟩
/-! ### what is walked -/
structure WalkI (K : PySem.W.Frag) (T : Tab) (Φ0 : Hp) (ρ0 : List Addr) (H0 : Hp) (J : L2.It) (ws : List W) (g : Gd) : Prop where
  go : ∀ Φ ρ H S i w, Le Φ0 ρ0 H0 Φ ρ H → Rel K T Φ ρ H S → gdOk g S = true → ws[i]? = some w → J.go i H ∧ ∀ x H', J.yld i H x H' → ∃ Φ', Le Φ ρ H Φ' ρ H' ∧ Rel K T Φ' ρ H' S ∧ VR K T Φ' ρ x w
  stop : ∀ Φ ρ H S, Le Φ0 ρ0 H0 Φ ρ H → Rel K T Φ ρ H S → gdOk g S = true → J.stop ws.length H
/-- the reading of what is walked -/
def RI (K : PySem.W.Frag) (T : Tab) (m : Env → Sto → Res (List W × Gd)) : L2.TI := fun σ H R => ∃ Φ ρ env S, EnvR K T Φ ρ σ env ∧ Rel K T Φ ρ H S ∧ Pst (m env S) fun p S' =>
  ∀ Φ' ρ' H' J, Le Φ ρ H Φ' ρ' H' → Rel K T Φ' ρ' H' S' → gdOk p.2 S' = true → WalkI K T Φ' ρ' H' J p.1 p.2 → R J H'
theorem gdOf_ok (S : Sto) (w : W) : gdOk (gdOf S w) S = true := by
  cases w <;> first | rfl | skip
  rename_i i
  simp only [gdOf]
  cases e : S[i]? with
  | none => rfl
  | some o => simp [gdOk, e]
theorem walk_lst {K : PySem.W.Frag} {Φ0 : Hp} {ρ0 : List Addr} {H0 : Hp} {a : Addr} {vs : List V} {ws : List W} (h : SqL K Φ0 a vs) (q : VRs K T Φ0 ρ0 vs ws) : WalkI K T Φ0 ρ0 H0 (Itl K a) ws none where
  go := fun Φ ρ H S i w le rel _ hi => by
    have hq : SqL K H a vs := L2.Same.seq rel.sub (L2.Same.seq le.ph h)
    obtain ⟨y, hy, r⟩ := q.get hi
    refine ⟨⟨vs, y, hq, hy⟩, fun x H' hy' => ?_⟩
    obtain ⟨e, f⟩ := hy'
    subst e
    have := f vs hq
    rw [hy] at this; cases this
    exact ⟨Φ, .refl, rel, r.le le⟩
  stop := fun Φ ρ H S le rel _ => ⟨vs, L2.Same.seq rel.sub (L2.Same.seq le.ph h), by rw [q.length]; exact Nat.le_refl _⟩
theorem walk_tupI {K : PySem.W.Frag} {Φ0 : Hp} {ρ0 : List Addr} {H0 : Hp} {a : Addr} {vs : List V} {ws : List W} (h : SqT K Φ0 a vs) (q : VRs K T Φ0 ρ0 vs ws) : WalkI K T Φ0 ρ0 H0 (Itt K a) ws none where
  go := fun Φ ρ H S i w le rel _ hi => by
    have hq : SqT K H a vs := sameT rel.sub (sameT le.ph h)
    obtain ⟨y, hy, r⟩ := q.get hi
    refine ⟨⟨vs, y, hq, hy⟩, fun x H' hy' => ?_⟩
    obtain ⟨e, f⟩ := hy'
    subst e
    have := f vs hq
    rw [hy] at this; cases this
    exact ⟨Φ, .refl, rel, r.le le⟩
  stop := fun Φ ρ H S le rel _ => ⟨vs, sameT rel.sub (sameT le.ph h), by rw [q.length]; exact Nat.le_refl _⟩
theorem walk_ref {K : PySem.W.Frag} {Φ0 : Hp} {ρ0 : List Addr} {H0 : Hp} {i0 : Nat} {a : Addr} {ws : List W} (h : ρ0[i0]? = some a) : WalkI K T Φ0 ρ0 H0 (Itl K a) ws (some (i0, .lst ws)) where
  go := fun Φ ρ H S i w le rel g hi => by
    have g' : S[i0]? = some (.lst ws) := of_decide_eq_true g
    have h' : ρ[i0]? = some a := pre_get le.rp h
    obtain ⟨_, ho, h5, h6⟩ := rel.ob _ _ _ h' g' (fun z => nomatch z)
    cases h6 with
    | @lst vs _ q =>
      have hq : SqL K H a vs := .inl (.inl h5)
      obtain ⟨y, hy, r⟩ := q.get hi
      refine ⟨⟨vs, y, hq, hy⟩, fun x H' hy' => ?_⟩
      obtain ⟨e, f⟩ := hy'
      subst e
      have := f vs hq
      rw [hy] at this; cases this
      exact ⟨Φ, .refl, rel, r⟩
  stop := fun Φ ρ H S le rel g => by
    have g' : S[i0]? = some (.lst ws) := of_decide_eq_true g
    have h' : ρ[i0]? = some a := pre_get le.rp h
    obtain ⟨_, ho, h5, h6⟩ := rel.ob _ _ _ h' g' (fun z => nomatch z)
    cases h6 with
    | @lst vs _ q => exact ⟨vs, .inl (.inl h5), by rw [q.length]; exact Nat.le_refl _⟩
theorem walk_rng {K : PySem.W.Frag} {Φ0 : Hp} {ρ0 : List Addr} {H0 : Hp} (lo : Int) (n : Nat) : WalkI K T Φ0 ρ0 H0 (Itr lo n) ((List.range n).map fun k => .int (lo + (k : Nat))) none where
  go := fun Φ ρ H S i w le rel _ hi => by
    have hi' : i < n := by
      have := (List.getElem?_eq_some_iff.mp hi).1
      simpa using this
    refine ⟨hi', fun x H' hy => ?_⟩
    obtain ⟨e, f⟩ := hy
    subst e; subst f
    rw [List.getElem?_map, List.getElem?_range hi'] at hi
    cases hi
    exact ⟨Φ, .refl, rel, .int _⟩
  stop := fun Φ ρ H S le rel _ => by
    show n ≤ ((List.range n).map _).length
    simp
theorem enum_get {l : List W} {i : Nat} {w : W} (h : (l.zipIdx.map fun p => W.tup [.int p.2, p.1])[i]? = some w) : ∃ x, l[i]? = some x ∧ w = .tup [.int i, x] := by
  rw [List.getElem?_map, List.getElem?_zipIdx] at h
  cases e : l[i]? with
  | none => rw [e] at h; cases h
  | some x => rw [e] at h; cases h; exact ⟨x, rfl, by simp⟩
/-- a list that is enumerated, any way that tells its items -/
theorem walk_enumI {K : PySem.W.Frag} {Φ0 : Hp} {ρ0 : List Addr} {H0 : Hp} {a : Addr} {l : List W} {g : Gd} (hr : ∀ Φ ρ H S, Le Φ0 ρ0 H0 Φ ρ H → Rel K T Φ ρ H S → gdOk g S = true → ∃ vs, SqL K H a vs ∧ VRs K T Φ ρ vs l) :
    WalkI K T Φ0 ρ0 H0 (Ite K a) (l.zipIdx.map fun p => .tup [.int p.2, p.1]) g where
  go := fun Φ ρ H S i w le rel gd hi => by
    obtain ⟨vs, hq, q⟩ := hr Φ ρ H S le rel gd
    obtain ⟨x, hx, rfl⟩ := enum_get hi
    obtain ⟨y, hy, r⟩ := q.get hx
    refine ⟨⟨vs, y, hq, hy⟩, fun v H' hy' => ?_⟩
    obtain ⟨t, x', rfl, hT, rfl, f⟩ := hy'
    have := f vs hq
    rw [hy] at this; cases this
    have rf := rel.frozen (o := .tup [.int (i : Nat), y]) hT (fun _ z => nomatch z)
    exact ⟨_, Le.frozen rel hT, rf, .tup (.inl (.inl upd_same)) (.cons (.int _) (.cons (r.mono (same_upd (same_fresh rel.sub hT)) (List.prefix_refl _)) .nil))⟩
  stop := fun Φ ρ H S le rel gd => by
    obtain ⟨vs, hq, q⟩ := hr Φ ρ H S le rel gd
    exact ⟨vs, hq, by rw [q.length]; simp⟩
end
end KF


set_option Elab.async false
set_option linter.all false
set_option autoImplicit false
set_option maxRecDepth 100000
set_option maxHeartbeats 1000000
namespace KF
open PySem PySem.Spec PyProof.Rows L2
/-! ### the checker -/
def strEq (s : Nm) (x : Str) : Bool := decide (x = toStr s)
def bltB (P : Txt) (c : Cc) (n : Str) : Expr → Bool
  | .Name x _ => decide (x = n) && P.bl.contains n && glB c.sc n
  | _ => false
def plainIxB : Expr → Bool
  | .Slice _ _ _ _ => false
  | _ => true
def starB : Expr → Bool
  | .Starred _ _ => true
  | _ => false
def baseB : Expr → Bool
  | .Call (.Name _ _) [] [] _ => false
  | _ => true
/-- a display of constants that CPython would fold in a for -/
def setB : Expr → Bool
  | .Set _ _ _ => true
  | _ => false
def compB : Expr → Bool
  | .ListComp _ _ _ _ => true
  | .SetComp _ _ _ _ => true
  | .DictComp _ _ _ _ _ => true
  | _ => false
def blkCc (c : Cc) (scope : Scope) : Cc := ⟨c.N, relS scope c.sc, fun x => scope.names.lookup x == some .cell, false⟩
def tgOwn : Tg → Expr → List (Str × Nat)
  | .nm i, .Name x _ => [(x, i)]
  | .tp l, .Tuple es _ _ => (es.zip l).filterMap fun p => match p.1 with
    | .Name x _ => some (x, p.2)
    | _ => none
  | _, _ => []
def bltName : Blt → Str
  | .len => "len" | .int => "int" | .list => "list" | .tuple => "tuple" | .min2 => "min" | .max2 => "max"
  | .sorted => "sorted" | .sum => "sum" | .any => "any" | .all => "all" | .isList => "isinstance"
  | .lenSet => "len" | .sortedSet => "sorted" | .sortedXor => "sorted"
def bltOne : Blt → Bool
  | .len => true | .int => true | .list => true | .tuple => true | .sorted => true
  | _ => false
def bltTwo : Blt → Bool
  | .min2 => true | .max2 => true
  | _ => false
/-- the argument of a built-in function's call, or of a short nest of them -/
def bltArg (P : Txt) (c : Cc) (b : Blt) (f : Expr) (ls : List Expr) : Option Expr := match b with
  | .lenSet => (match ls with
    | [.Call f2 [l] [] _] => if bltB P c "len" f && bltB P c "set" f2 then some l else none
    | _ => none)
  | .isList => (match ls with
    | [l, f2] => if bltB P c "isinstance" f && bltB P c "list" f2 then some l else none
    | _ => none)
  | b => (match ls with
    | [l] => if bltOne b && bltB P c (bltName b) f then some l else none
    | _ => none)
theorem bltArg_of {P : Txt} {c : Cc} {b : Blt} {f l : Expr} {ls : List Expr} (h : bltArg P c b f ls = some l) :
    (b = .lenSet ∧ ∃ f2 p, ls = [.Call f2 [l] [] p] ∧ bltB P c "len" f = true ∧ bltB P c "set" f2 = true) ∨ (b = .isList ∧ ∃ f2, ls = [l, f2] ∧ bltB P c "isinstance" f = true ∧ bltB P c "list" f2 = true) ∨
    (ls = [l] ∧ bltOne b = true ∧ bltB P c (bltName b) f = true) := by
  unfold bltArg at h
  split at h
  · split at h
    · rename_i f2 l2 p
      split at h
      · rename_i q
        simp only [Bool.and_eq_true] at q
        cases h
        exact .inl ⟨rfl, f2, p, rfl, q.1, q.2⟩
      · cases h
    · cases h
  · split at h
    · rename_i l2 f2
      split at h
      · rename_i q
        simp only [Bool.and_eq_true] at q
        cases h
        exact .inr (.inl ⟨rfl, f2, rfl, q.1, q.2⟩)
      · cases h
    · cases h
  · split at h
    · rename_i l2
      split at h
      · rename_i q
        simp only [Bool.and_eq_true] at q
        cases h
        exact .inr (.inr ⟨rfl, q.1, q.2⟩)
      · cases h
    · cases h
/-- what a lambda captures -/
def frOf (scope : Scope) : List Str := (scope.names.filter fun y => decide (y.2 = .free)).map (·.1)
/-- a key's lambda: its names, its parameter -/
def lamOk (P : Txt) (c : Cc) (id : Nat) (js : List Nat) (ns : Nat) (kn : Option Str) (params : Arguments) (scope : Scope) : Option (List Str × Str × Pos) := match params with
  | ⟨[], [⟨x, none, ap⟩], none, [], [], none, []⟩ => (match pget id P.lam with
    | some N' => if decide (kn = some "key") && c.lam && decide (N'.length = 1 + js.length + ns) && decide (N'.head? = some x) && NdefX.nscB N' [x] (frOf scope) scope && NdefX.ndefB c.sc scope (frOf scope) && decide (js.map (fun j => c.N[j]?) = (frOf scope).map some) then some (N', x, ap) else none
    | none => none)
  | _ => none
theorem lamOk_of {P : Txt} {c : Cc} {id : Nat} {js : List Nat} {ns : Nat} {kn : Option Str} {params : Arguments} {scope : Scope} {N' : List Str} {x : Str} {ap : Pos} (h : lamOk P c id js ns kn params scope = some (N', x, ap)) :
    params = ⟨[], [⟨x, none, ap⟩], none, [], [], none, []⟩ ∧ kn = some "key" ∧ c.lam = true ∧ pget id P.lam = some N' ∧ N'.length = 1 + js.length + ns ∧ N'.head? = some x ∧ NdefX.NScope N' [x] (frOf scope) scope ∧ NdefX.ndefB c.sc scope (frOf scope) = true ∧ js.map (fun j => c.N[j]?) = (frOf scope).map some := by
  unfold lamOk at h
  split at h
  · rename_i x' ap'
    split at h
    · rename_i N2 e
      split at h
      · rename_i q
        simp only [Bool.and_eq_true, decide_eq_true_eq] at q
        cases h
        obtain ⟨⟨⟨⟨⟨⟨q1, q2⟩, q3⟩, q4⟩, q5⟩, q6⟩, q7⟩ := q
        exact ⟨rfl, q1, q2, e, q3, q4, NdefX.nscope_by q5, q6, q7⟩
      · cases h
    · cases h
  · cases h
/-- a form whose test is its value's truth -/
def plainT : Expr → Bool
  | .Name _ _ => true
  | .Call _ _ _ _ => true
  | .Subscript _ _ _ => true
  | .Attribute _ _ _ => true
  | .Constant _ _ _ => true
  | _ => false
mutual
/-- t: as a test -/
def chk (P : Txt) (c : Cc) : Bool → E → Expr → Bool
  | t, .var i, .Name x _ => decide (c.N[i]? = some x) && visB c.sc x && !(x == ("__debug__" : Str)) && !(x == ("__classdict__" : Str))
  | t, .int i, .Constant (.int j) _ _ => decide (i = j)
  | t, .str s, .Constant (.str x) _ _ => strEq s x
  | t, .bl b, .Constant (.bool d) _ _ => b == d
  | t, .non, .Constant .none _ _ => true
  | t, .glob g, .Name x _ => decide (pget g P.gl = some x) && glB c.sc x
  | false, .tup es, .Tuple l _ _ => chkEs P c es l
  | false, .lst _ es, .List l _ => chkEs P c es l
  | false, .bin op _ a b, .BinOp l o r _ => decide (o = opOf op) && chk P c false a l && chk P c false b r
  | false, .neg a, .UnaryOp .USub l _ => chk P c false a l
  | t, .cmp op a b, .Compare l [o] [r] _ => decide (o = cmpOf op) && chk P c false a l && chk P c false b r && !behindInMarks o r
  | false, .chn o1 o2 a b d, .Compare l [p1, p2] [r1, r2] _ => decide (p1 = cmpOf o1) && decide (p2 = cmpOf o2) && chk P c false a l && chk P c false b r1 && chk P c false d r2 && !lastMarks [p1, p2] [r1, r2]
  | t, .and a b, .BoolOp .And [l, r] _ => chk P c t a l && chk P c t b r
  | t, .and a b, .BoolOp .And (l :: r1 :: r2 :: rest) pos => chk P c t a l && chk P c t b (.BoolOp .And (r1 :: r2 :: rest) pos)
  | t, .or a b, .BoolOp .Or [l, r] _ => chk P c t a l && chk P c t b r
  | t, .or a b, .BoolOp .Or (l :: r1 :: r2 :: rest) pos => chk P c t a l && chk P c t b (.BoolOp .Or (r1 :: r2 :: rest) pos)
  | t, .not a, .UnaryOp .Not l _ => chk P c t a l
  | false, .ite t a b, .IfExp x l r _ => chk P c true t x && chk P c false a l && chk P c false b r
  | t, .sub a i, .Subscript l r _ => chk P c false a l && chk P c false i r && plainIxB r
  | t, .slc _ a lo hi, .Subscript l (.Slice x y none _) _ => chk P c false a l && chkO P c lo x && chkO P c hi y
  | t, .call f es, .Call (.Name x _) args [] _ => decide (pget f P.fn = some x) && glB c.sc x && chkEs P c es args
  | t, .blt b _ (.cons a .nil), .Call f ls [] _ => (match bltArg P c b f ls with
    | some l => chk P c false a l && !starB l
    | none => false)
  | t, .blt b _ (.cons a (.cons a2 .nil)), .Call f [l, l2] [] _ => bltTwo b && bltB P c (bltName b) f && chk P c false a l && chk P c false a2 l2 && !starB l && !starB l2
  | t, .bm .append _ o (.cons a .nil), .Call (.Attribute l n apos) [r] [] cpos => decide (n = ("append" : Str)) && chk P c false o l && chk P c false a r && baseB l && (apos.endLine == cpos.line) && !starB r
  | false, .lc _ elt tg it cs, .ListComp l [⟨t, iter, ifs, asy⟩] scope _ => decide (asy = 0) && blkC c.N c.sc scope (tgOwn tg t) && decide ((tgOwn tg t).map (·.2) = tgSl tg) && tgB (blkCc c scope) tg t &&
      chkI P c it t iter && !setB iter && chkTs P (blkCc c scope) cs ifs && chk P (blkCc c scope) false elt l
  | false, .dc _ k v tg it cs, .DictComp kx vx [⟨t, iter, ifs, asy⟩] scope _ => decide (asy = 0) && blkC c.N c.sc scope (tgOwn tg t) && decide ((tgOwn tg t).map (·.2) = tgSl tg) && tgB (blkCc c scope) tg t &&
      chkI P c it t iter && !setB iter && chkTs P (blkCc c scope) cs ifs && chk P (blkCc c scope) false k kx && chk P (blkCc c scope) false v vx
  | false, .sortk _ a id js ns key, .Call f [l] [⟨kn, .Lambda params body scope _, _⟩] _ => bltB P c "sorted" f && !starB l && chk P c false a l && (match lamOk P c id js ns kn params scope with
    | some q => chk { P with fn := [] } ⟨q.1, scope, fun _ => false, false⟩ false key body
    | none => false)
  | false, .frz a, pe => chk P c false a pe
  | _, _, _ => false
def chkEs (P : Txt) (c : Cc) : Es → List Expr → Bool
  | .nil, [] => true
  | .cons e r, l :: ls => chk P c false e l && !starB l && chkEs P c r ls
  | _, _ => false
def chkO (P : Txt) (c : Cc) : Eo → Option Expr → Bool
  | .none, none => true
  | .some e, some l => chk P c false e l
  | _, _ => false
def chkTs (P : Txt) (c : Cc) : Es → List Expr → Bool
  | .nil, [] => true
  | .cons e .nil, [l] => chk P c true e l
  | _, _ => false
def chkI (P : Txt) (c : Cc) : It → Expr → Expr → Bool
  | .rng1 e, _, .Call f [l] [] _ => bltB P c "range" f && chk P c false e l && !starB l
  | .rng2 a b, _, .Call f [l, r] [] _ => bltB P c "range" f && chk P c false a l && chk P c false b r && !starB l && !starB r
  | .enum e, t, .Call f [l] [] _ => bltB P c "enumerate" f && chk P c false e l && !starB l && (match t with
    | .Tuple _ _ _ => true
    | _ => false)
  | .val e, _, l => chk P c false e l
  | _, _, _ => false
end
def nTup : Expr → Bool
  | .Tuple _ _ _ => false
  | _ => true
/-- one name that is stored -/
def oneNm (c : Cc) (i : Nat) : List Expr → Bool
  | [.Name x _] => decide (c.N[i]? = some x) && locB c x
  | _ => false
theorem oneNm_of {c : Cc} {i : Nat} {ts : List Expr} (h : oneNm c i ts = true) : ∃ x p, ts = [.Name x p] ∧ c.N[i]? = some x ∧ locB c x = true := by
  unfold oneNm at h
  split at h
  · rename_i x p
    simp only [Bool.and_eq_true, decide_eq_true_eq] at h
    exact ⟨x, p, rfl, h.1, h.2⟩
  · cases h
def oneTg (c : Cc) (tg : Tg) : List Expr → Bool
  | [t] => tgB c tg t
  | _ => false
theorem oneTg_of {c : Cc} {tg : Tg} {ts : List Expr} (h : oneTg c tg ts = true) : ∃ t, ts = [t] ∧ tgB c tg t = true := by
  unfold oneTg at h
  split at h
  · exact ⟨_, rfl, h⟩
  · cases h
def oneSub : List Expr → Option (Expr × Expr)
  | [.Subscript a b _] => some (a, b)
  | _ => none
theorem oneSub_of {ts : List Expr} {a b : Expr} (h : oneSub ts = some (a, b)) : ∃ p, ts = [.Subscript a b p] := by
  unfold oneSub at h
  split at h
  · cases h; exact ⟨_, rfl⟩
  · cases h
/-- whether the interpreter stores a comprehension's list ahead of its block's end -/
def swapB (sc : Scope) (v : Expr) (t : Str) (tp : Pos) : Bool := match v with
  | .ListComp _ _ s _ | .SetComp _ _ s _ | .DictComp _ _ _ s _ => ((if sc.kind.isAnnotationScope then ScopeKind.function else sc.kind) == .function) && (sc.names.lookup t == some .local) && (tp.line == v.pos.line) && !(s.names.any fun (n, k) => n == t && (k == .local || k == .cell))
  | _ => false
theorem swap_eq (env : PySem.Env) (v : Expr) (t : Str) (tp : Pos) (line : Nat) : swapsWith v (some (.Name t tp)) line env = pure (swapB env.scope v t tp) := by
  cases v <;> rfl
def setOk (c : Cc) (e : E) (v : Expr) (ts : List Expr) : Bool := match ts with
  | [.Name t tp] => !swapB c.sc v t tp || (match e with
    | .lc _ _ _ _ _ => true
    | _ => false)
  | _ => false
def isNil {α : Type} : List α → Bool
  | [] => true
  | _ => false
theorem isNil_of {α : Type} {l : List α} (h : isNil l = true) : l = [] := by
  cases l <;> first | rfl | cases h
mutual
def chkS (P : Txt) (c : Cc) : S → Stmt → Bool
  | .set i e, .Assign ts v _ => oneNm c i ts && setOk c e v ts && chk P c false e v
  | .unp l e, .Assign ts v _ => oneTg c (.tp l) ts && !compB v && nTup v && chk P c false e v
  | .asub o i e, .Assign ts v _ => (match oneSub ts with
    | some (a, b) => plainIxB b && !compB v && nTup v && chk P c false o a && chk P c false i b && chk P c false e v
    | none => false)
  | .aug i op e, .AugAssign t o v _ => oneNm c i [t] && decide (o = opOf op) && chk P c false e v
  | .expr e, .Expr v _ => !compB v && chk P c false e v
  | .ret e, .Return (some v) _ => chk P c false e v
  | .retn, .Return none _ => true
  | .ite t a b, .If x l r _ => chk P c true t x && chkSs P c a l && chkSs P c b r
  | .for tg it b, .For t iter l els _ => isNil els && tgB c tg t && !setB iter && chkI P c it t iter && chkSs P c b l
  | .whl t b, .While x l els _ => isNil els && chk P c true t x && chkSs P c b l
  | .pass, .Pass _ => true
  | .brk, .Break _ => true
  | .cnt, .Continue _ => true
  | .raise _, .Raise _ _ _ => true
  | _, _ => false
def chkSs (P : Txt) (c : Cc) : Ss → List Stmt → Bool
  | .nil, [] => true
  | .cons s r, l :: ls => chkS P c s l && chkSs P c r ls
  | _, _ => false
end
end KF


set_option Elab.async false
set_option linter.all false
set_option autoImplicit false
set_option maxRecDepth 100000
set_option maxHeartbeats 1000000
namespace KF
open PySem PySem.Spec PyProof.Rows L2
section
variable {X : Cx} {T : Tab} {c : Cc}
/-- what a def promises: what the evaluator tells -/
def spI (K : PySem.W.Frag) (T : Tab) (g : List W → Sto → Res W) (n : Nat) : Sp := fun vs H Q _ => vs.length = n ∧ ∃ Φ ρ ws S, VRs K T Φ ρ vs ws ∧ Rel K T Φ ρ H S ∧ Pst (g ws S) (EndE K T Φ ρ H Q)
structure CallOk (X : Cx) (T : Tab) (x : Str) (g : List W → Sto → Res W) : Prop where
  ex : ∃ a fd ps k, X.mg x = some (.ref a) ∧ PySem.W.keepIn X.K (.ref a) = true ∧ Binds X.K fd ps [] ∧ FnOk X.prog X.w X.K X.mg X.base CX0 k a fd ps (spI X.K T g ps.length) ∧ Room k X.A ∧ ∀ ws S R, Pst (g ws S) R → ws.length = ps.length
structure Good (P : Txt) (G : Prog) (T : Tab) (cf : CF) (c : Cc) (X : Cx) : Prop extends Blk c X where
  hu : X.A.units + 66 < cLine
  hv : c.lam = true → X.A.units + 90 < cLine ∧ X.A.depth < recursionLimit
  lamb : ∀ id N' x, pget id P.lam = some N' → N'.head? = some x → ∀ (ap : Pos) (q : Str) (body : Expr) (scope : Scope) (cl : List (Str × Addr)) (pm cv ctv u : Value), bindArgs (PySem.W.kla_fn "<lambda>" q ⟨[], [⟨x, none, ap⟩], none, [], [], none, []⟩ body scope cl pm cv ctv) ⟨[u], []⟩ = pure [(x, u)]
  tab : c.lam = true → ∃ cc Pt, LamX.TabB X.base X.mg cc Pt ∧ X.env.code = .ref cc ∧ (Pt, X.env.qual ++ "<lambda>") ∈ T.tabs ∧ ∀ p ∈ T.tabs, p.1 = Pt → p.2 = X.env.qual ++ "<lambda>"
  bl : ∀ x ∈ P.bl, X.mg x = none
  call : ∀ f x, pget f P.fn = some x → CallOk X T x (cf f)
  glob : ∀ g x w, pget g P.gl = some x → pget g G.glob = some w → ∃ u v, X.mg x = some u ∧ RelV v u ∧ ∀ Φ ρ, VR X.K T Φ ρ v w
/-! ### the pieces -/
/-- what implies a reading -/
theorem pe_of {e : Expr} {t t' : TE} (h : PE X e t) (f : ∀ σ H Q, t' σ H Q → t σ H Q) : PE X e t' := ⟨fun pins s σ H Q I q => h.run pins s σ H Q I (f σ H Q q)⟩
theorem pt_of {e : Expr} {t t' : TT} (h : PT X e t) (f : ∀ σ H Q, t' σ H Q → t σ H Q) : PT X e t' := ⟨fun pins s σ H Q I q => h.run pins s σ H Q I (f σ H Q q)⟩
theorem pa_of {e : List Expr} {t t' : TA} (h : PA X e t) (f : ∀ σ H Q, t' σ H Q → t σ H Q) : PA X e t' := ⟨fun pos pins s σ H Q I q => h.run pos pins s σ H Q I (f σ H Q q)⟩
theorem pi_of {e t : Expr} {w w' : L2.TI} (h : PI X t e w) (f : ∀ σ H Q, w' σ H Q → w σ H Q) : PI X t e w' := ⟨fun pins s σ H Q I q => h.run pins s σ H Q I (f σ H Q q)⟩
theorem star_cons {l : Expr} {ls : List Expr} {env : PySem.Env} (h : starB l = false) : starEach (l :: ls) env = (false, eval l env) :: starEach ls env := by
  cases l <;> first | rfl | (simp [starB] at h)
theorem snd_var (b : Blk c X) {i : Nat} {x : Str} {p : Pos} {G : Prog} {cf : CF} (h1 : c.N[i]? = some x) (h2 : visB c.sc x = true) (h3 : (x == ("__debug__" : Str)) = false) (h4 : (x == ("__classdict__" : Str)) = false) : PE X (.Name x p) (RE X.K T (evE G cf (.var i))) := by
  refine pe_of (pe_var (i := i) (by rw [b.N]; exact h1) (by rw [b.sc]; exact vis_of h2) h3 h4) fun σ H Q h => ?_
  obtain ⟨Φ, ρ, env, S, er, rel, p⟩ := h
  simp only [evE] at p
  split at p
  · rename_i w e
    obtain ⟨v, hv, vr⟩ := er.2 i w e
    exact ⟨v, hv, EndE.now p rel vr⟩
  · exact p.elim
theorem snd_const {v : V} {w : W} {e : Expr} {m : Env → Sto → Res W} (hm : ∀ env S, m env S = .ok w S) (h : PE X e (tC v)) (hv : ∀ Φ ρ, VR X.K T Φ ρ v w) : PE X e (RE X.K T m) := by
  refine pe_of h fun σ H Q h => ?_
  obtain ⟨Φ, ρ, env, S, er, rel, p⟩ := h
  rw [hm] at p
  exact EndE.now p rel (hv _ _)
theorem snd_op2 {a b e : Expr} {ma mb : Env → Sto → Res W} {g : W → W → Sto → Res W} (h : PE X e (tOp (R2I X.K T g) (RE X.K T ma) (RE X.K T mb))) :
    PE X e (RE X.K T fun env S => (ma env S).bind fun x S => (mb env S).bind fun y S => g x y S) := by
  refine pe_of h fun σ H Q q => ?_
  obtain ⟨Φ, ρ, env, S, er, rel, p⟩ := q
  exact ⟨Φ, ρ, env, S, er, rel, (Pst.bind p).mono fun x S1 p1 Φ1 ρ1 v H1 le1 rel1 vx => ⟨Φ1, ρ1, env, S1, er.le le1, rel1, (Pst.bind p1).mono fun y S2 p2 Φ2 ρ2 u H2 le2 rel2 vy => ⟨Φ2, ρ2, S2, x, y, rel2, vx.le le2, vy, p2.mono fun _ _ q => (q.le le1).le le2⟩⟩⟩
theorem snd_seq {es : List Expr} {e : Expr} {ms : Env → Sto → Res (List W)} {g : List W → Sto → Res W} {t : TA → TE} (h : PE X e (t (RA X.K T ms)))
    (hg : ∀ σ H Q, (RA X.K T ms σ H fun vs H1 => ∃ Φ ρ S ws, Rel X.K T Φ ρ H1 S ∧ VRs X.K T Φ ρ vs ws ∧ Pst (g ws S) (EndE X.K T Φ ρ H1 Q)) → t (RA X.K T ms) σ H Q) :
    PE X e (RE X.K T fun env S => (ms env S).bind fun ws S => g ws S) := by
  refine pe_of h fun σ H Q q => hg σ H Q ?_
  obtain ⟨Φ, ρ, env, S, er, rel, p⟩ := q
  exact ⟨Φ, ρ, env, S, er, rel, (Pst.bind p).mono fun ws S1 p1 Φ1 ρ1 vs H1 le1 rel1 vx => ⟨Φ1, ρ1, S1, ws, rel1, vx, p1.mono fun _ _ q => q.le le1⟩⟩
/-- the same of one expression -/
theorem snd_one {e : Expr} {ma : Env → Sto → Res W} {g : W → Env → Sto → Res W} {t : TE} (h : PE X e t)
    (hg : ∀ σ H Q, (RE X.K T ma σ H fun v H1 => ∃ Φ ρ env S w, EnvR X.K T Φ ρ σ env ∧ Rel X.K T Φ ρ H1 S ∧ VR X.K T Φ ρ v w ∧ Pst (g w env S) (EndE X.K T Φ ρ H1 Q)) → t σ H Q) :
    PE X e (RE X.K T fun env S => (ma env S).bind fun w S => g w env S) := by
  refine pe_of h fun σ H Q q => hg σ H Q ?_
  obtain ⟨Φ, ρ, env, S, er, rel, p⟩ := q
  exact ⟨Φ, ρ, env, S, er, rel, (Pst.bind p).mono fun ws S1 p1 Φ1 ρ1 vs H1 le1 rel1 vx => ⟨Φ1, ρ1, env, S1, ws, er.le le1, rel1, vx, p1.mono fun _ _ q => q.le le1⟩⟩
theorem snd_tup {es : List Expr} {ms : Env → Sto → Res (List W)} {k : Nat} {pos : Pos} (h : PA X es (RA X.K T ms)) : PE X (.Tuple es k pos) (RE X.K T fun env S => (ms env S).bind fun ws S => mkT ws S) := by
  refine snd_seq (es := es) (t := tTup) (pe_tup h) fun σ H Q q => ?_
  obtain ⟨Φ, ρ, env, S, er, rel, p⟩ := q
  refine ⟨Φ, ρ, env, S, er, rel, p.mono fun ws S1 p1 Φ1 ρ1 vs H1 le1 rel1 vx => ?_⟩
  obtain ⟨Φ2, ρ2, S2, ws2, rel2, vx2, p2⟩ := p1 Φ1 ρ1 vs H1 le1 rel1 vx
  exact mkT_ok rel2 vx2 p2
theorem snd_lst {es : List Expr} {ms : Env → Sto → Res (List W)} {m : Bool} {pos : Pos} (h : PA X es (RA X.K T ms)) : PE X (.List es pos) (RE X.K T fun env S => (ms env S).bind fun ws S => mkL m ws S) := by
  refine snd_seq (es := es) (t := tLst) (pe_lst h) fun σ H Q q => ?_
  obtain ⟨Φ, ρ, env, S, er, rel, p⟩ := q
  refine ⟨Φ, ρ, env, S, er, rel, p.mono fun ws S1 p1 Φ1 ρ1 vs H1 le1 rel1 vx => ?_⟩
  obtain ⟨Φ2, ρ2, S2, ws2, rel2, vx2, p2⟩ := p1 Φ1 ρ1 vs H1 le1 rel1 vx
  exact mkL_ok rel2 vx2 p2
theorem snd_nil : PA X [] (RA X.K T fun _ S => .ok [] S) := by
  refine pa_of pa_nil fun σ H Q q => ?_
  obtain ⟨Φ, ρ, env, S, er, rel, p⟩ := q
  exact p _ _ _ _ .refl rel .nil
theorem snd_cons {e : Expr} {es : List Expr} {ma : Env → Sto → Res W} {ms : Env → Sto → Res (List W)} (hs : starB e = false) (ha : PE X e (RE X.K T ma)) (hr : PA X es (RA X.K T ms)) :
    PA X (e :: es) (RA X.K T fun env S => (ma env S).bind fun w S => (ms env S).bind fun ws S => .ok (w :: ws) S) := by
  refine pa_of (pa_cons ha hr (star_cons hs)) fun σ H Q q => ?_
  obtain ⟨Φ, ρ, env, S, er, rel, p⟩ := q
  exact ⟨Φ, ρ, env, S, er, rel, (Pst.bind p).mono fun x S1 p1 Φ1 ρ1 v H1 le1 rel1 vx => ⟨Φ1, ρ1, env, S1, er.le le1, rel1, (Pst.bind p1).mono fun y S2 p2 Φ2 ρ2 u H2 le2 rel2 vy => p2 _ _ _ _ (le1.trans le2) rel2 (.cons (vx.le le2) vy)⟩⟩
theorem snd_bin {a b : Expr} {ma mb : Env → Sto → Res W} {op : Bop} {m : Bool} {pos : Pos} (ha : PE X a (RE X.K T ma)) (hb : PE X b (RE X.K T mb)) :
    PE X (.BinOp a (opOf op) b pos) (RE X.K T fun env S => (ma env S).bind fun x S => (mb env S).bind fun y S => binop op m x y S) := snd_op2 (a := a) (b := b) (pe_op (binop_ok op m) ha hb)
theorem snd_cmp {a b : Expr} {ma mb : Env → Sto → Res W} {op : Cop} {pos : Pos} (hu : X.A.units + 66 < cLine) (ha : PE X a (RE X.K T ma)) (hb : PE X b (RE X.K T mb)) (hm : behindInMarks (cmpOf op) b = false) :
    PE X (.Compare a [cmpOf op] [b] pos) (RE X.K T fun env S => (ma env S).bind fun x S => (mb env S).bind fun y S => (cmpop op x y S).bind fun k S => .ok (.bl k) S) :=
  snd_op2 (g := fun x y S => (cmpop op x y S).bind fun k S => .ok (.bl k) S) (a := a) (b := b) (pe_cmpR (cmpop_ok (by omega) op) ha hb hm)
theorem snd_sub {a b : Expr} {ma mb : Env → Sto → Res W} {pos : Pos} (hu : X.A.units + 66 < cLine) (ha : PE X a (RE X.K T ma)) (hb : PE X b (RE X.K T mb)) (hm : plainIxB b = true) :
    PE X (.Subscript a b pos) (RE X.K T fun env S => (ma env S).bind fun x S => (mb env S).bind fun y S => subs x y S) :=
  snd_op2 (g := subs) (a := a) (b := b) (pe_ix (subs_ok (by omega)) ha hb (fun o i => by cases b <;> first | rfl | (simp [plainIxB] at hm)))
/-- a call of one expression -/
theorem snd_neg {a : Expr} {ma : Env → Sto → Res W} {pos : Pos} (ha : PE X a (RE X.K T ma)) : PE X (.UnaryOp .USub a pos) (RE X.K T fun env S => (ma env S).bind fun x S => match x with
    | .int i => .ok (.int (-i)) S
    | _ => .stuck) := by
  refine snd_one (g := fun x _ S => match x with | .int i => .ok (.int (-i)) S | _ => .stuck) (pe_un un_neg ha) fun σ H Q q => ?_
  obtain ⟨Φ, ρ, env, S, er, rel, p⟩ := q
  refine ⟨Φ, ρ, env, S, er, rel, p.mono fun ws S1 p1 Φ1 ρ1 v H1 le1 rel1 vx => ?_⟩
  obtain ⟨Φ2, ρ2, env2, S2, w2, er2, rel2, vx2, p2⟩ := p1 Φ1 ρ1 v H1 le1 rel1 vx
  split at p2
  · cases vx2
    exact ⟨_, rfl, EndE.now p2 rel2 (.int _)⟩
  · exact p2.elim
/-! ### truth, and, or, not -/
theorem snd_and {a b : Expr} {rest : List Expr} {ma mb : Env → Sto → Res W} {pos : Pos} (ha : PE X a (RE X.K T ma)) (hb : PE X (.BoolOp .And (b :: rest) pos) (RE X.K T mb)) :
    PE X (.BoolOp .And (a :: b :: rest) pos) (RE X.K T fun env S => (ma env S).bind fun x S => match truthy S x with
      | some true => mb env S
      | some false => .ok x S
      | none => .stuck) := by
  refine snd_one (g := fun x env S => match truthy S x with | some true => mb env S | some false => .ok x S | none => .stuck) (pe_andT ha hb) fun σ H Q q => ?_
  obtain ⟨Φ, ρ, env, S, er, rel, p⟩ := q
  refine ⟨Φ, ρ, env, S, er, rel, p.mono fun ws S1 p1 Φ1 ρ1 v H1 le1 rel1 vx => ?_⟩
  obtain ⟨Φ2, ρ2, env2, S2, w2, er2, rel2, vx2, p2⟩ := p1 Φ1 ρ1 v H1 le1 rel1 vx
  split at p2
  · rename_i e
    exact ⟨true, tru_of rel2 vx2 e, by rw [if_pos rfl]; exact ⟨Φ2, ρ2, env2, S2, er2, rel2, p2⟩⟩
  · rename_i e
    exact ⟨false, tru_of rel2 vx2 e, by rw [if_neg (by decide)]; exact EndE.now p2 rel2 vx2⟩
  · exact p2.elim
theorem snd_or {a b : Expr} {rest : List Expr} {ma mb : Env → Sto → Res W} {pos : Pos} (ha : PE X a (RE X.K T ma)) (hb : PE X (.BoolOp .Or (b :: rest) pos) (RE X.K T mb)) :
    PE X (.BoolOp .Or (a :: b :: rest) pos) (RE X.K T fun env S => (ma env S).bind fun x S => match truthy S x with
      | some true => .ok x S
      | some false => mb env S
      | none => .stuck) := by
  refine snd_one (g := fun x env S => match truthy S x with | some true => .ok x S | some false => mb env S | none => .stuck) (pe_orT ha hb) fun σ H Q q => ?_
  obtain ⟨Φ, ρ, env, S, er, rel, p⟩ := q
  refine ⟨Φ, ρ, env, S, er, rel, p.mono fun ws S1 p1 Φ1 ρ1 v H1 le1 rel1 vx => ?_⟩
  obtain ⟨Φ2, ρ2, env2, S2, w2, er2, rel2, vx2, p2⟩ := p1 Φ1 ρ1 v H1 le1 rel1 vx
  split at p2
  · rename_i e
    exact ⟨true, tru_of rel2 vx2 e, by rw [if_pos rfl]; exact EndE.now p2 rel2 vx2⟩
  · rename_i e
    exact ⟨false, tru_of rel2 vx2 e, by rw [if_neg (by decide)]; exact ⟨Φ2, ρ2, env2, S2, er2, rel2, p2⟩⟩
  · exact p2.elim
theorem snd_not {a : Expr} {ma : Env → Sto → Res W} {pos : Pos} (ha : PE X a (RE X.K T ma)) : PE X (.UnaryOp .Not a pos) (RE X.K T fun env S => (ma env S).bind fun x S => match truthy S x with
    | some k => .ok (.bl !k) S
    | none => .stuck) := by
  refine snd_one (g := fun x _ S => match truthy S x with | some k => .ok (.bl !k) S | none => .stuck) (pe_notT ha) fun σ H Q q => ?_
  obtain ⟨Φ, ρ, env, S, er, rel, p⟩ := q
  refine ⟨Φ, ρ, env, S, er, rel, p.mono fun ws S1 p1 Φ1 ρ1 v H1 le1 rel1 vx => ?_⟩
  obtain ⟨Φ2, ρ2, env2, S2, w2, er2, rel2, vx2, p2⟩ := p1 Φ1 ρ1 v H1 le1 rel1 vx
  split at p2
  · rename_i k e
    exact ⟨k, tru_of rel2 vx2 e, EndE.now p2 rel2 (.bl _)⟩
  · exact p2.elim
/-- a value's truth, of the evaluator -/
def tr (m : Env → Sto → Res W) : Env → Sto → Res Bool := fun env S => (m env S).bind fun w S => match truthy S w with
  | some b => .ok b S
  | none => .stuck
theorem snd_ite {t a b : Expr} {mt ma mb : Env → Sto → Res W} {pos : Pos} (ht : PT X t (RT X.K T (tr mt))) (ha : PE X a (RE X.K T ma)) (hb : PE X b (RE X.K T mb)) :
    PE X (.IfExp t a b pos) (RE X.K T fun env S => (mt env S).bind fun x S => match truthy S x with
      | some true => ma env S
      | some false => mb env S
      | none => .stuck) := by
  refine pe_of (pe_ifExp ht ha hb) fun σ H Q q => ?_
  obtain ⟨Φ, ρ, env, S, er, rel, p⟩ := q
  refine ⟨Φ, ρ, env, S, er, rel, ?_⟩
  have p := Pst.bind p
  unfold tr
  cases e : mt env S with
  | ok w S1 =>
    rw [e] at p
    have p : Pst (match truthy S1 w with | some true => ma env S1 | some false => mb env S1 | none => .stuck) _ := p
    rw [bind_ok]
    cases e2 : truthy S1 w with
    | none => rw [e2] at p; exact p.elim
    | some k =>
      rw [e2] at p
      refine fun Φ1 ρ1 H1 le1 rel1 => ?_
      cases k with
      | true => rw [if_pos rfl]; exact ⟨Φ1, ρ1, env, S1, er.le le1, rel1, p.mono fun _ _ q => q.le le1⟩
      | false => rw [if_neg (by decide)]; exact ⟨Φ1, ρ1, env, S1, er.le le1, rel1, p.mono fun _ _ q => q.le le1⟩
  | ex _ _ _ => rw [e] at p; exact p.elim
  | stuck => rw [e] at p; exact p.elim
/-! ### calls -/
theorem star_any {ls : List Expr} {env : PySem.Env} {pos : Pos} (h : ∀ l ∈ ls, starB l = false) : (backTo pos (starEach ls env)).any (·.1) = false := by
  induction ls with
  | nil => rfl
  | cons l ls ih =>
    rw [star_cons (h l (by simp))]
    show (false || (backTo pos (starEach ls env)).any (·.1)) = false
    rw [ih fun a ha => h a (by simp [ha])]
    rfl
theorem snd_call {x : Str} {p pos : Pos} {e : Expr} {es : List Expr} {ms : Env → Sto → Res (List W)} {g : List W → Sto → Res W} (hg : Gl X x) (hd : (x == ("__debug__" : Str)) = false) (C : CallOk X T x g) (hs : ∀ l ∈ e :: es, starB l = false) (h : PA X (e :: es) (RA X.K T ms)) :
    PE X (.Call (.Name x p) (e :: es) [] pos) (RE X.K T fun env S => (ms env S).bind fun ws S => g ws S) := by
  obtain ⟨a, fd, ps, k, hm, hk, hb, F, hr, ar⟩ := C.ex
  refine pe_of (pe_call F hr hg hm hk hb .nil pass0 h hd (star_cons (hs e (by simp))) (star_any fun l hl => hs l (by simp [hl]))) fun σ H Q q => ?_
  obtain ⟨Φ, ρ, env, S, er, rel, p⟩ := q
  refine ⟨Φ, ρ, env, S, er, rel, (Pst.bind p).mono fun ws S1 p1 Φ1 ρ1 vs H1 le1 rel1 vx => ?_⟩
  show spI X.K T g ps.length (vs ++ []) H1 Q E0
  rw [List.append_nil]
  exact ⟨by rw [vx.length]; exact ar _ _ _ p1, Φ1, ρ1, ws, S1, vx, rel1, p1.mono fun _ _ q => q.le le1⟩
theorem snd_call0 {x : Str} {p pos : Pos} {g : List W → Sto → Res W} (hg : Gl X x) (hd : (x == ("__debug__" : Str)) = false) (C : CallOk X T x g) :
    PE X (.Call (.Name x p) [] [] pos) (RE X.K T fun env S => g [] S) := by
  obtain ⟨a, fd, ps, k, hm, hk, hb, F, hr, ar⟩ := C.ex
  refine pe_of (pe_call0 F hr hg hm hk hb .nil pass0 hd) fun σ H Q q => ?_
  obtain ⟨Φ, ρ, env, S, er, rel, p⟩ := q
  exact ⟨ar _ _ _ p, Φ, ρ, [], S, .nil, rel, p⟩
/-! ### built-in functions -/
theorem bltB_of {P : Txt} {n : Str} {f : Expr} (h : bltB P c n f = true) : ∃ p, f = .Name n p ∧ n ∈ P.bl ∧ glB c.sc n = true := by
  cases f <;> first | (exfalso; simp [bltB] at h; done) | skip
  rename_i x p
  have h' : (decide (x = n) = true ∧ P.bl.contains n = true) ∧ glB c.sc n = true := by simpa only [bltB, Bool.and_eq_true] using h
  have e : x = n := of_decide_eq_true h'.1.1
  subst e
  exact ⟨p, rfl, by simpa using h'.1.2, h'.2⟩
theorem gl_of (b : Blk c X) {x : Str} (h : glB c.sc x = true) : Gl X x ∧ (x == ("__debug__" : Str)) = false ∧ x ≠ "__name__" := by
  simp only [glB, Bool.and_eq_true, decide_eq_true_eq, Bool.not_eq_true'] at h
  refine ⟨?_, h.1.2, fun z => ?_⟩
  · show X.env.scope.names.lookup x = _
    rw [b.sc]; exact h.1.1
  · have := h.2
    rw [z] at this
    simp at this
theorem snd_blt1 {x : Str} {p pos : Pos} {e : Expr} {ma : Env → Sto → Res W} {id : String} {g : List W → Sto → Res W} (hr : CallR X (.builtin id) (RCI X.K T g)) (hg : Gl X x) (hm : X.mg x = none) (hv : bootBuiltins x = some (.builtin id)) (hn : x ≠ "__name__") (hd : (x == ("__debug__" : Str)) = false)
    (hs : starB e = false) (ha : PE X e (RE X.K T ma)) : PE X (.Call (.Name x p) [e] [] pos) (RE X.K T fun env S => (ma env S).bind fun w S => g [w] S) := by
  refine snd_one (g := fun w _ S => g [w] S) (pe_callB hr hg hm hv (pa_cons ha pa_nil (star_cons hs)) hn hd (star_cons hs) rfl) fun σ H Q q => ?_
  obtain ⟨Φ, ρ, env, S, er, rel, p⟩ := q
  refine ⟨Φ, ρ, env, S, er, rel, p.mono fun ws S1 p1 Φ1 ρ1 v H1 le1 rel1 vx => ?_⟩
  obtain ⟨Φ2, ρ2, env2, S2, w2, er2, rel2, vx2, p2⟩ := p1 Φ1 ρ1 v H1 le1 rel1 vx
  exact ⟨Φ2, ρ2, S2, [w2], rel2, .cons vx2 .nil, p2⟩
theorem snd_ty1 {x : Str} {p pos : Pos} {e : Expr} {ma : Env → Sto → Res W} {id : String} {g : List W → Sto → Res W} (hr : CallR X (.type id) (RCI X.K T g)) (hg : Gl X x) (hm : X.mg x = none) (hv : bootBuiltins x = some (.type id)) (hn : x ≠ "__name__") (hd : (x == ("__debug__" : Str)) = false)
    (hs : starB e = false) (ha : PE X e (RE X.K T ma)) : PE X (.Call (.Name x p) [e] [] pos) (RE X.K T fun env S => (ma env S).bind fun w S => g [w] S) := by
  refine snd_one (g := fun w _ S => g [w] S) (pe_callTy hr hg hm hv (pa_cons ha pa_nil (star_cons hs)) hn hd (star_cons hs) rfl) fun σ H Q q => ?_
  obtain ⟨Φ, ρ, env, S, er, rel, p⟩ := q
  refine ⟨Φ, ρ, env, S, er, rel, p.mono fun ws S1 p1 Φ1 ρ1 v H1 le1 rel1 vx => ?_⟩
  obtain ⟨Φ2, ρ2, env2, S2, w2, er2, rel2, vx2, p2⟩ := p1 Φ1 ρ1 v H1 le1 rel1 vx
  exact ⟨Φ2, ρ2, S2, [w2], rel2, .cons vx2 .nil, p2⟩
theorem snd_blt2 {x : Str} {p pos : Pos} {e e2 : Expr} {ma mb : Env → Sto → Res W} {id : String} {g : List W → Sto → Res W} (hr : CallR X (.builtin id) (RCI X.K T g)) (hg : Gl X x) (hm : X.mg x = none) (hv : bootBuiltins x = some (.builtin id)) (hn : x ≠ "__name__") (hd : (x == ("__debug__" : Str)) = false)
    (hs : starB e = false) (hs2 : starB e2 = false) (ha : PE X e (RE X.K T ma)) (hb : PE X e2 (RE X.K T mb)) : PE X (.Call (.Name x p) [e, e2] [] pos) (RE X.K T fun env S => (ma env S).bind fun w S => (mb env S).bind fun u S => g [w, u] S) := by
  refine pe_of (pe_callB hr hg hm hv (pa_cons ha (pa_cons hb pa_nil (star_cons hs2)) (star_cons hs)) hn hd (star_cons hs) (star_any fun l hl => by have : l = e2 := by simpa using hl
                                                                                                                                                   rw [this]; exact hs2)) fun σ H Q q => ?_
  obtain ⟨Φ, ρ, env, S, er, rel, p⟩ := q
  exact ⟨Φ, ρ, env, S, er, rel, (Pst.bind p).mono fun x S1 p1 Φ1 ρ1 v H1 le1 rel1 vx => ⟨Φ1, ρ1, env, S1, er.le le1, rel1, (Pst.bind p1).mono fun y S2 p2 Φ2 ρ2 u H2 le2 rel2 vy => ⟨Φ2, ρ2, S2, [x, y], rel2, .cons (vx.le le2) (.cons vy .nil), p2.mono fun _ _ q => (q.le le1).le le2⟩⟩⟩
theorem base_of {o : Expr} {n : Str} {env : PySem.Env} (h : baseB o = true) : attributeBase o n env (eval o env) = eval o env := by
  cases o <;> first | rfl | skip
  rename_i f as ks p
  cases f <;> first | rfl | skip
  cases as <;> first | rfl | skip
  cases ks <;> first | rfl | (simp [baseB] at h)
theorem tyV_lst {Φ : Hp} {ρ : List Addr} {H : Hp} {S : Sto} (rel : Rel X.K T Φ ρ H S) {i : Nat} {l : List W} {v : V} (q : VR X.K T Φ ρ v (.ref i)) (e : S[i]? = some (.lst l)) : tyV X.K "list" v H := by
  obtain ⟨a, vs, rfl, _, h2, _⟩ := lst_ref rel q e
  exact .inl ⟨rfl, _, .inl (.inl h2)⟩
theorem bmOk_lst {i : Nat} {S : Sto} (h : bmOk .append (.ref i) S = true) : ∃ l, S[i]? = some (.lst l) := by
  simp only [bmOk] at h
  split at h
  · exact ⟨_, by assumption⟩
  · cases h
theorem snd_append {o e : Expr} {mo ma : Env → Sto → Res W} {m : Bool} {apos cpos : Pos} (hb : baseB o = true) (hl : (apos.endLine == cpos.line) = true) (hs : starB e = false) (ho : PE X o (RE X.K T mo)) (ha : PE X e (RE X.K T ma)) :
    PE X (.Call (.Attribute o "append" apos) [e] [] cpos) (RE X.K T fun env S => (mo env S).bind fun x S => if bmOk .append x S = true then (ma env S).bind fun w S => bmeth .append m x [w] S else .stuck) := by
  refine pe_of (pe_bm PySem.F.plainAttrs_list PySem.F.slot_list_append PySem.F.type_list_append (append_ok (T := T) m) ho (pa_cons ha pa_nil (star_cons hs)) (base_of hb) (by rw [star_cons hs]; rfl) hl (star_cons hs) rfl) fun σ H Q q => ?_
  obtain ⟨Φ, ρ, env, S, er, rel, p⟩ := q
  refine ⟨Φ, ρ, env, S, er, rel, (Pst.bind p).mono fun x S1 p1 Φ1 ρ1 v H1 le1 rel1 vx => ?_⟩
  split at p1
  · rename_i hk
    cases x <;> first | (exfalso; simp [bmOk] at hk; done) | skip
    rename_i i
    obtain ⟨l, e⟩ := bmOk_lst hk
    refine ⟨tyV_lst rel1 vx e, Φ1, ρ1, env, S1, er.le le1, rel1, (Pst.bind p1).mono fun y S2 p2 Φ2 ρ2 u H2 le2 rel2 vy => ⟨Φ2, ρ2, S2, .ref i, [y], rel2, vx.le le2, .cons vy .nil, p2.mono fun _ _ q => (q.le le1).le le2⟩⟩
  · exact p1.elim
/-! ### slices -/
def ROv (K : PySem.W.Frag) (T : Tab) (m : Env → Sto → Res (Option W)) : TO := fun σ H R => ∃ Φ ρ env S, EnvR K T Φ ρ σ env ∧ Rel K T Φ ρ H S ∧ Pst (m env S) fun o S' => (∃ z, optI o = some z) ∧ ∀ Φ' ρ' H' z, Le Φ ρ H Φ' ρ' H' → Rel K T Φ' ρ' H' S' → optI o = some z → R z H'
theorem po_of {e : Option Expr} {t t' : TO} (h : PO X e t) (f : ∀ σ H Q, t' σ H Q → t σ H Q) : PO X e t' := ⟨fun pins s σ H Q I q => h.run pins s σ H Q I (f σ H Q q)⟩
theorem snd_ono : PO X none (ROv X.K T fun _ S => .ok none S) := by
  refine po_of po_none fun σ H Q q => ?_
  obtain ⟨Φ, ρ, env, S, er, rel, p⟩ := q
  exact p.2 _ _ _ none .refl rel rfl
theorem snd_oso {e : Expr} {m : Env → Sto → Res W} (h : PE X e (RE X.K T m)) : PO X (some e) (ROv X.K T fun env S => (m env S).bind fun w S => .ok (some w) S) := by
  refine po_of (po_some h) fun σ H Q q => ?_
  obtain ⟨Φ, ρ, env, S, er, rel, p⟩ := q
  refine ⟨Φ, ρ, env, S, er, rel, (Pst.bind p).mono fun w S1 p1 Φ1 ρ1 v H1 le1 rel1 vx => ?_⟩
  obtain ⟨⟨z, hz⟩, k⟩ := p1
  cases w <;> first | (exfalso; simp [optI] at hz; done) | skip
  cases vx
  exact ⟨_, rfl, k _ _ _ _ le1 rel1 rfl⟩
theorem optI_some {o : Option W} {z : Option Int} (h : optI o = some z) : o = z.map .int := by
  cases o with
  | none => cases h; rfl
  | some w => cases w <;> first | (simp [optI] at h; done) | (simp [optI] at h; subst h; rfl)
theorem snd_slc {e : Expr} {lo hi : Option Expr} {ma : Env → Sto → Res W} {ml mh : Env → Sto → Res (Option W)} {m : Bool} {p2 pos : Pos} (ha : PE X e (RE X.K T ma)) (hl : PO X lo (ROv X.K T ml)) (hh : PO X hi (ROv X.K T mh)) :
    PE X (.Subscript e (.Slice lo hi none p2) pos) (RE X.K T fun env S => (ma env S).bind fun x S => (ml env S).bind fun l S => (mh env S).bind fun h S => slice m x l h S) := by
  refine pe_of (pe_slice (slice_ok (T := T) m) ha hl hh) fun σ H Q q => ?_
  obtain ⟨Φ, ρ, env, S, er, rel, p⟩ := q
  refine ⟨Φ, ρ, env, S, er, rel, (Pst.bind p).mono fun x S1 p1 Φ1 ρ1 v H1 le1 rel1 vx => ⟨Φ1, ρ1, env, S1, er.le le1, rel1, (Pst.bind p1).mono fun l S2 p2 => ?_⟩⟩
  have h1 : ∃ z, optI l = some z := by
    have p3 := Pst.bind p2
    cases e : mh env S2 with
    | ok h S3 =>
      rw [e] at p3
      have p3 : Pst (slice m x l h S3) _ := p3
      unfold slice at p3
      split at p3
      · rename_i a b e1 e2
        exact ⟨_, e1⟩
      · exact p3.elim
    | ex _ _ _ => rw [e] at p3; exact p3.elim
    | stuck => rw [e] at p3; exact p3.elim
  refine ⟨h1, fun Φ2 ρ2 H2 z le2 rel2 hz => ⟨Φ2, ρ2, env, S2, (er.le le1).le le2, rel2, (Pst.bind p2).mono fun h S3 p3 => ?_⟩⟩
  have h2 : ∃ z, optI h = some z := by
    have p3 := p3
    unfold slice at p3
    split at p3
    · rename_i a b e1 e2
      exact ⟨_, e2⟩
    · exact p3.elim
  refine ⟨h2, fun Φ3 ρ3 H3 y le3 rel3 hy => ⟨Φ3, ρ3, S3, x, rel3, (vx.le le2).le le3, ?_⟩⟩
  rw [← optI_some hz, ← optI_some hy]
  exact p3.mono fun _ _ q => ((q.le le1).le le2).le le3
end
end KF


set_option Elab.async false
set_option linter.all false
set_option autoImplicit false
set_option maxRecDepth 100000
set_option maxHeartbeats 1000000
namespace KF
open PySem PySem.Spec PyProof.Rows L2
theorem undup_mem {α : Type} [DecidableEq α] {k : α} : ∀ {l : List α}, k ∈ undup l ↔ k ∈ l
  | [] => by simp [undup]
  | x :: l => by
    unfold undup
    by_cases h : x ∈ l
    · rw [if_pos h, undup_mem (l := l), List.mem_cons]
      exact ⟨.inr, fun q => q.elim (fun q => by rw [q]; exact h) id⟩
    · rw [if_neg h, List.mem_cons, List.mem_cons, undup_mem (l := l)]
theorem undup_nodup {α : Type} [DecidableEq α] : ∀ l : List α, (undup l).Nodup
  | [] => List.nodup_nil
  | x :: l => by
    unfold undup
    by_cases h : x ∈ l
    · rw [if_pos h]; exact undup_nodup l
    · rw [if_neg h]
      exact List.nodup_cons.mpr ⟨fun q => h (undup_mem.mp q), undup_nodup l⟩
theorem strs_eq : ∀ {l : List W} {ss : List Nm}, wstrs l = some ss → l = ss.map W.str
  | [], ss, h => by cases h; rfl
  | x :: l, ss, h => by
    cases x <;> first | (simp [wstrs] at h; done) | skip
    rename_i s
    simp only [wstrs] at h
    cases e : wstrs l with
    | none => rw [e] at h; cases h
    | some r =>
      rw [e] at h
      cases h
      rw [strs_eq e]
      rfl
theorem vrs_strs {K : PySem.W.Frag} {T : Tab} {Φ : Hp} {ρ : List Addr} : ∀ {ss : List Nm} {vs : List V}, VRs K T Φ ρ vs (ss.map W.str) → vs = (ss.map toStr).map V.str
  | [], _, h => by cases h; rfl
  | s :: ss, _, h => by
    cases h with
    | cons h1 h2 =>
      cases h1
      rw [vrs_strs h2]
      rfl
theorem len_undup {ss : List Nm} {L : List Str} (n : L.Nodup) (m : ∀ k, k ∈ L ↔ k ∈ ss.map toStr) : L.length = (undup ss).length := by
  have h1 : ((undup ss).map toStr).Nodup := by
    refine List.pairwise_map.mpr ((undup_nodup ss).imp fun {a b} h e => h (toStr_inj e))
  refine Nat.le_antisymm ?_ ?_
  · have := nodup_len (M := (undup ss).map toStr) n fun k hk => by
      obtain ⟨s, hs, rfl⟩ := List.mem_map.mp ((m k).mp hk)
      exact List.mem_map_of_mem (undup_mem.mpr hs)
    simpa using this
  · have := nodup_len (M := L) h1 fun k hk => by
      obtain ⟨s, hs, rfl⟩ := List.mem_map.mp hk
      exact (m _).mpr (List.mem_map_of_mem (undup_mem.mp hs))
    simpa using this
theorem pe_tyN {X : Cx} {x : Str} {n : String} {pos : Pos} (hg : Gl X x) (hm : X.mg x = none) (hv : bootBuiltins x = some (.type n)) (hn : x ≠ "__name__") (hd : (x == ("__debug__" : Str)) = false) : PE X (.Name x pos) (tC (.ty n)) :=
  ⟨fun _ _ _ H _ I h => ld_blt I hg hm hv ⟨.ty n, H, I, rfl, h⟩ hn hd⟩
section
variable {X : Cx} {T : Tab}
/-- len(set(a)), a a list of texts -/
theorem snd_lenSet {a : Expr} {ma : Env → Sto → Res W} {m : Bool} {p p2 q pos : Pos} (hc : X.calm = true) (hg : Gl X "len") (hm : X.mg "len" = none) (hg2 : Gl X "set") (hm2 : X.mg "set" = none) (hs : starB a = false) (ha : PE X a (RE X.K T ma)) :
    PE X (.Call (.Name "len" p) [.Call (.Name "set" p2) [a] [] q] [] pos) (RE X.K T fun env S => (ma env S).bind fun w S => bltin .lenSet m [w] S) := by
  have na : starEach [a] X.env = (false, eval a X.env) :: starEach [] X.env := star_cons hs
  refine ⟨fun pins s σ H Q I h => ?_⟩
  obtain ⟨Φ, ρ, env, S, er, rel, p0⟩ := h
  refine (Call_ (ld_blt I hg hm boot_len ?_))
  refine (PyProof.Rows.callWith_builtin1 (PyProof.Rows.args_cons ?_ rfl) rfl rfl)
  refine (Call_ (ld_blt I hg2 hm2 boot_set ?_))
  refine PyProof.Rows.callWith_type1 (PyProof.Rows.args_cons (thn (ha.run pins s σ H (fun v H1 => ∃ Φ1 ρ1 S1 w, Rel X.K T Φ1 ρ1 H1 S1 ∧ VR X.K T Φ1 ρ1 v w ∧ Le Φ ρ H Φ1 ρ1 H1 ∧ Pst (bltin .lenSet m [w] S1) (EndE X.K T Φ ρ H Q)) I
    ⟨Φ, ρ, env, S, er, rel, (Pst.bind p0).mono fun w S1 p1 Φ1 ρ1 v H1 le1 rel1 vx => ⟨Φ1, ρ1, S1, w, rel1, vx, le1, p1⟩⟩) fun v s1 ⟨x, H1, I1, r1, q1⟩ => PyProof.Rows.args_nil ?_) na) na rfl
  obtain ⟨Φ1, ρ1, S1, w, rel1, vx, le1, p1⟩ := q1
  unfold bltin at p1
  simp only at p1
  cases el : lstOf S1 w with
  | none => rw [el] at p1; exact p1.elim
  | some l =>
    rw [el] at p1
    simp only [Option.bind_some] at p1
    cases es : wstrs l with
    | none => rw [es] at p1; exact p1.elim
    | some ss =>
      rw [es] at p1
      simp only at p1
      split at p1
      · rename_i hb
        simp only [Bool.and_eq_true, decide_eq_true_eq] at hb
        obtain ⟨al, vs, rfl, hl, hv⟩ := lst_read rel1 vx el
        rw [strs_eq es] at hv
        have ev := vrs_strs hv
        subst ev
        obtain rfl : v = Value.ref al := r1
        obtain ⟨its, r, pl, hz⟩ := I1.list (.inl (.inl hl))
        have hls : (ss.map toStr).length ≤ 200 := by rw [List.length_map]; exact hb.2
        refine set_of_strs (I1.ok.hd hc) pl.isList (xs := ss.map toStr) (by simpa using strsAre_of r) (by unfold scanBound; omega) fun h' tk hS hk => ?_
        obtain ⟨L, nd, mem, o, eo, ep, t, ho, hex, hd, _, _, _, hf, hn⟩ := hS
        refine PyProof.Rows.args_nil ?_
        have I2 : Inv X pins σ H1 { s1 with heap := h', toks := tk } := I1.kept fun b o e => hk b o (Heap.lt_size e) e
        rw [List.take_length] at mem
        have eL := len_undup nd mem
        have lL : L.length ≤ 200 := Nat.le_trans (nodup_len nd fun k hk => (mem k).mp hk) hls
        exact call_len_set ho hex hd hf (by rw [hn] <;> omega) ⟨.int (undup ss).length, H1, I2.tok _, ⟨_, by rw [hn, eL]⟩, p1 Φ1 ρ1 _ H1 le1 rel1 (.int _)⟩
      · exact p1.elim
/-- isinstance(x, list) -/
theorem isList_ok (m : Bool) : CallR X (.builtin "isinstance") (fun vs H Q => ∃ Φ ρ S v x, Rel X.K T Φ ρ H S ∧ vs = [v, .ty "list"] ∧ VR X.K T Φ ρ v x ∧ Pst (bltin .isList m [x] S) (EndE X.K T Φ ρ H Q)) := by
  intro pins s σ H vs us Q I r h
  obtain ⟨Φ, ρ, S, v, x, rel, rfl, vx, p⟩ := h
  unfold bltin at p
  simp only at p
  split at p
  · rename_i l el
    obtain ⟨a, vl, rfl, hl, hv⟩ := lst_read rel vx el
    exact call_isi pins s σ H _ us Q I r ⟨_, _, _, _, true, rfl, .ty _, .base (.lst hl), kit_ty (by decide +kernel), EndE.now p rel (.bl true)⟩
  · split at p
    · rename_i l
      cases vx with
      | tup h1 h2 =>
        rename_i a vs
        rcases sameT rel.sub h1 with (h | ⟨o, h⟩) | h
        · exact call_isi pins s σ H _ us Q I r ⟨_, _, _, _, false, rfl, .ty _, .base (.tup h), kit_ty (by decide +kernel), EndE.now p rel (.bl false)⟩
        · exact call_isi pins s σ H _ us Q I r ⟨_, _, _, _, false, rfl, .ty _, .fTuple h, kit_ty (by decide +kernel), EndE.now p rel (.bl false)⟩
        · obtain ⟨o, its, n, hk, hc, _⟩ := h
          exact call_isi pins s σ H _ us Q I r ⟨_, _, _, _, false, rfl, .ty _, .kTuple hk hc, kit_ty (by decide +kernel), EndE.now p rel (.bl false)⟩
    · cases vx
      exact call_isi pins s σ H _ us Q I r ⟨_, _, _, _, false, rfl, .ty _, .base (.str _), kit_ty (by decide +kernel), EndE.now p rel (.bl false)⟩
    · exact p.elim
theorem snd_isList {e : Expr} {ma : Env → Sto → Res W} {m : Bool} {p p2 pos : Pos} (hg : Gl X "isinstance") (hm : X.mg "isinstance" = none) (hg2 : Gl X "list") (hm2 : X.mg "list" = none) (hs : starB e = false) (ha : PE X e (RE X.K T ma)) :
    PE X (.Call (.Name "isinstance" p) [e, .Name "list" p2] [] pos) (RE X.K T fun env S => (ma env S).bind fun w S => bltin .isList m [w] S) := by
  refine pe_of (pe_callB (isList_ok (T := T) m) hg hm (by decide +kernel) (pa_cons ha (pa_cons (pe_tyN hg2 hm2 (show bootBuiltins "list" = some (.type "list") by decide +kernel) (by decide) (by decide)) pa_nil (star_cons rfl)) (star_cons hs)) (by decide) (by decide) (star_cons hs) (star_any fun l hl => by
    have : l = .Name "list" p2 := by simpa using hl
    rw [this]; rfl)) fun σ H Q q => ?_
  obtain ⟨Φ, ρ, env, S, er, rel, p0⟩ := q
  exact ⟨Φ, ρ, env, S, er, rel, (Pst.bind p0).mono fun w S1 p1 Φ1 ρ1 v H1 le1 rel1 vx => ⟨Φ1, ρ1, S1, v, w, rel1, rfl, vx, p1.mono fun _ _ h => h.le le1⟩⟩
/-- sorted(l) -/
theorem sorted_ok (hu : X.A.units + 66 < cLine) (m : Bool) : CallR X (.builtin "sorted") (RCI X.K T (bltin .sorted m)) := by
  intro pins s σ H vs us Q I r h
  obtain ⟨Φ, ρ, S, xs, rel, vx, h⟩ := h
  unfold bltin at h
  split at h <;> first | exact h.elim | skip
  all_goals (rename_i e1; first | (cases e1; done) | skip)
  · cases vx with
    | cons v1 v2 =>
      cases v2
      split at h
      · rename_i l hl
        obtain ⟨a, vs, rfl, hs, hv⟩ := lst_read rel v1 hl
        unfold sorted at h
        split at h
        · rename_i hsr
          obtain rfl := Vals.ref1 r
          obtain ⟨its, rv, pl, hz⟩ := I.list (.inl (.inl hs))
          have I1 : Inv X pins σ H { s with heap := PySem.W.sortingHeap (PySem.W.copyHeap s.heap its) (s.heap.objs.size + 1) its, toks := s.toks } := I.kept fun b o e => PySem.W.sorting_copy_old e
          obtain ⟨SA, so⟩ := sorts_at (T := T) (A := X.A.in1.in1) (by show X.A.units + 1 + 1 + 62 < _; omega) I1 rel (srt_of hsr) hv rv
          obtain ⟨out, ro, vo⟩ := so its vs l rv hv rfl
          refine PySem.W.sorted_vals pl.isList SA (by rw [← rv.length]; exact hz) ?_
          obtain ⟨ep, he⟩ := sortedAll_at s.heap its (PySem.W.sortVals (PySem.W.dataKind (PySem.W.sortingHeap (PySem.W.copyHeap s.heap its) (s.heap.objs.size + 1) its) (toDL l)) false its its).toArray
          obtain ⟨hz2, q⟩ := mkL_ok rel vo h
          exact ⟨.ref _, upd H (s.heap.objs.size + 1) (.lst out), I.laid (t' := s.toks) (fun _ _ => sortedAll_old) (Nat.le_succ _) ⟨hz2, _, ep, ro, he⟩, rfl, q _ (I.hok.fresh (Nat.le_succ _))⟩
        · exact h.elim
      · exact h.elim
end
end KF


set_option Elab.async false
set_option linter.all false
set_option autoImplicit false
set_option maxRecDepth 100000
set_option maxHeartbeats 1000000
namespace KF
open PySem PySem.Spec PyProof.Rows L2 LamX NdefX
/-- one parameter, no defaults -/
abbrev arg1 (x : Str) (p : Pos) : Arguments := ⟨[], [⟨x, none, p⟩], none, [], [], none, []⟩
theorem dflt1 (x : Str) (p : Pos) (env : PySem.Env) : defaultsOf (arg1 x p) env = ([], []) := rfl
section
variable {P : Program} {w : World} {K : PySem.W.Frag} {mg : Str → Option Value} {base : Heap} {N ps fr : List Str} {F : NF} {f : Addr} {A : Around} {outer : List PySem.Env} {s : Shared} {H : Hp} {E : XK} {us : List Value} {vs : List V} {ws : List (Option V)}
/-- a lambda's object, called: its body in its own context -/
theorem lam_run {body : Expr} {pm ctv : Value} {te : TE} {Q : VK} (ho : s.heap.get? f = some (PySem.W.kla_obj F.name F.qual F.params body F.scope F.cl pm F.c ctv)) (hcd : s.heap.CodeRec (.ref F.c) F.qual) (S : NScope N ps fr F.scope)
    (hb : bindArgs (PySem.W.kla_fn F.name F.qual F.params body F.scope F.cl pm (.ref F.c) ctv) ⟨us, []⟩ = pure (ps.zip us)) (hd : A.handled = none) (hdp : A.depth < recursionLimit) (e0 : Env0 P w K mg base A outer s H) (hl : vs.length = ps.length) (r : Vals vs us)
    (C : CellsAt F.cl fr ws s.heap H) (hbody : PE (ncx CX0 P w K mg base N F f A outer s H E) body te) (hq : te (startF N vs ws) H Q) : codeAny (model P w) A (.call (.ref f) ⟨us, []⟩) (CR CX0 outer P w H s Q E) s := by
  have lim : s.heap.NoLimit := e0.mod.nolimit.keeps fun b o e => (e0.bs b o e).1
  refine PySem.W.kla_callFunE hdp ho rfl S.co S.gen rfl hcd ?_
  rw [hb]
  refine wpAny_pure (wpAny_newFunctionEnv S.nocell (fun ⟨n, _⟩ hy => S.par n (List.of_mem_zip hy).1) (fun h₁ hns hsb => ⟨lim.fresh _ hsb, ?_⟩) S.kind)
  show codeAny _ _ (.expr body (envF F f s.heap.objs.size)) _ _
  have kp : ∀ b o, s.heap.get? b = some o → h₁.get? b = some o := fun b o e => hsb.extBut b o (Nat.ne_of_lt (Heap.lt_size e)) (Heap.get?_push_of_some _ e)
  have I : Inv (ncx CX0 P w K mg base N F f A outer s H E) [] (startF N vs ws) H { s with heap := h₁, toks := s.toks + (ps.zip us).length } := inv_startN S hd e0 hl r C hns kp
  refine PySem.W.kla_codeExpr (wpAny_mono (hbody.run [] _ _ H Q I hq) (fun u s' hs => ?_) fun e s' hs => hs)
  obtain ⟨v, H', J, rv, q⟩ := hs
  exact ⟨v, H', J.os, J.bare, J.base, J.hok, rv, q⟩
end
theorem env0_in1 {X : Cx} {pins : List (Addr × Obj)} {σ : L2.St} {H : Hp} {s : Shared} (I : Inv X pins σ H s) : Env0 X.prog X.w X.K X.mg X.base X.A.in1.in1 X.stack s H := I.env0.in1.in1
theorem fn_not_locals {X : Cx} {pins : List (Addr × Obj)} {σ : L2.St} {H : Hp} {s : Shared} (I : Inv X pins σ H s) {f : Addr} {o : Obj} {fd : FuncData} (ho : s.heap.get? f = some o) (hd : o.data = .func fd) : f ≠ X.env.locals := fun z => by
  obtain ⟨m, ⟨o', es, ep, h1, h2, _⟩, _⟩ := I.loc
  rw [← z, ho] at h1
  cases h1
  rw [hd] at h2
  cases h2
theorem fs_of {X : Cx} (ok : X.Ok) {f : Addr} (h : f ∉ frs X.stack) : f ∉ X.fs := fun z => by
  rcases ok.stk with e | ⟨e, hf⟩
  · exact h (by rw [e]; exact z)
  · refine h ?_
    rw [e]
    show f ∈ (X.env :: X.outer).filterMap (·.frame)
    rw [List.filterMap_cons, hf]
    exact List.mem_cons_of_mem _ z
section
variable {X : Cx} {T : Tab} {c : Cc}
/-- the lambda's own slots: the parameter, what it captures, its own names -/
def lamE (env : Env) (js : List Nat) (ns : Nat) (w : W) : Env := some w :: (js.map (fun j => (env[j]?).join) ++ List.replicate ns none)
theorem lamE_rel {K : PySem.W.Frag} {Φ : Hp} {ρ : List Addr} {σ : L2.St} {env : Env} {js : List Nat} {ns : Nat} {v : V} {w : W} {N : List Str} (e : EnvR K T Φ ρ σ env) (q : VR K T Φ ρ v w) (hN : N.length = 1 + js.length + ns) : EnvR K T Φ ρ (startF N [v] (js.map (slotAt σ))) (lamE env js ns w) := by
  unfold startF lamE
  have e1 : N.length - [v].length - (js.map (slotAt σ)).length = ns := by simp; omega
  rw [e1]
  refine ⟨by simp, fun i x h => ?_⟩
  cases i with
  | zero =>
    simp at h
    subst h
    exact ⟨v, rfl, q⟩
  | succ i =>
    have h : (js.map (fun j => (env[j]?).join) ++ List.replicate ns none)[i]? = some (some x) := by simpa using h
    by_cases hi : i < js.length
    · rw [List.getElem?_append_left (by simpa using hi), List.getElem?_map, List.getElem?_eq_getElem hi] at h
      have h : (env[js[i]]?).join = some x := by simpa using h
      cases e2 : env[js[i]]? with
      | none => rw [e2] at h; cases h
      | some o =>
        rw [e2] at h
        have h : o = some x := h
        subst h
        obtain ⟨u, hu, ru⟩ := e.2 _ x e2
        refine ⟨u, ?_, ru⟩
        show (([v].map some) ++ _)[i + 1]? = _
        have : (js.map (slotAt σ) ++ List.replicate ns none)[i]? = some (some u) := by
          rw [List.getElem?_append_left (by simpa using hi), List.getElem?_map, List.getElem?_eq_getElem hi]
          show some (slotAt σ js[i]) = _
          rw [slotAt_of hu]
        simpa using this
    · rw [List.getElem?_append_right (by simpa using hi), List.getElem?_replicate] at h
      split at h <;> cases h
/-- sorted(l, key=lambda x: body) -/
theorem snd_sortk {l body : Expr} {x : Str} {ap p lpos kpos pos : Pos} {scope : Scope} {N' fr : List Str} {js : List Nat} {ns : Nat} {m : Bool} {ma : Env → Sto → Res W} {mk : Env → Sto → Res W} {cc Pt : Addr} (hu : X.A.units + 80 < cLine) (hdp : X.A.depth < recursionLimit)
    (hcalm : X.calm = true) (hg : Gl X "sorted") (hm : X.mg "sorted" = none) (hs : starB l = false) (ha : PE X l (RE X.K T ma))
    (TB : LamX.TabB X.base X.mg cc Pt) (hcode : X.env.code = .ref cc) (hT : (Pt, X.env.qual ++ "<lambda>") ∈ T.tabs) (hTu : ∀ p ∈ T.tabs, p.1 = Pt → p.2 = X.env.qual ++ "<lambda>")
    (S : NScope N' [x] fr scope) (hN' : N'.length = 1 + js.length + ns) (hB : ndefB X.env.scope scope fr = true) (hjs : js.map (fun j => X.N[j]?) = fr.map some)
    (hbind : ∀ (q : Str) (body : Expr) (scope : Scope) (cl : List (Str × Addr)) (pm cv ctv u : Value), bindArgs (PySem.W.kla_fn "<lambda>" q (arg1 x ap) body scope cl pm cv ctv) ⟨[u], []⟩ = pure [(x, u)])
    (hbody : ∀ (F : NF) (f : Addr) (s : Shared) (H : Hp), F.scope = scope → F.qual = X.env.qual ++ "<lambda>" → PE (ncx CX0 X.prog X.w X.K X.mg X.base N' F f X.A.in1.in1 X.stack s H E0) body (RE X.K T mk)) :
    PE X (.Call (.Name "sorted" p) [l] [⟨some "key", .Lambda (arg1 x ap) body scope lpos, kpos⟩] pos) (RE X.K T fun env S => (ma env S).bind fun a S => match lstOf S a with
      | some l => if l.length ≤ SZ then (keyLoop (fun w S => mk (lamE env js ns w) S) l S).bind fun ks S => if sortable ks then mkL m (sortW ks l) S else .stuck else .stuck
      | none => .stuck) := by
  refine ⟨fun pins s σ H Q I q => ?_⟩
  obtain ⟨Φ, ρ, env, S0, er, rel, p0⟩ := q
  refine wpAny_Call_Name_kw (ld_blt I hg hm (show bootBuiltins "sorted" = some (.builtin "sorted") by decide +kernel) ?_ (by decide) (by decide))
  have hfree := ndef_free hB
  refine PyProof.Rows.callWith_kw (thn ((pa_cons ha pa_nil (hs := star_cons hs)).run pos pins s σ H (fun us H1 => ∃ v Φ1 ρ1 S1 a, us = [v] ∧ Le Φ ρ H Φ1 ρ1 H1 ∧ Rel X.K T Φ1 ρ1 H1 S1 ∧ VR X.K T Φ1 ρ1 v a ∧ Pst (match lstOf S1 a with
      | some l => if l.length ≤ SZ then (keyLoop (fun w S => mk (lamE env js ns w) S) l S1).bind fun ks S => if sortable ks then mkL m (sortW ks l) S else .stuck else .stuck
      | none => .stuck) (EndE X.K T Φ ρ H Q)) I ⟨Φ, ρ, env, S0, er, rel, (Pst.bind p0).mono fun a S1 p1 Φ1 ρ1 v H1 le1 rel1 vx => ⟨v, Φ1, ρ1, S1, a, rfl, le1, rel1, vx, p1⟩⟩) fun us s1 ⟨vs, H1, I1, r1, q1⟩ => ?_) (by rw [star_cons hs] <;> rfl) (by rw [star_cons hs] <;> rfl) (by rfl) (by rfl)
  obtain ⟨v, Φ1, ρ1, S1, a, rfl, le1, rel1, vx, p1⟩ := q1
  show wpAny _ _ (evalAll ((do let v ← eval (.Lambda (arg1 x ap) body scope lpos) X.env; standAt pos; pure v) :: (backToKw pos (keywordEach [] X.env)).map (·.2))) _ _ s1
  refine wpAny_evalAll_cons (wpAny_bind (lam_make2 (T := T.tabs) I1 TB hcode hT hTu rel1.tb (dflt1 x ap X.env) (fun y hy e => (hfree y hy e).elim (fun z => I1.ok.has _ (.inl z)) fun z => I1.ok.has _ (.inr z)) fun f c' pm ctv H2 s2 I2 eN T2 hf hfn hfr hco => ?_))
  refine wpAny_bind (wpAny_standAt (wpAny_pure ?_))
  refine wpAny_evalAll_nil ?_
  have rel2 := rel1.ext eN T2
  have le2 : Le Φ ρ H Φ1 ρ1 H2 := le1.trans (Le.ext eN)
  obtain ⟨u, rfl, ru⟩ := vals1 r1
  split at p1
  · rename_i l hl
    split at p1
    · obtain ⟨al, vl, rfl, hsl, vwl⟩ := lst_read rel2 vx hl
      obtain rfl : u = Value.ref al := ru
      have hfL := fn_not_locals I2 hf rfl
      have hfs := fs_of I2.ok hfr
      have hc' : c' ∉ ρ1 := rel2.notin_ext hco
      have C : X.Ok → Caps X (cloFrom X.env.cells scope.names []) fr js := fun ok => Caps.made ok hfree (ndef_fr hB) hjs
      have turn : KTurn X T σ f (PySem.W.kla_obj "<lambda>" (X.env.qual ++ "<lambda>") (arg1 x ap) body scope (cloFrom X.env.cells scope.names []) pm c' ctv) (fun w S => mk (lamE env js ns w) S) Φ1 ρ1 H2 := by
        intro pins' s3 H3 Φ3 ρ3 S3 v3 w3 u3 Q3 I3 hf3 le3 rel3 vx3 ru3 p3
        have hco3 : H3 c' = some (CodeO c' (X.env.qual ++ "<lambda>")) := le3.fr c' _ hco codeO_ne hc'
        have cells := cells_of I3 (C I3.ok)
        have run := lam_run (P := X.prog) (w := X.w) (K := X.K) (mg := X.mg) (base := X.base) (A := X.A.in1.in1) (outer := X.stack) (N := N') (ps := [x]) (fr := fr) (s := s3) (H := H3) (te := RE X.K T mk) (F := ⟨"<lambda>", X.env.qual ++ "<lambda>", arg1 x ap, [], scope, cloFrom X.env.cells scope.names [], c'⟩) (E := E0) (Q := Q3) (us := [u3]) (vs := [v3]) hf3 (codeO_at I3.hok hco3) S (hbind _ _ _ _ _ _ _ _) (I3.ok.hd hcalm) hdp (env0_in1 I3) rfl (.cons ru3 .nil) cells (hbody _ f s3 H3 rfl rfl)
          ⟨Φ3, ρ3, lamE env js ns w3, S3, lamE_rel ((er.le le1).le (Le.trans (Le.ext eN) le3)) vx3 hN', rel3, p3⟩
        refine wpAny_call (codeAny_mono run fun r s' hq => ?_)
        cases r with
        | error e => exact (show False from hq).elim
        | ok fl =>
          cases fl with
          | ret u => exact I3.after hq
          | next => exact False.elim hq
          | brk => exact False.elim hq
          | cont => exact False.elim hq
      have p2 := Pst.bind p1
      exact ks_sorted (by omega) turn I2 hf hfn hfL hfs (fun v z => nomatch z) rel2 (.inl (.inl hsl)) vwl (p2.mono fun ks S q => by
        split at q
        · rename_i h1
          rw [if_pos h1]
          exact q.mono fun w S' h => h.le le2
        · exact q.elim)
    · exact p1.elim
  · exact p1.elim
end
end KF


set_option Elab.async false
set_option linter.all false
set_option autoImplicit false
set_option maxRecDepth 100000
set_option maxHeartbeats 1000000
namespace KF
open PySem PySem.Spec PyProof.Rows L2
section
variable {X : Cx} {T : Tab} {c : Cc}
/-! ### tests -/
theorem snd_tval {e : Expr} {ma : Env → Sto → Res W} (ha : PE X e (RE X.K T ma)) (he : ∀ whole, isTrue e X.env whole = (do let v ← whole; standAt e.pos; holding [v] (PySem.truthy v))) : PT X e (RT X.K T (tr ma)) := by
  refine pt_of (pt_truth ha he) fun σ H Q q => ?_
  obtain ⟨Φ, ρ, env, S, er, rel, p⟩ := q
  refine ⟨Φ, ρ, env, S, er, rel, (Pst.bind p).mono fun w S1 p1 Φ1 ρ1 v H1 le1 rel1 vx => ?_⟩
  split at p1
  · rename_i k e1
    exact ⟨k, tru_of rel1 vx e1, p1 _ _ _ le1 rel1⟩
  · exact p1.elim
theorem tr_cmp {ma mb : Env → Sto → Res W} {g : W → W → Sto → Res Bool} (env : Env) (S : Sto) : tr (fun env S => (ma env S).bind fun x S => (mb env S).bind fun y S => (g x y S).bind fun k S => .ok (.bl k) S) env S = (ma env S).bind fun x S => (mb env S).bind fun y S => g x y S := by
  show Res.bind (Res.bind (ma env S) _) _ = _
  generalize ma env S = r
  cases r with
  | ok x S1 =>
    show Res.bind (Res.bind (mb env S1) _) _ = Res.bind (mb env S1) _
    generalize mb env S1 = r2
    cases r2 with
    | ok y S2 =>
      show Res.bind (Res.bind (g x y S2) _) _ = g x y S2
      generalize g x y S2 = r3
      cases r3 <;> rfl
    | ex _ _ _ => rfl
    | stuck => rfl
  | ex _ _ _ => rfl
  | stuck => rfl
theorem snd_tcmp {a b : Expr} {ma mb : Env → Sto → Res W} {op : Cop} {pos : Pos} (hu : X.A.units + 66 < cLine) (ha : PE X a (RE X.K T ma)) (hb : PE X b (RE X.K T mb)) (hm : behindInMarks (cmpOf op) b = false) :
    PT X (.Compare a [cmpOf op] [b] pos) (RT X.K T (tr fun env S => (ma env S).bind fun x S => (mb env S).bind fun y S => (cmpop op x y S).bind fun k S => .ok (.bl k) S)) := by
  refine pt_of (pt_cmpR (cmpop_ok (T := T) (by omega) op) ha hb hm) fun σ H Q q => ?_
  obtain ⟨Φ, ρ, env, S, er, rel, p⟩ := q
  rw [tr_cmp] at p
  refine ⟨Φ, ρ, env, S, er, rel, (Pst.bind p).mono fun x S1 p1 Φ1 ρ1 v H1 le1 rel1 vx => ⟨Φ1, ρ1, env, S1, er.le le1, rel1, (Pst.bind p1).mono fun y S2 p2 Φ2 ρ2 u H2 le2 rel2 vy => ⟨Φ2, ρ2, S2, x, y, rel2, vx.le le2, vy, ?_⟩⟩⟩
  cases e : cmpop op x y S2 with
  | ok k S3 =>
    rw [e] at p2
    show Pst ((cmpop op x y S2).bind _) _
    rw [e]
    refine fun Φ3 ρ3 v3 H3 le3 rel3 v3r => ?_
    cases v3r
    exact ⟨k, rfl, p2 _ _ _ ((le1.trans le2).trans le3) rel3⟩
  | ex _ _ _ => rw [e] at p2; exact p2.elim
  | stuck => rw [e] at p2; exact p2.elim
theorem rt_and {ma mb : Env → Sto → Res W} {σ : L2.St} {H : Hp} {Q : Bool → Hp → Prop} (h : RT X.K T (tr fun env S => (ma env S).bind fun x S => match truthy S x with
      | some true => mb env S
      | some false => .ok x S
      | none => .stuck) σ H Q) : tAnd (RT X.K T (tr ma)) (RT X.K T (tr mb)) σ H Q := by
  obtain ⟨Φ, ρ, env, S, er, rel, p⟩ := h
  refine ⟨Φ, ρ, env, S, er, rel, ?_⟩
  unfold tr at p ⊢
  dsimp only at p ⊢
  cases e : ma env S with
  | ok x S1 =>
    rw [e] at p
    rw [bind_ok] at p ⊢
    cases e2 : truthy S1 x with
    | none => rw [e2] at p; exact p.elim
    | some k =>
      rw [e2] at p
      refine fun Φ1 ρ1 H1 le1 rel1 => ?_
      cases k with
      | true => rw [if_pos rfl]; exact ⟨Φ1, ρ1, env, S1, er.le le1, rel1, p.mono fun _ _ q => q.le le1⟩
      | false =>
        rw [if_neg (by decide)]
        rw [bind_ok, e2] at p
        exact p _ _ _ le1 rel1
  | ex _ _ _ => rw [e] at p; exact p.elim
  | stuck => rw [e] at p; exact p.elim
theorem rt_or {ma mb : Env → Sto → Res W} {σ : L2.St} {H : Hp} {Q : Bool → Hp → Prop} (h : RT X.K T (tr fun env S => (ma env S).bind fun x S => match truthy S x with
      | some true => .ok x S
      | some false => mb env S
      | none => .stuck) σ H Q) : tOr (RT X.K T (tr ma)) (RT X.K T (tr mb)) σ H Q := by
  obtain ⟨Φ, ρ, env, S, er, rel, p⟩ := h
  refine ⟨Φ, ρ, env, S, er, rel, ?_⟩
  unfold tr at p ⊢
  dsimp only at p ⊢
  cases e : ma env S with
  | ok x S1 =>
    rw [e] at p
    rw [bind_ok] at p ⊢
    cases e2 : truthy S1 x with
    | none => rw [e2] at p; exact p.elim
    | some k =>
      rw [e2] at p
      refine fun Φ1 ρ1 H1 le1 rel1 => ?_
      cases k with
      | false => rw [if_neg (by decide)]; exact ⟨Φ1, ρ1, env, S1, er.le le1, rel1, p.mono fun _ _ q => q.le le1⟩
      | true =>
        rw [if_pos rfl]
        rw [bind_ok, e2] at p
        exact p _ _ _ le1 rel1
  | ex _ _ _ => rw [e] at p; exact p.elim
  | stuck => rw [e] at p; exact p.elim
theorem pw_of {e : Expr} {t t' : TT} (h : PW X e t) (f : ∀ σ H Q, t' σ H Q → t σ H Q) : PW X e t' := ⟨fun w pins s σ H Q I q => h.run w pins s σ H Q I (f σ H Q q)⟩
theorem rt_not {ma : Env → Sto → Res W} {σ : L2.St} {H : Hp} {Q : Bool → Hp → Prop} (h : RT X.K T (tr fun env S => (ma env S).bind fun x S => match truthy S x with
      | some k => .ok (.bl !k) S
      | none => .stuck) σ H Q) : tNot (RT X.K T (tr ma)) σ H Q := by
  obtain ⟨Φ, ρ, env, S, er, rel, p⟩ := h
  refine ⟨Φ, ρ, env, S, er, rel, ?_⟩
  unfold tr at p ⊢
  dsimp only at p ⊢
  cases e : ma env S with
  | ok x S1 =>
    rw [e] at p
    rw [bind_ok] at p ⊢
    cases e2 : truthy S1 x with
    | none => rw [e2] at p; exact p.elim
    | some k =>
      rw [e2] at p
      exact fun Φ1 ρ1 H1 le1 rel1 => p _ _ _ le1 rel1
  | ex _ _ _ => rw [e] at p; exact p.elim
  | stuck => rw [e] at p; exact p.elim
/-! ### chains -/
theorem snd_chn {a b d : Expr} {ma mb md : Env → Sto → Res W} {o1 o2 : Cop} {pos : Pos} (hu : X.A.units + 66 < cLine) (ha : PE X a (RE X.K T ma)) (hb : PE X b (RE X.K T mb)) (hd : PE X d (RE X.K T md)) (hm : lastMarks [cmpOf o1, cmpOf o2] [b, d] = false) :
    PE X (.Compare a [cmpOf o1, cmpOf o2] [b, d] pos) (RE X.K T fun env S => (ma env S).bind fun x S => (mb env S).bind fun y S => (cmpop o1 x y S).bind fun k S =>
      if k then (md env S).bind fun z S => (cmpop o2 y z S).bind fun k S => .ok (.bl k) S else .ok (.bl false) S) := by
  refine pe_of (pe_chain (cmpop_ok (T := T) (by omega) o1) (cmpop_ok (T := T) (by omega) o2) ha hb hd hm) fun σ H Q q => ?_
  obtain ⟨Φ, ρ, env, S, er, rel, p⟩ := q
  refine ⟨Φ, ρ, env, S, er, rel, (Pst.bind p).mono fun x S1 p1 Φ1 ρ1 v H1 le1 rel1 vx => ⟨Φ1, ρ1, env, S1, er.le le1, rel1, (Pst.bind p1).mono fun y S2 p2 Φ2 ρ2 u H2 le2 rel2 vy => ⟨Φ2, ρ2, S2, x, y, rel2, vx.le le2, vy, ?_⟩⟩⟩
  cases e : cmpop o1 x y S2 with
  | ok k S3 =>
    rw [e] at p2
    show Pst ((cmpop o1 x y S2).bind _) _
    rw [e]
    rw [bind_ok] at p2 ⊢
    refine fun Φ3 ρ3 v3 H3 le3 rel3 v3r => ?_
    cases v3r
    refine ⟨k, rfl, ?_⟩
    cases k with
    | true =>
      rw [if_pos rfl] at p2 ⊢
      exact ⟨Φ3, ρ3, env, S3, ((er.le le1).le le2).le le3, rel3, (Pst.bind p2).mono fun z S4 p4 Φ4 ρ4 w4 H4 le4 rel4 vz => ⟨Φ4, ρ4, S4, y, z, rel4, (vy.le le3).le le4, vz, p4.mono fun _ _ q => (((q.le le1).le le2).le le3).le le4⟩⟩
    | false =>
      rw [if_neg (by decide)] at p2 ⊢
      exact p2 _ _ _ _ ((le1.trans le2).trans le3) rel3 (.bl _)
  | ex _ _ _ => rw [e] at p2; exact p2.elim
  | stuck => rw [e] at p2; exact p2.elim
/-! ### what is walked -/
theorem pi_or {t e : Expr} {w w' : L2.TI} (h : PI X t e w) (h' : PI X t e w') : PI X t e (fun σ H R => w σ H R ∨ w' σ H R) := ⟨fun pins s σ H R I q => q.elim (fun q => h.run pins s σ H R I q) fun q => h'.run pins s σ H R I q⟩
theorem snd_ival {tg e : Expr} {ma : Env → Sto → Res W} (ha : PE X e (RE X.K T ma)) (h2 : PI X tg e (iTup X.K (RE X.K T ma))) (h1 : PI X tg e (iList X.K (RE X.K T ma))) :
    PI X tg e (RI X.K T fun env S => (ma env S).bind fun w S => match seqOf S w with
      | some l => .ok (l, gdOf S w) S
      | none => .stuck) := by
  refine pi_of (pi_or h1 h2) fun σ H R q => ?_
  obtain ⟨Φ, ρ, env, S, er, rel, p⟩ := q
  cases e1 : ma env S with
  | ok w S1 =>
    have p : Pst ((ma env S).bind _) _ := p
    rw [e1, bind_ok] at p
    have tupc : (∃ l, w = .tup l) ∨ ∀ l, w ≠ .tup l := by
      cases w <;> first | exact .inl ⟨_, rfl⟩ | exact .inr fun l z => nomatch z
    rcases tupc with ⟨l, rfl⟩ | nt
    · refine .inr ⟨Φ, ρ, env, S, er, rel, ?_⟩
      rw [e1]
      refine fun Φ1 ρ1 v H1 le1 rel1 vx => ?_
      cases vx with
      | tup h3 h4 => exact ⟨_, rfl, ⟨_, sameT rel1.sub h3⟩, p _ _ _ _ le1 rel1 rfl (walk_tupI h3 h4)⟩
    · refine .inl ⟨Φ, ρ, env, S, er, rel, ?_⟩
      rw [e1]
      refine fun Φ1 ρ1 v H1 le1 rel1 vx => ?_
      cases vx with
      | tup h3 h4 => exact absurd rfl (nt _)
      | lst h3 h4 => exact ⟨_, rfl, ⟨_, .inl (.inl (rel1.sub _ _ h3))⟩, p _ _ _ _ le1 rel1 rfl (walk_lst (.inl (.inl h3)) h4)⟩
      | scr h3 h4 => exact ⟨_, rfl, ⟨_, L2.Same.seq rel1.sub h3⟩, p _ _ _ _ le1 rel1 rfl (walk_lst h3 h4)⟩
      | @ref i a h3 =>
        cases e2 : S1[i]? with
        | none => simp only [seqOf, e2] at p; exact p.elim
        | some o =>
          cases o with
          | lst l =>
            simp only [seqOf, e2, gdOf, Option.map_some] at p
            obtain ⟨a', vs, e3, _, h5, _⟩ := lst_ref rel1 (.ref h3) e2
            cases e3
            exact ⟨_, rfl, ⟨vs, .inl (.inl h5)⟩, p _ _ _ _ le1 rel1 (by simp [gdOk, e2]) (walk_ref h3)⟩
          | _ => simp only [seqOf, e2] at p; exact p.elim
      | _ => simp only [seqOf] at p; exact p.elim
  | ex _ _ _ => have p : Pst ((ma env S).bind _) _ := p; rw [e1] at p; exact p.elim
  | stuck => have p : Pst ((ma env S).bind _) _ := p; rw [e1] at p; exact p.elim
end
end KF


set_option Elab.async false
set_option linter.all false
set_option autoImplicit false
set_option maxRecDepth 100000
set_option maxHeartbeats 1000000
namespace KF
open PySem PySem.Spec PyProof.Rows L2
section
variable {X : Cx} {T : Tab} {c : Cc}
theorem drop_at {α : Type} {l : List α} {i : Nat} (h : i < l.length) : l.drop i = l[i] :: l.drop (i + 1) := List.drop_eq_getElem_cons h
/-- one element of a comprehension -/
def lcF (tg : Tg) (mt : Env → Sto → Res Bool) (me : Env → Sto → Res W) (env : Env) : W → Sto → Res (Option W) := fun x S => match setT tg x env with
  | none => .stuck
  | some env' => (mt env' S).bind fun b S => if b then (me env' S).bind fun w S => .ok (some w) S else .ok none S
theorem lc_read {tg : Tg} {own : List (Str × Nat)} {mi : Env → Sto → Res (List W × Gd)} {mt : Env → Sto → Res Bool} {me : Env → Sto → Res W} {m : Bool} (ho : own.map (·.2) = tgSl tg) (hne : ∀ i l, tg ≠ .tq i l) {σ : L2.St} {H0 : Hp} {Q : VK}
    (q : RE X.K T (fun env S => (mi env S).bind fun p S => if p.1.length ≤ SZ then (lcLoop p.2 (lcF tg mt me env) p.1 S).bind fun ws S => mkL m ws S else .stuck) σ H0 Q) : tLc (RI X.K T mi) (gT X.K tg) (RT X.K T mt) (RE X.K T me) (own.map (·.2)) σ H0 Q := by
  obtain ⟨Φ0, ρ0, env, S0, er0, rel0, p⟩ := q
  refine ⟨Φ0, ρ0, env, S0, er0, rel0, (Pst.bind p).mono fun pr S1 p1 Φ1 ρ1 H1 J le1 rel1 gd walk D hD => ?_⟩
  obtain ⟨ws, g⟩ := pr
  dsimp only at p1 walk gd
  split at p1
  · rename_i hz
    have p1 := Pst.bind p1
    have hz : ws.length ≤ 1000000 := hz
    have d1 : D ∉ ρ1 := rel1.notin hD
    have d0 : D ∉ ρ0 := fun z => d1 (le1.rp.subset z)
    have h0 : IsT (H0 D) := le1.none' d0 (.inl hD)
    let PW : Nat → Hp → Prop := fun i H => i ≤ ws.length ∧ ∃ Φ ρ S acc accW, Le Φ1 ρ1 H1 Φ ρ H ∧ Rel X.K T Φ ρ H S ∧ gdOk g S = true ∧ D ∉ ρ ∧ Φ D = none ∧ H D = some (.lst acc) ∧ VRs X.K T Φ ρ acc accW ∧ accW.length ≤ i ∧
      Pst (lcLoop g (lcF tg mt me env) (ws.drop i) S) (fun us S' => Pst (mkL m (accW ++ us) S') (EndE X.K T Φ0 ρ0 H0 Q))
    refine ⟨fun i mm H => mm = ws.length - i ∧ PW i H, ⟨_, rfl, Nat.zero_le _, Φ1, ρ1, S1, [], [], Le.tmp rel1 hD, rel1.tmp hD, gd, d1, same_fresh rel1.sub hD, upd_same, .nil, Nat.le_refl _, p1⟩, ?_⟩
    rintro i mm H ⟨rfl, hi, Φ, ρ, S, acc, accW, le, rel, gdS, dρ, dΦ, hDl, va, hal, pl⟩
    by_cases hlt : i < ws.length
    · have hx : ws[i]? = some ws[i] := List.getElem?_eq_getElem hlt
      obtain ⟨go, yl⟩ := walk.go Φ ρ H S i _ le rel gdS hx
      refine .inr ⟨go, PW (i + 1), fun H' hp => ⟨ws.length - (i + 1), by omega, rfl, hp⟩, fun y H' hy => ?_⟩
      obtain ⟨Φ', le', rel', vy⟩ := yl y H' hy
      rw [drop_at hlt] at pl
      have pl : Pst ((lcF tg mt me env ws[i] S).bind fun o S1 => if gdOk g S1 then (lcLoop g (lcF tg mt me env) (ws.drop (i + 1)) S1).bind fun us S2 => .ok (o.toList ++ us) S2 else .stuck) _ := pl
      unfold lcF at pl
      rw [ho]
      cases es : setT tg ws[i] env with
      | none => rw [es] at pl; exact pl.elim
      | some env' =>
        rw [es] at pl
        dsimp only at pl
        refine gT_read rel' vy es hne (((er0.le le1).le le |>.le le').wiped _) fun σ' e' hj hl => ⟨?_, ?_⟩
        · rw [← wipe_wipe σ (tgSl tg)]
          exact wipe_eq (by rw [hl]) hj
        · have sD := Le.stays rel le' dρ dΦ hDl (fun _ z => nomatch z)
          refine ⟨Φ', ρ, env', S, e', rel', ?_⟩
          have pl := Pst.bind (Pst.bind pl)
          refine pl.mono fun b S3 p3 Φ3 ρ3 H3 le3 rel3 => ?_
          have sD3 := Le.stays rel' le3 sD.1 sD.2.1 sD.2.2 (fun _ z => nomatch z)
          cases b with
          | false =>
            dsimp only at p3 ⊢
            rw [if_neg (by decide)] at p3 ⊢
            change Pst (if gdOk g S3 = true then _ else _) _ at p3
            split at p3
            · rename_i g3
              refine ⟨hlt, Φ3, ρ3, S3, acc, accW, (le.trans le').trans le3, rel3, g3, sD3.1, sD3.2.1, sD3.2.2, (va.le le').le le3, by omega, ?_⟩
              exact (Pst.bind p3).mono fun us S' q => q
            · exact p3.elim
          | true =>
            dsimp only at p3 ⊢
            rw [if_pos rfl] at p3 ⊢
            have p3 := Pst.bind p3
            refine ⟨Φ3, ρ3, env', S3, e'.le le3, rel3, p3.mono fun w S4 p4 Φ4 ρ4 z H4 le4 rel4 vz => ?_⟩
            have sD4 := Le.stays rel3 le4 sD3.1 sD3.2.1 sD3.2.2 (fun _ z => nomatch z)
            refine ⟨acc, sD4.2.2, ?_, ?_⟩
            · rw [va.length, sizeLine_eq]; omega
            · change Pst (if gdOk g S4 = true then _ else _) _ at p4
              split at p4
              · rename_i g4
                refine ⟨hlt, Φ4, ρ4, S4, acc ++ [z], accW ++ [w], (((le.trans le').trans le3).trans le4).off (.inl hD), rel4.off sD4.1 sD4.2.1 (.lst sD4.2.2), g4, sD4.1, sD4.2.1, upd_same, (((va.le le').le le3).le le4).append (.cons vz .nil), by simp; omega, ?_⟩
                refine (Pst.bind p4).mono fun us S' q => ?_
                have q : Pst (mkL m (accW ++ ([w] ++ us)) S') _ := q
                rw [← List.append_assoc] at q
                exact q
              · exact p4.elim
    · have e : i = ws.length := by omega
      subst e
      rw [List.drop_length] at pl
      have pl : Pst (mkL m (accW ++ []) S) _ := pl
      rw [List.append_nil] at pl
      exact .inl ⟨walk.stop Φ ρ H S le rel gdS, mkL_done rel va (le1.trans le) h0 dρ dΦ hDl pl⟩
  · exact p1.elim
theorem snd_lc {tg : Tg} {t iter elt : Expr} {ifs : List Expr} {scope : Scope} {own : List (Str × Nat)} {pos : Pos} {mi : Env → Sto → Res (List W × Gd)} {mt : Env → Sto → Res Bool} {me : Env → Sto → Res W} {m : Bool} (bl : Blk c X)
    (hi : PI X t iter (RI X.K T mi)) (ok : blkC c.N c.sc scope own = true) (ho : own.map (·.2) = tgSl tg) (hne : ∀ i l, tg ≠ .tq i l) (hset : setB iter = false)
    (hg : ∀ (s : Shared) (H : Hp) (C : Addr) (cl : List (Str × Addr)) (fp : List Addr), PG (X.blk s H scope (compEnvC scope cl C X.env) fp) t (gT X.K tg))
    (ht : ∀ (s : Shared) (H : Hp) (C : Addr) (cl : List (Str × Addr)) (fp : List Addr), PTs (X.blk s H scope (compEnvC scope cl C X.env) fp) ifs (RT X.K T mt))
    (he : ∀ (s : Shared) (H : Hp) (C : Addr) (cl : List (Str × Addr)) (fp : List Addr), PE (X.blk s H scope (compEnvC scope cl C X.env) fp) elt (RE X.K T me)) :
    PE X (.ListComp elt [⟨t, iter, ifs, 0⟩] scope pos) (RE X.K T fun env S => (mi env S).bind fun p S => if p.1.length ≤ SZ then (lcLoop p.2 (lcF tg mt me env) p.1 S).bind fun ws S => mkL m ws S else .stuck) := by
  have hs : ∀ x, foldedSetIterable iter X.env x = pure x := fun x => by
    cases iter <;> first | rfl | (simp [setB] at hset)
  refine pe_of (pe_lc bl.calm (by rw [bl.N]; exact bl.nd) hi (by rw [bl.N, bl.sc]; exact blkOk_by ok) hg ht he hs) fun σ H0 Q q => lc_read ho hne q
/-! ### statements -/
def EndS (K : PySem.W.Frag) (T : Tab) (Φ : Hp) (ρ : List Addr) (H : Hp) (D : Ends) (q : Fl) (S' : Sto) : Prop := match q with
  | .nx env => ∀ Φ' ρ' σ' H', Le Φ ρ H Φ' ρ' H' → Rel K T Φ' ρ' H' S' → EnvR K T Φ' ρ' σ' env → D.nx σ' H'
  | .rt w => ∀ Φ' ρ' v H', Le Φ ρ H Φ' ρ' H' → Rel K T Φ' ρ' H' S' → VR K T Φ' ρ' v w → D.rt v H'
  | .bk env => ∀ Φ' ρ' σ' H', Le Φ ρ H Φ' ρ' H' → Rel K T Φ' ρ' H' S' → EnvR K T Φ' ρ' σ' env → D.bk σ' H'
  | .ct env => ∀ Φ' ρ' σ' H', Le Φ ρ H Φ' ρ' H' → Rel K T Φ' ρ' H' S' → EnvR K T Φ' ρ' σ' env → D.ct σ' H'
  | .xc _ _ _ => False
theorem EndS.le {K : PySem.W.Frag} {Φ Φ' : Hp} {ρ ρ' : List Addr} {H H' : Hp} {D : Ends} {q : Fl} {S' : Sto} (h : EndS K T Φ ρ H D q S') (l : Le Φ ρ H Φ' ρ' H') : EndS K T Φ' ρ' H' D q S' := by
  cases q with
  | nx env => exact fun a b c d l2 r e => h a b c d (l.trans l2) r e
  | rt env => exact fun a b c d l2 r e => h a b c d (l.trans l2) r e
  | bk env => exact fun a b c d l2 r e => h a b c d (l.trans l2) r e
  | ct env => exact fun a b c d l2 r e => h a b c d (l.trans l2) r e
  | xc _ _ _ => exact h
def RS (K : PySem.W.Frag) (T : Tab) (m : Env → Sto → Res Fl) : TS := fun D σ H => ∃ Φ ρ env S, EnvR K T Φ ρ σ env ∧ Rel K T Φ ρ H S ∧ Pst (m env S) (EndS K T Φ ρ H D)
theorem ps_of {e : Stmt} {t t' : TS} (h : PS X e t) (f : ∀ D σ H, t' D σ H → t D σ H) : PS X e t' := ⟨fun pins s σ H D I q => h.run pins s σ H D I (f D σ H q)⟩
theorem pss_of {e : List Stmt} {t t' : TS} (h : PSs X e t) (f : ∀ D σ H, t' D σ H → t D σ H) : PSs X e t' := ⟨fun pins s σ H D I q => h.run pins s σ H D I (f D σ H q)⟩
theorem thenS_bind {α : Type} {r : Res α} {env : Env} {f : α → Sto → Res Fl} {K : PySem.W.Frag} {Φ : Hp} {ρ : List Addr} {H : Hp} {D : Ends} (h : Pst (r.thenS env f) (EndS K T Φ ρ H D)) : Pst r fun a S => Pst (f a S) (EndS K T Φ ρ H D) := by
  cases r with
  | ok a S => exact h
  | ex _ _ _ => exact h
  | stuck => exact h
theorem snd_snil : PSs X [] (RS X.K T fun env S => .ok (.nx env) S) := by
  refine pss_of pss_nil fun D σ H q => ?_
  obtain ⟨Φ, ρ, env, S, er, rel, p⟩ := q
  exact p _ _ _ _ .refl rel er
theorem snd_scons {st : Stmt} {rest : List Stmt} {m1 m2 : Env → Sto → Res Fl} (h1 : PS X st (RS X.K T m1)) (h2 : PSs X rest (RS X.K T m2)) :
    PSs X (st :: rest) (RS X.K T fun env S => (m1 env S).bind fun q S => match q with
      | .nx env => m2 env S
      | q => .ok q S) := by
  refine pss_of (pss_cons h1 h2) fun D σ H q => ?_
  obtain ⟨Φ, ρ, env, S, er, rel, p⟩ := q
  refine ⟨Φ, ρ, env, S, er, rel, (Pst.bind p).mono fun q S1 p1 => ?_⟩
  cases q with
  | nx env1 => exact fun Φ1 ρ1 σ1 H1 le1 rel1 er1 => ⟨Φ1, ρ1, env1, S1, er1, rel1, p1.mono fun _ _ q => q.le le1⟩
  | rt w => exact p1
  | bk env1 => exact p1
  | ct env1 => exact p1
  | xc _ _ _ => exact p1
theorem snd_expr {e : Expr} {ma : Env → Sto → Res W} {pos : Pos} (hc : compB e = false) (ha : PE X e (RE X.K T ma)) : PS X (.Expr e pos) (RS X.K T fun env S => (ma env S).thenS env fun _ S => .ok (.nx env) S) := by
  refine ps_of (ps_expr ha (by cases e <;> first | rfl | (simp [compB] at hc))) fun D σ H q => ?_
  obtain ⟨Φ, ρ, env, S, er, rel, p⟩ := q
  exact ⟨Φ, ρ, env, S, er, rel, (thenS_bind p).mono fun w S1 p1 Φ1 ρ1 v H1 le1 rel1 vx => p1 _ _ _ _ le1 rel1 (er.le le1)⟩
theorem snd_ret {e : Expr} {ma : Env → Sto → Res W} {pos : Pos} (ha : PE X e (RE X.K T ma)) : PS X (.Return (some e) pos) (RS X.K T fun env S => (ma env S).thenS env fun w S => .ok (.rt w) S) := by
  refine ps_of (ps_ret ha) fun D σ H q => ?_
  obtain ⟨Φ, ρ, env, S, er, rel, p⟩ := q
  exact ⟨Φ, ρ, env, S, er, rel, (thenS_bind p).mono fun w S1 p1 Φ1 ρ1 v H1 le1 rel1 vx => p1 _ _ _ _ le1 rel1 vx⟩
theorem snd_retn {pos : Pos} : PS X (.Return none pos) (RS X.K T fun _ S => .ok (.rt .non) S) := by
  refine ps_of ps_retN fun D σ H q => ?_
  obtain ⟨Φ, ρ, env, S, er, rel, p⟩ := q
  exact p _ _ _ _ .refl rel .non
theorem snd_if {e : Expr} {a b : List Stmt} {mt : Env → Sto → Res W} {m1 m2 : Env → Sto → Res Fl} {pos : Pos} (ht : PT X e (RT X.K T (tr mt))) (h1 : PSs X a (RS X.K T m1)) (h2 : PSs X b (RS X.K T m2)) :
    PS X (.If e a b pos) (RS X.K T fun env S => (tr mt env S).thenS env fun k S => if k then m1 env S else m2 env S) := by
  refine ps_of (ps_if ht h1 h2) fun D σ H q => ?_
  obtain ⟨Φ, ρ, env, S, er, rel, p⟩ := q
  refine ⟨Φ, ρ, env, S, er, rel, (thenS_bind p).mono fun k S1 p1 Φ1 ρ1 H1 le1 rel1 => ?_⟩
  cases k with
  | true => rw [if_pos rfl] at p1 ⊢; exact ⟨Φ1, ρ1, env, S1, er.le le1, rel1, p1.mono fun _ _ q => q.le le1⟩
  | false => rw [if_neg (by decide)] at p1 ⊢; exact ⟨Φ1, ρ1, env, S1, er.le le1, rel1, p1.mono fun _ _ q => q.le le1⟩
/-- target = value -/
theorem snd_asg {tg : Tg} {t e : Expr} {ma : Env → Sto → Res W} {pos : Pos} (bl : Blk c X) (htg : tgB c tg t = true) (hc : compB e = false) (htup : ∀ es k p, e ≠ .Tuple es k p) (ha : PE X e (RE X.K T ma)) :
    PS X (.Assign [t] e pos) (RS X.K T fun env S => (ma env S).thenS env fun w S => match setT tg w env with
      | some env => .ok (.nx env) S
      | none => .stuck) := by
  have h1 : (assignEach [t] X.env).map (·.2) = [assign t X.env] := by
    cases t <;> first | rfl | (exfalso; cases tg <;> simp [tgB, nmB] at htg)
  have h2 : swapsWithSole [t] e pos.line X.env = pure false := by
    cases e <;> first | rfl | (simp [compB] at hc)
  have h3 : swappedStores [t] e X.env = pure none := by
    cases e <;> first | (cases t <;> rfl) | exact absurd rfl (htup _ _ _)
  refine ps_of (ps_asg ha (pg_tg bl htg) h2 h3 h1) fun D σ H q => ?_
  obtain ⟨Φ, ρ, env, S, er, rel, p⟩ := q
  refine ⟨Φ, ρ, env, S, er, rel, (thenS_bind p).mono fun w S1 p1 Φ1 ρ1 v H1 le1 rel1 vx => ?_⟩
  split at p1
  · rename_i env' e1
    exact gT_read rel1 vx e1 (tgB_ne htg) ((er.le le1).x _) fun σ' e' _ _ => p1 _ _ _ _ le1 rel1 e'
  · exact p1.elim
theorem snd_set {i : Nat} {x : Str} {e : Expr} {ma : Env → Sto → Res W} {pos pos' : Pos} (bl : Blk c X) (h1 : c.N[i]? = some x) (h2 : locB c x = true) (hc : swapsWith e (some (.Name x pos')) pos.line X.env = pure false) (ha : PE X e (RE X.K T ma)) :
    PS X (.Assign [.Name x pos'] e pos) (RS X.K T fun env S => (ma env S).thenS env fun w S => .ok (.nx (env.set i (some w))) S) := by
  have ⟨h3, h4⟩ := loc_of h2
  refine ps_of (ps_set (i := i) (by rw [bl.N]; exact bl.nd) (by rw [bl.N]; exact h1) (by rw [bl.sc]; exact h3) ha hc (by rw [bl.sc, bl.fn]; exact h4)) fun D σ H q => ?_
  obtain ⟨Φ, ρ, env, S, er, rel, p⟩ := q
  exact ⟨Φ, ρ, env, S, er, rel, (thenS_bind p).mono fun w S1 p1 Φ1 ρ1 v H1 le1 rel1 vx => p1 _ _ _ _ le1 rel1 ((er.le le1).set vx)⟩
/-- name = [..] on one line -/
theorem snd_setLc {i : Nat} {y : Str} {py : Pos} {tg : Tg} {t iter elt : Expr} {ifs : List Expr} {scope : Scope} {own : List (Str × Nat)} {pos spos : Pos} {mi : Env → Sto → Res (List W × Gd)} {mt : Env → Sto → Res Bool} {me : Env → Sto → Res W} {m : Bool} (bl : Blk c X)
    (h1 : c.N[i]? = some y) (h2 : X.env.scope.names.lookup y = some .local) (hsw : swapsWith (.ListComp elt [⟨t, iter, ifs, 0⟩] scope pos) (some (.Name y py)) spos.line X.env = pure true)
    (hi : PI X t iter (RI X.K T mi)) (ok : blkC c.N c.sc scope own = true) (ho : own.map (·.2) = tgSl tg) (hne : ∀ i l, tg ≠ .tq i l) (hset : setB iter = false)
    (hg : ∀ (s : Shared) (H : Hp) (C : Addr) (cl : List (Str × Addr)) (fp : List Addr), PG (X.blk s H scope (compEnvC scope cl C X.env) fp) t (gT X.K tg))
    (ht : ∀ (s : Shared) (H : Hp) (C : Addr) (cl : List (Str × Addr)) (fp : List Addr), PTs (X.blk s H scope (compEnvC scope cl C X.env) fp) ifs (RT X.K T mt))
    (he : ∀ (s : Shared) (H : Hp) (C : Addr) (cl : List (Str × Addr)) (fp : List Addr), PE (X.blk s H scope (compEnvC scope cl C X.env) fp) elt (RE X.K T me)) :
    PS X (.Assign [.Name y py] (.ListComp elt [⟨t, iter, ifs, 0⟩] scope pos) spos) (RS X.K T fun env S => ((mi env S).bind fun p S => if p.1.length ≤ SZ then (lcLoop p.2 (lcF tg mt me env) p.1 S).bind fun ws S => mkL m ws S else .stuck).thenS env fun w S => .ok (.nx (env.set i (some w))) S) := by
  have hs : ∀ x, foldedSetIterable iter X.env x = pure x := fun x => by
    cases iter <;> first | rfl | (simp [setB] at hset)
  refine ps_of (ps_setLc bl.calm (by rw [bl.N]; exact bl.nd) (by rw [bl.N]; exact h1) h2 hsw hi (by rw [bl.N, bl.sc]; exact blkOk_by ok) hg ht he hs) fun D σ H q => ?_
  obtain ⟨Φ, ρ, env, S, er, rel, p⟩ := q
  exact lc_read (m := m) ho hne ⟨Φ, ρ, env, S, er, rel, (thenS_bind p).mono fun w S1 p1 Φ1 ρ1 v H1 le1 rel1 vx => p1 _ _ _ _ le1 rel1 ((er.le le1).set vx)⟩
theorem snd_asub {o i e : Expr} {mo mi me : Env → Sto → Res W} {pos pos' : Pos} (hu : X.A.units + 66 < cLine) (hp : plainIxB i = true) (hc : compB e = false) (htup : ∀ es k p, e ≠ .Tuple es k p) (ho : PE X o (RE X.K T mo)) (hi : PE X i (RE X.K T mi)) (he : PE X e (RE X.K T me)) :
    PS X (.Assign [.Subscript o i pos'] e pos) (RS X.K T fun env S => (me env S).thenS env fun v S => (mo env S).thenS env fun x S => (mi env S).thenS env fun y S => (setSub x y v S).thenS env fun _ S => .ok (.nx env) S) := by
  have h2 : swapsWithSole [.Subscript o i pos'] e pos.line X.env = pure false := by
    cases e <;> first | rfl | (simp [compB] at hc)
  have h3 : swappedStores [.Subscript o i pos'] e X.env = pure none := by
    cases e <;> first | rfl | exact absurd rfl (htup _ _ _)
  refine ps_of (ps_asg he (pg_sub ho hi (setSub_ok (T := T) (by omega)) (fun v => by cases i <;> first | rfl | (simp [plainIxB] at hp))) h2 h3 rfl) fun D σ H q => ?_
  obtain ⟨Φ, ρ, env, S, er, rel, p⟩ := q
  refine ⟨Φ, ρ, env, S, er, rel, (thenS_bind p).mono fun w S1 p1 Φ1 ρ1 v H1 le1 rel1 vx => ⟨Φ1, ρ1, env, S1, er.le le1, rel1, (thenS_bind p1).mono fun x S2 p2 Φ2 ρ2 ov H2 le2 rel2 vo => ⟨Φ2, ρ2, env, S2, (er.le le1).le le2, rel2, (thenS_bind p2).mono fun y S3 p3 Φ3 ρ3 iv H3 le3 rel3 vi => ?_⟩⟩⟩
  exact ⟨Φ3, ρ3, S3, x, y, w, rel3, vo.le le3, vi, (vx.le le2).le le3, (thenS_bind p3).mono fun _ S4 p4 Φ4 ρ4 H4 le4 rel4 => p4 _ _ _ _ (((le1.trans le2).trans le3).trans le4) rel4 ((((er.le le1).le le2).le le3).le le4)⟩
end
end KF


set_option Elab.async false
set_option linter.all false
set_option autoImplicit false
set_option maxRecDepth 100000
set_option maxHeartbeats 1000000
namespace KF
open PySem PySem.Spec PyProof.Rows L2
section
variable {X : Cx} {T : Tab} {c : Cc}
/-- one pair of a dict comprehension -/
def dcF (tg : Tg) (mt : Env → Sto → Res Bool) (mk mv : Env → Sto → Res W) (env : Env) : W → Sto → Res (Option (W × W)) := fun x S => match setT tg x env with
  | none => .stuck
  | some env' => (mt env' S).bind fun b S => if b then (mk env' S).bind fun w S => if hkey w then (mv env' S).bind fun u S => .ok (some (w, u)) S else .stuck else .ok none S
theorem VDs.le {K : PySem.W.Frag} {Φ Φ' : Hp} {ρ ρ' : List Addr} {H H' : Hp} {v : List (Key × V)} {w : List (W × W)} (e : VDs K T Φ ρ v w) (l : Le Φ ρ H Φ' ρ' H') : VDs K T Φ' ρ' v w := e.mono l.ph l.rp
theorem dput_len (k v : W) (l : List (W × W)) : (dput k v l).length ≤ l.length + 1 := by
  unfold dput
  split
  · rw [List.length_map]; exact Nat.le_succ _
  · rw [List.length_append]; exact Nat.le_refl _
theorem snd_dc {tg : Tg} {t iter kx vx : Expr} {ifs : List Expr} {scope : Scope} {own : List (Str × Nat)} {pos : Pos} {mi : Env → Sto → Res (List W × Gd)} {mt : Env → Sto → Res Bool} {mk mv : Env → Sto → Res W} {m : Bool} (bl : Blk c X)
    (hi : PI X t iter (RI X.K T mi)) (ok : blkC c.N c.sc scope own = true) (ho : own.map (·.2) = tgSl tg) (hne : ∀ i l, tg ≠ .tq i l) (hset : setB iter = false)
    (hg : ∀ (s : Shared) (H : Hp) (C : Addr) (cl : List (Str × Addr)) (fp : List Addr), PG (X.blk s H scope (compEnvC scope cl C X.env) fp) t (gT X.K tg))
    (ht : ∀ (s : Shared) (H : Hp) (C : Addr) (cl : List (Str × Addr)) (fp : List Addr), PTs (X.blk s H scope (compEnvC scope cl C X.env) fp) ifs (RT X.K T mt))
    (hk : ∀ (s : Shared) (H : Hp) (C : Addr) (cl : List (Str × Addr)) (fp : List Addr), PE (X.blk s H scope (compEnvC scope cl C X.env) fp) kx (RE X.K T mk))
    (he : ∀ (s : Shared) (H : Hp) (C : Addr) (cl : List (Str × Addr)) (fp : List Addr), PE (X.blk s H scope (compEnvC scope cl C X.env) fp) vx (RE X.K T mv)) :
    PE X (.DictComp kx vx [⟨t, iter, ifs, 0⟩] scope pos) (RE X.K T fun env S => (mi env S).bind fun p S => if p.1.length ≤ SZ then (dcLoop p.2 (dcF tg mt mk mv env) p.1 [] S).bind fun d S => mkD m d S else .stuck) := by
  have hs : ∀ x, foldedSetIterable iter X.env x = pure x := fun x => by
    cases iter <;> first | rfl | (simp [setB] at hset)
  refine pe_of (pe_dc bl.calm (by rw [bl.N]; exact bl.nd) hi (by rw [bl.N, bl.sc]; exact blkOk_by ok) hg ht hk he hs) fun σ H0 Q q => ?_
  obtain ⟨Φ0, ρ0, env, S0, er0, rel0, p⟩ := q
  refine ⟨Φ0, ρ0, env, S0, er0, rel0, (Pst.bind p).mono fun pr S1 p1 Φ1 ρ1 H1 J le1 rel1 gd walk D hD => ?_⟩
  obtain ⟨ws, g⟩ := pr
  dsimp only at p1 walk gd
  split at p1
  · rename_i hz
    have p1 := Pst.bind p1
    have hz : ws.length ≤ 1000000 := hz
    have d1 : D ∉ ρ1 := rel1.notin hD
    have d0 : D ∉ ρ0 := fun z => d1 (le1.rp.subset z)
    have h0 : IsT (H0 D) := le1.none' d0 (.inl hD)
    let PW : Nat → Hp → Prop := fun i H => i ≤ ws.length ∧ ∃ Φ ρ S acc, ∃ accW : List (W × W), Le Φ1 ρ1 H1 Φ ρ H ∧ Rel X.K T Φ ρ H S ∧ gdOk g S = true ∧ D ∉ ρ ∧ Φ D = none ∧ H D = some (.dK acc) ∧ VDs X.K T Φ ρ acc accW ∧ accW.length ≤ i ∧
      Pst (dcLoop g (dcF tg mt mk mv env) (ws.drop i) accW S) (fun d S' => Pst (mkD m d S') (EndE X.K T Φ0 ρ0 H0 Q))
    refine ⟨fun i mm H => mm = ws.length - i ∧ PW i H, ⟨_, rfl, Nat.zero_le _, Φ1, ρ1, S1, [], [], Le.tmp rel1 hD, rel1.tmp hD, gd, d1, same_fresh rel1.sub hD, upd_same, .nil, Nat.le_refl _, p1⟩, ?_⟩
    rintro i mm H ⟨rfl, hi, Φ, ρ, S, acc, accW, le, rel, gdS, dρ, dΦ, hDl, va, hal, pl⟩
    by_cases hlt : i < ws.length
    · have hx : ws[i]? = some ws[i] := List.getElem?_eq_getElem hlt
      obtain ⟨go, yl⟩ := walk.go Φ ρ H S i _ le rel gdS hx
      refine .inr ⟨go, PW (i + 1), fun H' hp => ⟨ws.length - (i + 1), by omega, rfl, hp⟩, fun y H' hy => ?_⟩
      obtain ⟨Φ', le', rel', vy⟩ := yl y H' hy
      rw [drop_at hlt] at pl
      have pl : Pst ((dcF tg mt mk mv env ws[i] S).bind fun o S1 => if gdOk g S1 then dcLoop g (dcF tg mt mk mv env) (ws.drop (i + 1)) (dcPut o accW) S1 else .stuck) _ := pl
      unfold dcF at pl
      rw [ho]
      cases es : setT tg ws[i] env with
      | none => rw [es] at pl; exact pl.elim
      | some env' =>
        rw [es] at pl
        dsimp only at pl
        refine gT_read rel' vy es hne (((er0.le le1).le le |>.le le').wiped _) fun σ' e' hj hl => ⟨?_, ?_⟩
        · rw [← wipe_wipe σ (tgSl tg)]
          exact wipe_eq (by rw [hl]) hj
        · have sD := Le.stays rel le' dρ dΦ hDl (fun _ z => nomatch z)
          refine ⟨Φ', ρ, env', S, e', rel', ?_⟩
          have pl := Pst.bind (Pst.bind pl)
          refine pl.mono fun b S3 p3 Φ3 ρ3 H3 le3 rel3 => ?_
          have sD3 := Le.stays rel' le3 sD.1 sD.2.1 sD.2.2 (fun _ z => nomatch z)
          cases b with
          | false =>
            dsimp only at p3 ⊢
            rw [if_neg (by decide)] at p3 ⊢
            change Pst (if gdOk g S3 = true then _ else _) _ at p3
            split at p3
            · rename_i g3
              exact ⟨hlt, Φ3, ρ3, S3, acc, accW, (le.trans le').trans le3, rel3, g3, sD3.1, sD3.2.1, sD3.2.2, (va.le le').le le3, by omega, p3⟩
            · exact p3.elim
          | true =>
            dsimp only at p3 ⊢
            rw [if_pos rfl] at p3 ⊢
            have p3 := Pst.bind p3
            refine ⟨Φ3, ρ3, env', S3, e'.le le3, rel3, p3.mono fun kw S4 p4 Φ4 ρ4 y H4 le4 rel4 vy4 => ?_⟩
            have sD4 := Le.stays rel3 le4 sD3.1 sD3.2.1 sD3.2.2 (fun _ z => nomatch z)
            split at p4
            · rename_i hkw
              have p4 := Pst.bind p4
              refine ⟨Φ4, ρ4, env', S4, (e'.le le3).le le4, rel4, p4.mono fun u S5 p5 Φ5 ρ5 z H5 le5 rel5 vz => ?_⟩
              have sD5 := Le.stays rel4 le5 sD4.1 sD4.2.1 sD4.2.2 (fun _ z => nomatch z)
              obtain ⟨k, hk1, rfl⟩ := key_of_w hkw vy4
              refine ⟨acc, k, rfl, sD5.2.2, ?_, ?_⟩
              · rw [va.length, sizeLine_eq]; omega
              · change Pst (if gdOk g S5 = true then _ else _) _ at p5
                split at p5
                · rename_i g5
                  exact ⟨hlt, Φ5, ρ5, S5, putK acc k z, dput kw u accW, ((((le.trans le').trans le3).trans le4).trans le5).off (.inl hD), rel5.off sD5.1 sD5.2.1 (.dK sD5.2.2), g5, sD5.1, sD5.2.1, upd_same, VDs.put hk1 vz ((((va.le le').le le3).le le4).le le5), by have := dput_len kw u accW; omega, p5⟩
                · exact p5.elim
            · exact p4.elim
    · have e : i = ws.length := by omega
      subst e
      rw [List.drop_length] at pl
      exact .inl ⟨walk.stop Φ ρ H S le rel gdS, mkD_done rel va (le1.trans le) h0 dρ dΦ hDl pl⟩
  · exact p1.elim
end
end KF


set_option Elab.async false
set_option linter.all false
set_option autoImplicit false
set_option maxRecDepth 100000
set_option maxHeartbeats 1000000
namespace KF
open PySem PySem.Spec PyProof.Rows L2
section
variable {X : Cx} {T : Tab} {c : Cc}
def forF (tg : Tg) (mb : Env → Sto → Res Fl) : W → Env → Sto → Res Fl := fun x env S => match setT tg x env with
  | some env => mb env S
  | none => .stuck
theorem snd_for {tg : Tg} {t iter : Expr} {body : List Stmt} {pos : Pos} {mi : Env → Sto → Res (List W × Gd)} {mb : Env → Sto → Res Fl} (bl : Blk c X) (hp : PassesOwn (model X.prog X.w) X.A X.env X.xe)
    (hi : PI X t iter (RI X.K T mi)) (htg : tgB c tg t = true) (hset : setB iter = false) (hb : PSs X body (RS X.K T mb)) :
    PS X (.For t iter body [] pos) (RS X.K T fun env S => (mi env S).thenS env fun p S => forLoop p.2 (forF tg mb) p.1 env S) := by
  have hs : ∀ x, foldedSetIterable iter X.env x = pure x := fun x => by
    cases iter <;> first | rfl | (simp [setB] at hset)
  refine ps_of (ps_for hp bl.calm hi (pg_tg bl htg) hb hs) fun D σ H q => ?_
  obtain ⟨Φ0, ρ0, env0, S0, er0, rel0, p⟩ := q
  refine ⟨Φ0, ρ0, env0, S0, er0, rel0, (thenS_bind p).mono fun pr S1 p1 Φ1 ρ1 H1 J le1 rel1 gd walk => ?_⟩
  obtain ⟨ws, g⟩ := pr
  dsimp only at p1 walk gd
  let PW : Nat → L2.St → Hp → Prop := fun i σ H => i ≤ ws.length ∧ ∃ Φ ρ env S, Le Φ1 ρ1 H1 Φ ρ H ∧ EnvR X.K T Φ ρ σ env ∧ Rel X.K T Φ ρ H S ∧ gdOk g S = true ∧ Pst (forLoop g (forF tg mb) (ws.drop i) env S) (EndS X.K T Φ ρ H D)
  refine ⟨fun i mm σ H => mm = ws.length - i ∧ PW i σ H, ⟨_, rfl, Nat.zero_le _, Φ1, ρ1, env0, S1, .refl, er0.le le1, rel1, gd, p1.mono fun _ _ q => q.le le1⟩, ?_⟩
  rintro i mm σ H ⟨rfl, hi, Φ, ρ, env, S, le, er, rel, gdS, pl⟩
  by_cases hlt : i < ws.length
  · have hx : ws[i]? = some ws[i] := List.getElem?_eq_getElem hlt
    obtain ⟨go, yl⟩ := walk.go Φ ρ H S i _ le rel gdS hx
    refine .inr ⟨go, PW (i + 1), fun σ' H' hp => ⟨ws.length - (i + 1), by omega, rfl, hp⟩, fun y H' hy => ?_⟩
    obtain ⟨Φ', le', rel', vy⟩ := yl y H' hy
    rw [drop_at hlt] at pl
    have pl : Pst ((forF tg mb ws[i] env S).bind fun q S => match q with
      | .nx env => if gdOk g S then forLoop g (forF tg mb) (ws.drop (i + 1)) env S else .stuck
      | .ct env => if gdOk g S then forLoop g (forF tg mb) (ws.drop (i + 1)) env S else .stuck
      | .bk env => .ok (.nx env) S
      | q => .ok q S) (EndS X.K T Φ ρ H D) := pl
    cases es : setT tg ws[i] env with
    | none =>
      have e0 : forF tg mb ws[i] env S = .stuck := by unfold forF; rw [es]
      rw [e0] at pl; exact pl.elim
    | some env' =>
      have e0 : forF tg mb ws[i] env S = mb env' S := by unfold forF; rw [es]
      rw [e0] at pl
      refine gT_read rel' vy es (tgB_ne htg) ((er.le le').x _) fun σ' e' _ _ => ⟨Φ', ρ, env', S, e', rel', (Pst.bind pl).mono fun q S3 p3 => ?_⟩
      have again : ∀ {env3 : Env}, Pst (if gdOk g S3 then forLoop g (forF tg mb) (ws.drop (i + 1)) env3 S3 else .stuck) (EndS X.K T Φ ρ H D) → ∀ Φ3 ρ3 σ3 H3, Le Φ' ρ H' Φ3 ρ3 H3 → Rel X.K T Φ3 ρ3 H3 S3 → EnvR X.K T Φ3 ρ3 σ3 env3 → PW (i + 1) σ3 H3 := fun {env3} p3 Φ3 ρ3 σ3 H3 le3 rel3 er3 => by
        split at p3
        · rename_i g3
          exact ⟨hlt, Φ3, ρ3, env3, S3, (le.trans le').trans le3, er3, rel3, g3, p3.mono fun _ _ q => q.le (le'.trans le3)⟩
        · exact p3.elim
      cases q with
      | nx env3 => exact again p3
      | ct env3 => exact again p3
      | bk env3 => exact fun Φ3 ρ3 σ3 H3 le3 rel3 er3 => p3 _ _ _ _ (le'.trans le3) rel3 er3
      | rt w => exact fun Φ3 ρ3 v3 H3 le3 rel3 vr => p3 _ _ _ _ (le'.trans le3) rel3 vr
      | xc _ _ _ => exact p3
  · have e : i = ws.length := by omega
    subst e
    rw [List.drop_length] at pl
    have pl : EndS X.K T Φ ρ H D (.nx env) S := pl
    exact .inl ⟨walk.stop Φ ρ H S le rel gdS, pl _ _ _ _ .refl rel er⟩
theorem snd_while {e : Expr} {body : List Stmt} {pos : Pos} {mt : Env → Sto → Res W} {mb : Env → Sto → Res Fl} {wf : Nat} (hp : PassesOwn (model X.prog X.w) X.A X.env X.xe) (ht : PT X e (RT X.K T (tr mt))) (hb : PSs X body (RS X.K T mb)) :
    PS X (.While e body [] pos) (RS X.K T fun env S => whlLoop (tr mt) mb wf env S) := by
  refine ps_of (ps_while hp ht hb) fun D σ H q => ?_
  obtain ⟨Φ0, ρ0, env0, S0, er0, rel0, p⟩ := q
  refine ⟨fun m σ H => ∃ Φ ρ env S, EnvR X.K T Φ ρ σ env ∧ Rel X.K T Φ ρ H S ∧ Pst (whlLoop (tr mt) mb m env S) (EndS X.K T Φ ρ H D), ⟨wf, Φ0, ρ0, env0, S0, er0, rel0, p⟩, ?_⟩
  rintro m σ H ⟨Φ, ρ, env, S, er, rel, p⟩
  cases m with
  | zero => exact p.elim
  | succ m =>
    refine ⟨Φ, ρ, env, S, er, rel, (thenS_bind p).mono fun k S1 p1 Φ1 ρ1 H1 le1 rel1 => ?_⟩
    cases k with
    | false =>
      rw [if_neg (by decide)] at p1 ⊢
      exact p1 _ _ _ _ le1 rel1 (er.le le1)
    | true =>
      rw [if_pos rfl] at p1 ⊢
      refine ⟨fun σ' H' => ∃ Φ ρ env S, EnvR X.K T Φ ρ σ' env ∧ Rel X.K T Φ ρ H' S ∧ Pst (whlLoop (tr mt) mb m env S) (EndS X.K T Φ ρ H' D), fun σ' H' h => ⟨m, Nat.lt_succ_self m, h⟩, Φ1, ρ1, env, S1, er.le le1, rel1, (Pst.bind p1).mono fun q S2 p2 => ?_⟩
      cases q with
      | nx env3 => exact fun Φ3 ρ3 σ3 H3 le3 rel3 er3 => ⟨Φ3, ρ3, env3, S2, er3, rel3, p2.mono fun _ _ q => (q.le le1).le le3⟩
      | ct env3 => exact fun Φ3 ρ3 σ3 H3 le3 rel3 er3 => ⟨Φ3, ρ3, env3, S2, er3, rel3, p2.mono fun _ _ q => (q.le le1).le le3⟩
      | bk env3 => exact fun Φ3 ρ3 σ3 H3 le3 rel3 er3 => p2 _ _ _ _ (le1.trans le3) rel3 er3
      | rt w => exact fun Φ3 ρ3 v3 H3 le3 rel3 vr => p2 _ _ _ _ (le1.trans le3) rel3 vr
      | xc _ _ _ => exact p2
/-! ### what is walked, further -/
theorem snd_rng1 {tg l : Expr} {ma : Env → Sto → Res W} {p pos : Pos} (hg : Gl X "range") (hm : X.mg "range" = none) (hs : starB l = false) (ha : PE X l (RE X.K T ma)) :
    PI X tg (.Call (.Name "range" p) [l] [] pos) (RI X.K T fun env S => (ma env S).bind fun w S => match w with
      | .int n => if n ≤ SZ ∧ -(SZ : Int) ≤ n then .ok ((List.range n.toNat).map fun k => .int (k : Nat), none) S else .stuck
      | _ => .stuck) := by
  refine pi_of (pi_range1 hg hm (pa_cons ha pa_nil (star_cons hs)) (by rw [star_cons hs]; rfl)) fun σ H R q => ?_
  obtain ⟨Φ, ρ, env, S, er, rel, p⟩ := q
  refine ⟨Φ, ρ, env, S, er, rel, (Pst.bind p).mono fun w S1 p1 Φ1 ρ1 v H1 le1 rel1 vx => ?_⟩
  split at p1
  · rename_i n
    split at p1
    · rename_i hz
      have h1 : n ≤ 1000000 := hz.1
      have h2 : -1000000 ≤ n := hz.2
      cases vx
      refine ⟨n, rfl, by omega, by omega, p1 _ _ _ _ le1 rel1 rfl ?_⟩
      have e : (fun k : Nat => W.int ((0 : Int) + (k : Nat))) = fun k : Nat => W.int (k : Nat) := by funext k; simp
      have := walk_rng (K := X.K) (T := T) (Φ0 := Φ1) (ρ0 := ρ1) (H0 := H1) 0 n.toNat
      rw [e] at this
      exact this
    · exact p1.elim
  · exact p1.elim
theorem snd_rng2 {tg l r : Expr} {ma mb : Env → Sto → Res W} {p pos : Pos} (hg : Gl X "range") (hm : X.mg "range" = none) (hs : starB l = false) (hs2 : starB r = false) (ha : PE X l (RE X.K T ma)) (hb : PE X r (RE X.K T mb)) :
    PI X tg (.Call (.Name "range" p) [l, r] [] pos) (RI X.K T fun env S => (ma env S).bind fun x S => (mb env S).bind fun y S => match x, y with
      | .int i, .int j => if j ≤ SZ ∧ -(SZ : Int) ≤ i ∧ i ≤ SZ ∧ -(SZ : Int) ≤ j then .ok ((List.range (j - i).toNat).map fun k => .int (i + (k : Nat)), none) S else .stuck
      | _, _ => .stuck) := by
  refine pi_of (pi_range2 hg hm (pa_cons ha (pa_cons hb pa_nil (star_cons hs2)) (star_cons hs)) (by rw [star_cons hs, star_cons hs2]; rfl) (by rw [star_cons hs2]; rfl)) fun σ H R q => ?_
  obtain ⟨Φ, ρ, env, S, er, rel, p⟩ := q
  refine ⟨Φ, ρ, env, S, er, rel, (Pst.bind p).mono fun w S1 p1 Φ1 ρ1 v H1 le1 rel1 vx => ⟨Φ1, ρ1, env, S1, er.le le1, rel1, (Pst.bind p1).mono fun y S2 p2 Φ2 ρ2 u H2 le2 rel2 vy => ?_⟩⟩
  split at p2
  · rename_i i j
    split at p2
    · rename_i hz
      have h1 : j ≤ 1000000 := hz.1
      have h2 : -1000000 ≤ i := hz.2.1
      have h3 : i ≤ 1000000 := hz.2.2.1
      have h4 : -1000000 ≤ j := hz.2.2.2
      cases vx; cases vy
      exact ⟨i, j, rfl, by omega, p2 _ _ _ _ (le1.trans le2) rel2 rfl (walk_rng i _)⟩
    · exact p2.elim
  · exact p2.elim
theorem snd_enum {elts : List Expr} {kk : Nat} {l : Expr} {ma : Env → Sto → Res W} {p pos tpos : Pos} (hg : Gl X "enumerate") (hm : X.mg "enumerate" = none) (hs : starB l = false) (ha : PE X l (RE X.K T ma)) :
    PI X (.Tuple elts kk tpos) (.Call (.Name "enumerate" p) [l] [] pos) (RI X.K T fun env S => (ma env S).bind fun w S => match lstOf S w with
      | some l => .ok (l.zipIdx.map fun p => .tup [.int p.2, p.1], gdOf S w) S
      | none => .stuck) := by
  refine pi_of (pi_enum hg hm (pa_cons ha pa_nil (star_cons hs)) (by rw [star_cons hs]; rfl)) fun σ H R q => ?_
  obtain ⟨Φ, ρ, env, S, er, rel, p⟩ := q
  refine ⟨Φ, ρ, env, S, er, rel, (Pst.bind p).mono fun w S1 p1 Φ1 ρ1 v H1 le1 rel1 vx => ?_⟩
  split at p1
  · rename_i l hl
    cases vx with
    | lst h3 h4 =>
      cases hl
      exact ⟨_, _, rfl, .inl (.inl (rel1.sub _ _ h3)), p1 _ _ _ _ le1 rel1 rfl (walk_enumI fun Φ ρ H S le rel _ => ⟨_, .inl (.inl (rel.sub _ _ (le.ph _ _ h3))), h4.le le⟩)⟩
    | @ref i a h3 =>
      cases e2 : S1[i]? with
      | none => simp only [lstOf, e2] at hl; cases hl
      | some o =>
        cases o with
        | lst l' =>
          simp only [lstOf, e2] at hl
          cases hl
          obtain ⟨a', vs, e3, _, h5, _⟩ := lst_ref rel1 (.ref h3) e2
          cases e3
          refine ⟨_, vs, rfl, .inl (.inl h5), p1 _ _ _ _ le1 rel1 (show gdOk (gdOf S1 (.ref i)) S1 = true from gdOf_ok S1 (.ref i)) (walk_enumI fun Φ ρ H S le rel g => ?_)⟩
          have g' : S[i]? = some (.lst l) := by
            simp only [gdOf, e2, Option.map_some] at g
            exact of_decide_eq_true g
          obtain ⟨_, ho, h7, h6⟩ := rel.ob _ _ _ (pre_get le.rp h3) g' (fun z => nomatch z)
          cases h6 with
          | lst q => exact ⟨_, .inl (.inl h7), q⟩
        | _ => simp only [lstOf, e2] at hl; cases hl
    | _ => cases hl
  · exact p1.elim
theorem augOp_ok (op : Bop) : PIp X (opOf op) (R2I X.K T (augOp op)) := by
  intro pins s σ H v u vv uu Q I rv ru h
  obtain ⟨Φ, ρ, S, x, y, rel, vx, uy, h⟩ := h
  unfold augOp at h
  split at h
  · cases vx; cases uy
    exact ip_add pins s σ H _ _ _ _ Q I rv ru ⟨_, _, rfl, rfl, EndE.now h rel (.int _)⟩
  · cases vx; cases uy
    exact ip_sub pins s σ H _ _ _ _ Q I rv ru ⟨_, _, rfl, rfl, EndE.now h rel (.int _)⟩
  · exact h.elim
theorem snd_aug {i : Nat} {x : Str} {e : Expr} {ma : Env → Sto → Res W} {op : Bop} {pos pos' : Pos} (bl : Blk c X) (h1 : c.N[i]? = some x) (h2 : locB c x = true) (ha : PE X e (RE X.K T ma)) :
    PS X (.AugAssign (.Name x pos') (opOf op) e pos) (RS X.K T fun env S => match env[i]? with
      | some (some x) => (ma env S).thenS env fun y S => (augOp op x y S).thenS env fun w S => .ok (.nx (env.set i (some w))) S
      | _ => .stuck) := by
  have ⟨h3, h4⟩ := loc_of h2
  refine ps_of (ps_aug (i := i) (by rw [bl.N]; exact bl.nd) (by rw [bl.N]; exact h1) (by rw [bl.sc]; exact h3) ha (augOp_ok (T := T) op) (by rw [bl.sc, bl.fn]; exact h4)) fun D σ H q => ?_
  obtain ⟨Φ, ρ, env, S, er, rel, p⟩ := q
  dsimp only at p
  split at p
  · rename_i w ew
    obtain ⟨v, hv, vr⟩ := er.2 i w ew
    refine ⟨v, hv, Φ, ρ, env, S, er, rel, (thenS_bind p).mono fun y S1 p1 Φ1 ρ1 u H1 le1 rel1 vy => ⟨Φ1, ρ1, S1, w, y, rel1, vr.le le1, vy, (thenS_bind p1).mono fun z S2 p2 Φ2 ρ2 v2 H2 le2 rel2 vz => ?_⟩⟩
    exact p2 _ _ _ _ (le1.trans le2) rel2 (((er.le le1).le le2).set vz)
  · exact p.elim
end
end KF


set_option Elab.async false
set_option linter.all false
set_option autoImplicit false
set_option maxRecDepth 100000
set_option maxHeartbeats 4000000
namespace KF
open PySem PySem.Spec PyProof.Rows L2
theorem relS_sc {scope : Scope} {cl : List (Str × Addr)} {C : Addr} {env : PySem.Env} : (compEnvC scope cl C env).scope = relS scope env.scope := rfl
section
variable {P : Txt} {G : Prog} {T : Tab} {cf : CF}
theorem Good.blk {c : Cc} {X : Cx} (g : Good P G T cf c X) (scope : Scope) (s : Shared) (H : Hp) (C : Addr) (cl : List (Str × Addr)) (fp : List Addr) : Good P G T cf (blkCc c scope) (X.blk s H scope (compEnvC scope cl C X.env) fp) where
  N := g.N
  sc := by
    show relS scope X.env.scope = relS scope c.sc
    rw [g.sc]
  fn := rfl
  nd := g.nd
  calm := g.calm
  hu := g.hu
  hv := fun h => nomatch h
  lamb := g.lamb
  tab := fun h => nomatch h
  bl := g.bl
  call := fun f x h => let ⟨q⟩ := g.call f x h; ⟨q⟩
  glob := g.glob
theorem plain_true {pe : Expr} {env : PySem.Env} (h : plainT pe = true) : ∀ whole, isTrue pe env whole = (do let v ← whole; standAt pe.pos; holding [v] (PySem.truthy v)) := fun whole => by
  cases pe <;> first | rfl | (simp [plainT] at h)
/-- what is shown of an expression: as a value, as a test -/
def Snd (X : Cx) (T : Tab) (t : Bool) (pe : Expr) (m : Env → Sto → Res W) : Prop := if t then PT X pe (RT X.K T (tr m)) ∧ (∀ op vs p, pe = .BoolOp op vs p → PW X pe (RT X.K T (tr m))) else PE X pe (RE X.K T m)
theorem Snd.e {X : Cx} {pe : Expr} {m : Env → Sto → Res W} (h : Snd X T false pe m) : PE X pe (RE X.K T m) := h
theorem Snd.t {X : Cx} {pe : Expr} {m : Env → Sto → Res W} (h : Snd X T true pe m) : PT X pe (RT X.K T (tr m)) := h.1
/-- a value whose test is its truth -/
theorem Snd.val {X : Cx} {pe : Expr} {m : Env → Sto → Res W} (t : Bool) (h : PE X pe (RE X.K T m)) (hp : plainT pe = true) : Snd X T t pe m := by
  cases t with
  | false => exact h
  | true => exact ⟨snd_tval h (plain_true hp), fun op vs p e => by subst e; simp [plainT] at hp⟩
theorem g_blt {c : Cc} {X : Cx} {n : Str} (g : Good P G T cf c X) (h1 : n ∈ P.bl) (h2 : glB c.sc n = true) : Gl X n ∧ X.mg n = none ∧ n ≠ "__name__" ∧ (n == ("__debug__" : Str)) = false :=
  let ⟨a, b, d⟩ := gl_of g.toBlk h2
  ⟨a, g.bl n h1, d, b⟩
theorem snd_frz {X : Cx} {pe : Expr} {ma : Env → Sto → Res W} (h : PE X pe (RE X.K T ma)) : PE X pe (RE X.K T fun env S => (ma env S).bind fun w S => freeze w S) := by
  refine pe_of h fun σ H Q q => ?_
  obtain ⟨Φ, ρ, env, S, er, rel, p⟩ := q
  refine ⟨Φ, ρ, env, S, er, rel, (Pst.bind p).mono fun w S1 p1 Φ1 ρ1 v H1 le1 rel1 vx => ?_⟩
  unfold freeze at p1
  split at p1
  · split at p1
    · rename_i i l e
      obtain ⟨a, vs, rfl, h1, h2, h3⟩ := lst_ref rel1 vx e
      have h4 := (rel1.ob _ _ _ h1 e (fun z => nomatch z)).1
      exact p1 _ _ _ _ (le1.trans (Le.freeze (ho := .lst vs) h1 h4)) (rel1.freeze h1 e (fun z => nomatch z) h2 (fun _ z => nomatch z)) (.lst upd_same (h3.mono (same_upd h4) (List.prefix_refl _)))
    · rename_i i l e
      obtain ⟨a, vs, rfl, h1, h2, h3⟩ := dic_ref rel1 vx e
      have h4 := (rel1.ob _ _ _ h1 e (fun z => nomatch z)).1
      exact p1 _ _ _ _ (le1.trans (Le.freeze (ho := .dK vs) h1 h4)) (rel1.freeze h1 e (fun z => nomatch z) h2 (fun _ z => nomatch z)) (.dic upd_same (h3.mono (same_upd h4) (List.prefix_refl _)))
    · rename_i i c fs e
      obtain ⟨a, dx, vs, rfl, h1, h2, h3⟩ := ins_ref rel1 vx e
      have h4 := (rel1.ob _ _ _ h1 e (fun z => nomatch z)).1
      exact p1 _ _ _ _ (le1.trans (Le.freeze (ho := .ins (T.ca c) dx vs) h1 h4)) (rel1.freeze h1 e (fun z => nomatch z) h2 (fun _ z => nomatch z)) (.ins upd_same (h3.mono (same_upd h4) (List.prefix_refl _)))
    · exact p1.elim
  · exact p1 _ _ _ _ le1 rel1 vx
mutual
theorem snd (P : Txt) (c : Cc) (X : Cx) (g : Good P G T cf c X) : ∀ (t : Bool) (e : E) (pe : Expr), chk P c t e pe = true → Snd X T t pe (evE G cf e)
  | t, .var i, pe, h => by
    cases pe <;> first | (exfalso; simp [chk] at h; done) | skip
    simp only [chk, Bool.and_eq_true, decide_eq_true_eq, Bool.not_eq_true'] at h
    exact Snd.val t (snd_var g.toBlk h.1.1.1 h.1.1.2 h.1.2 h.2) rfl
  | t, .int i, pe, h => by
    cases pe <;> first | (exfalso; simp [chk] at h; done) | skip
    rename_i k _ _
    cases k <;> first | (exfalso; simp [chk] at h; done) | skip
    simp only [chk, decide_eq_true_eq] at h
    subst h
    exact Snd.val t (snd_const (fun _ _ => rfl) pe_int fun _ _ => .int _) rfl
  | t, .str s, pe, h => by
    cases pe <;> first | (exfalso; simp [chk] at h; done) | skip
    rename_i k _ _
    cases k <;> first | (exfalso; simp [chk] at h; done) | skip
    simp only [chk, strEq, decide_eq_true_eq] at h
    subst h
    exact Snd.val t (snd_const (fun _ _ => rfl) pe_str fun _ _ => .str _) rfl
  | t, .bl b, pe, h => by
    cases pe <;> first | (exfalso; simp [chk] at h; done) | skip
    rename_i k _ _
    cases k <;> first | (exfalso; simp [chk] at h; done) | skip
    simp only [chk, beq_iff_eq] at h
    subst h
    exact Snd.val t (snd_const (fun _ _ => rfl) pe_bl fun _ _ => .bl _) rfl
  | t, .non, pe, h => by
    cases pe <;> first | (exfalso; simp [chk] at h; done) | skip
    rename_i k _ _
    cases k <;> first | (exfalso; simp [chk] at h; done) | skip
    exact Snd.val t (snd_const (fun _ _ => rfl) pe_non fun _ _ => .non) rfl
  | t, .glob n, pe, h => by
    cases pe <;> first | (exfalso; simp [chk] at h; done) | skip
    simp only [chk, Bool.and_eq_true, decide_eq_true_eq] at h
    have ⟨a, b, d⟩ := gl_of g.toBlk h.2
    refine Snd.val t ?_ rfl
    cases e : pget n G.glob with
    | none =>
      refine ⟨fun pins s σ H Q I q => ?_⟩
      obtain ⟨Φ, ρ, env, S, er, rel, p⟩ := q
      exfalso
      have p : Pst (orStuck (pget n G.glob) S) _ := p
      rw [e] at p; exact p
    | some w =>
      obtain ⟨u, v, h1, h2, h3⟩ := g.glob n _ w h.1 e
      exact snd_const (fun env S => by show orStuck (pget n G.glob) S = _; rw [e]; rfl) (pe_glob a h1 h2 b) h3
  | true, .tup es, pe, h => by exfalso; cases pe <;> simp [chk] at h
  | false, .tup es, pe, h => by
    cases pe <;> first | (exfalso; simp [chk] at h; done) | skip
    exact snd_tup (sndEs P c X g es _ (by simpa [chk] using h)).1
  | true, .lst m es, pe, h => by exfalso; cases pe <;> simp [chk] at h
  | false, .lst m es, pe, h => by
    cases pe <;> first | (exfalso; simp [chk] at h; done) | skip
    exact snd_lst (sndEs P c X g es _ (by simpa [chk] using h)).1
  | t, .dct _ _ _, pe, h => by exfalso; cases t <;> cases pe <;> simp [chk] at h
  | true, .bin op m a b, pe, h => by exfalso; cases pe <;> simp [chk] at h
  | false, .bin op m a b, pe, h => by
    cases pe <;> first | (exfalso; simp [chk] at h; done) | skip
    simp only [chk, Bool.and_eq_true, decide_eq_true_eq] at h
    obtain ⟨⟨rfl, h1⟩, h2⟩ := h
    exact snd_bin (snd P c X g false a _ h1) (snd P c X g false b _ h2)
  | true, .neg a, pe, h => by exfalso; cases pe <;> first | (simp [chk] at h; done)
  | false, .neg a, pe, h => by
    cases pe <;> first | (exfalso; simp [chk] at h; done) | skip
    rename_i op _ _
    cases op <;> first | (exfalso; simp [chk] at h; done) | skip
    exact snd_neg (snd P c X g false a _ (by simpa [chk] using h))
  | t, .cmp op a b, pe, h => by
    cases pe <;> first | (exfalso; simp [chk] at h; done) | skip
    rename_i l os rs p
    match os, rs with
    | [o], [r] =>
      simp only [chk, Bool.and_eq_true, decide_eq_true_eq, Bool.not_eq_true'] at h
      obtain ⟨⟨⟨rfl, h1⟩, h2⟩, h3⟩ := h
      have ia := snd P c X g false a _ h1
      have ib := snd P c X g false b _ h2
      cases t with
      | false => exact snd_cmp g.hu ia ib h3
      | true => exact ⟨snd_tcmp g.hu ia ib h3, fun _ _ _ e => nomatch e⟩
    | [], _ => exfalso; simp [chk] at h
    | [_], [] => exfalso; simp [chk] at h
    | [_], _ :: _ :: _ => exfalso; simp [chk] at h
    | _ :: _ :: _, _ => exfalso; simp [chk] at h
  | true, .chn _ _ _ _ _, pe, h => by exfalso; cases pe <;> simp [chk] at h
  | false, .chn o1 o2 a b d, pe, h => by
    cases pe <;> first | (exfalso; simp [chk] at h; done) | skip
    rename_i l os rs p
    match os, rs with
    | [p1, p2], [r1, r2] =>
      simp only [chk, Bool.and_eq_true, decide_eq_true_eq, Bool.not_eq_true'] at h
      obtain ⟨⟨⟨⟨⟨rfl, rfl⟩, h1⟩, h2⟩, h3⟩, h4⟩ := h
      exact snd_chn g.hu (snd P c X g false a _ h1) (snd P c X g false b _ h2) (snd P c X g false d _ h3) h4
    | [], _ => exfalso; simp [chk] at h
    | [_], _ => exfalso; simp [chk] at h
    | [_, _], [] => exfalso; simp [chk] at h
    | [_, _], [_] => exfalso; simp [chk] at h
    | [_, _], _ :: _ :: _ :: _ => exfalso; simp [chk] at h
    | _ :: _ :: _ :: _, _ => exfalso; simp [chk] at h
  | t, .and a b, pe, h => by
    cases pe <;> first | (exfalso; simp [chk] at h; done) | skip
    rename_i op vs p
    cases op <;> first | (exfalso; simp [chk] at h; done) | skip
    match vs with
    | [] => exfalso; simp [chk] at h
    | [_] => exfalso; simp [chk] at h
    | [l, r] =>
      simp only [chk, Bool.and_eq_true] at h
      have ia := snd P c X g t a _ h.1
      have ib := snd P c X g t b _ h.2
      cases t with
      | false => exact snd_and ia.e (pe_one ib.e)
      | true =>
        have w : PW X (.BoolOp .And [l, r] p) (RT X.K T (tr (evE G cf (.and a b)))) := pw_of (pw_and ia.t (pw_and1 ib.t)) fun σ H Q q => rt_and q
        exact ⟨w.pt, fun _ _ _ _ => w⟩
    | l :: r1 :: r2 :: rest =>
      simp only [chk, Bool.and_eq_true] at h
      have ia := snd P c X g t a _ h.1
      have ib := snd P c X g t b _ h.2
      cases t with
      | false => exact snd_and ia.e ib.e
      | true =>
        have w : PW X (.BoolOp .And (l :: r1 :: r2 :: rest) p) (RT X.K T (tr (evE G cf (.and a b)))) := pw_of (pw_and ia.t (ib.2 _ _ _ rfl)) fun σ H Q q => rt_and q
        exact ⟨w.pt, fun _ _ _ _ => w⟩
  | t, .or a b, pe, h => by
    cases pe <;> first | (exfalso; simp [chk] at h; done) | skip
    rename_i op vs p
    cases op <;> first | (exfalso; simp [chk] at h; done) | skip
    match vs with
    | [] => exfalso; simp [chk] at h
    | [_] => exfalso; simp [chk] at h
    | [l, r] =>
      simp only [chk, Bool.and_eq_true] at h
      have ia := snd P c X g t a _ h.1
      have ib := snd P c X g t b _ h.2
      cases t with
      | false => exact snd_or ia.e (pe_one ib.e)
      | true =>
        have w : PW X (.BoolOp .Or [l, r] p) (RT X.K T (tr (evE G cf (.or a b)))) := pw_of (pw_or ia.t (pw_or1 ib.t)) fun σ H Q q => rt_or q
        exact ⟨w.pt, fun _ _ _ _ => w⟩
    | l :: r1 :: r2 :: rest =>
      simp only [chk, Bool.and_eq_true] at h
      have ia := snd P c X g t a _ h.1
      have ib := snd P c X g t b _ h.2
      cases t with
      | false => exact snd_or ia.e ib.e
      | true =>
        have w : PW X (.BoolOp .Or (l :: r1 :: r2 :: rest) p) (RT X.K T (tr (evE G cf (.or a b)))) := pw_of (pw_or ia.t (ib.2 _ _ _ rfl)) fun σ H Q q => rt_or q
        exact ⟨w.pt, fun _ _ _ _ => w⟩
  | t, .not a, pe, h => by
    cases pe <;> first | (exfalso; simp [chk] at h; done) | skip
    rename_i op _ _
    cases op <;> first | (exfalso; simp [chk] at h; done) | skip
    have ia := snd P c X g t a _ (by simpa [chk] using h)
    cases t with
    | false => exact snd_not ia.e
    | true => exact ⟨pt_of (pt_not ia.t) fun σ H Q q => rt_not q, fun _ _ _ e => nomatch e⟩
  | true, .ite _ _ _, pe, h => by exfalso; cases pe <;> simp [chk] at h
  | false, .ite u a b, pe, h => by
    cases pe <;> first | (exfalso; simp [chk] at h; done) | skip
    simp only [chk, Bool.and_eq_true] at h
    exact snd_ite (snd P c X g true u _ h.1.1).t (snd P c X g false a _ h.1.2).e (snd P c X g false b _ h.2).e
  | t, .sub a i, pe, h => by
    cases pe <;> first | (exfalso; simp [chk] at h; done) | skip
    simp only [chk, Bool.and_eq_true] at h
    exact Snd.val t (snd_sub g.hu (snd P c X g false a _ h.1.1).e (snd P c X g false i _ h.1.2).e h.2) rfl
  | t, .slc m a lo hi, pe, h => by
    cases pe <;> first | (exfalso; simp [chk] at h; done) | skip
    rename_i l s p
    cases s <;> first | (exfalso; simp [chk] at h; done) | skip
    rename_i x y st p2
    cases st <;> first | (exfalso; simp [chk] at h; done) | skip
    simp only [chk, Bool.and_eq_true] at h
    exact Snd.val t (snd_slc (snd P c X g false a _ h.1.1).e (sndO P c X g lo _ h.1.2) (sndO P c X g hi _ h.2)) rfl
  | t, .attr _ _, pe, h => by exfalso; cases t <;> cases pe <;> simp [chk] at h
  | t, .call f es, pe, h => by
    cases pe <;> first | (exfalso; simp [chk] at h; done) | skip
    rename_i fe as ks p
    cases fe <;> first | (exfalso; simp [chk] at h; done) | skip
    rename_i x p2
    cases ks <;> first | (exfalso; simp [chk] at h; done) | skip
    simp only [chk, Bool.and_eq_true, decide_eq_true_eq] at h
    have ⟨a, b, d⟩ := gl_of g.toBlk h.1.2
    have C := g.call f x h.1.1
    refine Snd.val t ?_ rfl
    obtain ⟨i1, i2⟩ := sndEs P c X g es _ h.2
    cases as with
    | nil =>
      cases es with
      | nil => exact snd_call0 a b C
      | cons _ _ => exfalso; have := h.2; simp [chkEs] at this
    | cons l ls => exact snd_call a b C i2 i1
  | _, .callk _ _ _ _, pe, h => by exfalso; cases pe <;> simp [chk] at h
  | _, .make _ _ _ _ _, pe, h => by exfalso; cases pe <;> simp [chk] at h
  | _, .meth _ _ _, pe, h => by exfalso; cases pe <;> simp [chk] at h
  | t, .blt b m .nil, pe, h => by exfalso; cases pe <;> simp [chk] at h
  | t, .blt b m (.cons a .nil), pe, h => by
    cases pe <;> first | (exfalso; simp [chk] at h; done) | skip
    rename_i fe as ks p
    cases ks with
    | cons _ _ => exfalso; simp [chk] at h
    | nil =>
      simp only [chk] at h
      split at h
      · rename_i l e1
        simp only [Bool.and_eq_true, Bool.not_eq_true'] at h
        obtain ⟨h3, h4⟩ := h
        have ia := (snd P c X g false a _ h3).e
        have e0 : evE G cf (.blt b m (.cons a .nil)) = fun env S => (evE G cf a env S).bind fun w S => bltin b m [w] S := by
          funext env S
          show Res.bind (Res.bind (evE G cf a env S) _) _ = _
          cases evE G cf a env S <;> rfl
        rw [e0]
        refine Snd.val t ?_ rfl
        rcases bltArg_of e1 with ⟨rfl, f2, p3, rfl, h1, h2⟩ | ⟨rfl, f2, rfl, h1, h2⟩ | ⟨rfl, h1, h2⟩
        · obtain ⟨p2, rfl, h5, h6⟩ := bltB_of h1
          obtain ⟨p4, rfl, h7, h8⟩ := bltB_of h2
          obtain ⟨a1, a2, a3, a4⟩ := g_blt g h5 h6
          obtain ⟨b1, b2, b3, b4⟩ := g_blt g h7 h8
          exact snd_lenSet g.calm a1 a2 b1 b2 h4 ia
        · obtain ⟨p2, rfl, h5, h6⟩ := bltB_of h1
          obtain ⟨p4, rfl, h7, h8⟩ := bltB_of h2
          obtain ⟨a1, a2, a3, a4⟩ := g_blt g h5 h6
          obtain ⟨b1, b2, b3, b4⟩ := g_blt g h7 h8
          exact snd_isList a1 a2 b1 b2 h4 ia
        · obtain ⟨p2, rfl, h5, h6⟩ := bltB_of h2
          obtain ⟨a1, a2, a3, a4⟩ := g_blt g h5 h6
          cases b <;> first | (exfalso; simp [bltOne] at h1; done) | skip
          · exact snd_blt1 (len_ok m) a1 a2 boot_len a3 a4 h4 ia
          · exact snd_ty1 (int_ok m) a1 a2 (by decide +kernel) a3 a4 h4 ia
          · exact snd_ty1 (list_ok m) a1 a2 (by decide +kernel) a3 a4 h4 ia
          · exact snd_ty1 (tuple_ok m) a1 a2 (by decide +kernel) a3 a4 h4 ia
          · exact snd_blt1 (sorted_ok g.hu m) a1 a2 (by decide +kernel) a3 a4 h4 ia
      · cases h
  | t, .blt b m (.cons a (.cons a2 .nil)), pe, h => by
    cases pe <;> first | (exfalso; simp [chk] at h; done) | skip
    rename_i fe as ks p
    match as, ks with
    | [l, l2], [] =>
      simp only [chk, Bool.and_eq_true, Bool.not_eq_true'] at h
      obtain ⟨⟨⟨⟨⟨h1, h2⟩, h3⟩, h3'⟩, h4⟩, h4'⟩ := h
      obtain ⟨p2, rfl, h5, h6⟩ := bltB_of h2
      obtain ⟨a1, a2', a3, a4⟩ := g_blt g h5 h6
      have ia := (snd P c X g false a _ h3).e
      have ib := (snd P c X g false a2 _ h3').e
      have e0 : evE G cf (.blt b m (.cons a (.cons a2 .nil))) = fun env S => (evE G cf a env S).bind fun w S => (evE G cf a2 env S).bind fun u S => bltin b m [w, u] S := by
        funext env S
        show Res.bind (Res.bind (evE G cf a env S) _) _ = _
        cases evE G cf a env S with
        | ok w S1 =>
          show Res.bind (Res.bind (Res.bind (evE G cf a2 env S1) _) _) _ = Res.bind (evE G cf a2 env S1) _
          cases evE G cf a2 env S1 <;> rfl
        | ex _ _ _ => rfl
        | stuck => rfl
      rw [e0]
      refine Snd.val t ?_ rfl
      cases b <;> first | (exfalso; simp [bltTwo] at h1; done) | skip
      · exact snd_blt2 (min2_ok m g.calm) a1 a2' (by decide +kernel) a3 a4 h4 h4' ia ib
      · exact snd_blt2 (max2_ok m g.calm) a1 a2' (by decide +kernel) a3 a4 h4 h4' ia ib
    | [], _ => exfalso; simp [chk] at h
    | [_], _ => exfalso; simp [chk] at h
    | [_, _], _ :: _ => exfalso; simp [chk] at h
    | _ :: _ :: _ :: _, _ => exfalso; simp [chk] at h
  | t, .blt b m (.cons _ (.cons _ (.cons _ _))), pe, h => by exfalso; cases pe <;> simp [chk] at h
  | t, .bm b m o es, pe, h => by
    cases b <;> first | (exfalso; cases pe <;> simp [chk] at h; done) | skip
    match es with
    | .nil => exfalso; cases pe <;> simp [chk] at h
    | .cons _ (.cons _ _) => exfalso; cases pe <;> simp [chk] at h
    | .cons a .nil =>
      cases pe <;> first | (exfalso; simp [chk] at h; done) | skip
      rename_i fe as ks p
      cases fe <;> first | (exfalso; simp [chk] at h; done) | skip
      rename_i l n apos
      match as, ks with
      | [r], [] =>
        simp only [chk, Bool.and_eq_true, Bool.not_eq_true', decide_eq_true_eq] at h
        obtain ⟨⟨⟨⟨⟨rfl, h1⟩, h2⟩, h3⟩, h4⟩, h5⟩ := h
        have io := (snd P c X g false o _ h1).e
        have ia := (snd P c X g false a _ h2).e
        have e0 : evE G cf (.bm .append m o (.cons a .nil)) = fun env S => (evE G cf o env S).bind fun x S => if bmOk .append x S = true then (evE G cf a env S).bind fun w S => bmeth .append m x [w] S else .stuck := by
          funext env S
          show Res.bind (evE G cf o env S) _ = Res.bind (evE G cf o env S) _
          congr 1
          funext x S1
          by_cases hk : bmOk .append x S1 = true
          · rw [if_pos hk, if_pos hk]
            show Res.bind (Res.bind (evE G cf a env S1) _) _ = _
            cases evE G cf a env S1 <;> rfl
          · rw [if_neg hk, if_neg hk]
        rw [e0]
        exact Snd.val t (snd_append h3 h4 h5 io ia) rfl
      | [], _ => exfalso; simp [chk] at h
      | [_], _ :: _ => exfalso; simp [chk] at h
      | _ :: _ :: _, _ => exfalso; simp [chk] at h
  | true, .lc _ _ _ _ _, pe, h => by exfalso; cases pe <;> simp [chk] at h
  | false, .lc m elt tg it cs, pe, h => by
    cases pe <;> first | (exfalso; simp [chk] at h; done) | skip
    rename_i l gs scope p
    match gs with
    | [] => exfalso; simp [chk] at h
    | _ :: _ :: _ => exfalso; simp [chk] at h
    | [⟨tt, iter, ifs, asy⟩] =>
      simp only [chk, Bool.and_eq_true, Bool.not_eq_true', decide_eq_true_eq] at h
      obtain ⟨⟨⟨⟨⟨⟨⟨rfl, h1⟩, h2⟩, h3⟩, h4⟩, h5⟩, h6⟩, h7⟩ := h
      exact snd_lc g.toBlk (sndI P c X g it tt iter h4) h1 h2 (tgB_ne h3) h5 (fun s H C cl fp => pg_tg (g.blk scope s H C cl fp).toBlk h3)
        (fun s H C cl fp => sndTs P _ _ (g.blk scope s H C cl fp) cs ifs h6) (fun s H C cl fp => (snd P _ _ (g.blk scope s H C cl fp) false elt l h7).e)
  | _, .lc2 _ _ _ _ _ _ _ _, pe, h => by exfalso; cases pe <;> simp [chk] at h
  | _, .tgen _ _ _ _, pe, h => by exfalso; cases pe <;> simp [chk] at h
  | true, .dc _ _ _ _ _ _, pe, h => by exfalso; cases pe <;> simp [chk] at h
  | false, .dc m k v tg it cs, pe, h => by
    cases pe <;> first | (exfalso; simp [chk] at h; done) | skip
    rename_i kx vx gs scope p
    match gs with
    | [] => exfalso; simp [chk] at h
    | _ :: _ :: _ => exfalso; simp [chk] at h
    | [⟨tt, iter, ifs, asy⟩] =>
      simp only [chk, Bool.and_eq_true, Bool.not_eq_true', decide_eq_true_eq] at h
      obtain ⟨⟨⟨⟨⟨⟨⟨⟨rfl, h1⟩, h2⟩, h3⟩, h4⟩, h5⟩, h6⟩, h7⟩, h8⟩ := h
      exact snd_dc g.toBlk (sndI P c X g it tt iter h4) h1 h2 (tgB_ne h3) h5 (fun s H C cl fp => pg_tg (g.blk scope s H C cl fp).toBlk h3)
        (fun s H C cl fp => sndTs P _ _ (g.blk scope s H C cl fp) cs ifs h6) (fun s H C cl fp => (snd P _ _ (g.blk scope s H C cl fp) false k kx h7).e) (fun s H C cl fp => (snd P _ _ (g.blk scope s H C cl fp) false v vx h8).e)
  | true, .sortk _ _ _ _ _ _, pe, h => by exfalso; cases pe <;> simp [chk] at h
  | false, .sortk m a id js ns key, pe, h => by
    cases pe <;> first | (exfalso; simp [chk] at h; done) | skip
    rename_i fe as ks p
    match as, ks with
    | [], _ => exfalso; simp [chk] at h
    | _ :: _ :: _, _ => exfalso; simp [chk] at h
    | [_], [] => exfalso; simp [chk] at h
    | [_], _ :: _ :: _ => exfalso; simp [chk] at h
    | [l], [⟨kn, lam, kp⟩] =>
      cases lam <;> first | (exfalso; simp [chk] at h; done) | skip
      rename_i params body scope lp
      simp only [chk, Bool.and_eq_true, Bool.not_eq_true'] at h
      obtain ⟨⟨⟨h1, h2⟩, h3⟩, h4⟩ := h
      split at h4
      · rename_i q e1
        obtain ⟨N', x, ap⟩ := q
        obtain ⟨rfl, rfl, hl, hN, hlen, hx, hS, hB, hjs⟩ := lamOk_of e1
        obtain ⟨p2, rfl, h5, h6⟩ := bltB_of h1
        obtain ⟨a1, a2, a3, a4⟩ := g_blt g h5 h6
        obtain ⟨cc, Pt, TB, hc, hT, hTu⟩ := g.tab hl
        have hv := g.hv hl
        refine snd_sortk (N' := N') (fr := frOf scope) (by omega) hv.2 g.calm a1 a2 h2 (snd P c X g false a _ h3).e TB hc hT hTu hS hlen (by rw [g.sc]; exact hB) (by rw [g.N]; exact hjs) (g.lamb id N' x hN hx ap) fun F f s H e1 e2 => ?_
        refine (snd { P with fn := [] } ⟨N', scope, fun _ => false, false⟩ (NdefX.ncx CX0 X.prog X.w X.K X.mg X.base N' F f X.A.in1.in1 X.stack s H E0) ⟨⟨rfl, ?_, rfl, hS.nd, rfl⟩, ?_, (fun h => nomatch h), g.lamb, (fun h => nomatch h), g.bl, (fun f x h => by simp [pget] at h), g.glob⟩ false key body h4).e
        · show F.scope = scope
          exact e1
        · show X.A.units + 1 + 1 + 3 + 66 < cLine
          omega
      · cases h4
  | true, .frz a, pe, h => by exfalso; cases pe <;> simp [chk] at h
  | false, .frz a, pe, h => snd_frz (snd P c X g false a pe (by simpa [chk] using h)).e
theorem sndEs (P : Txt) (c : Cc) (X : Cx) (g : Good P G T cf c X) : ∀ (es : Es) (l : List Expr), chkEs P c es l = true → PA X l (RA X.K T (evEs G cf es)) ∧ ∀ a ∈ l, starB a = false
  | .nil, [], _ => ⟨snd_nil, fun _ h => nomatch h⟩
  | .nil, _ :: _, h => by exfalso; simp [chkEs] at h
  | .cons _ _, [], h => by exfalso; simp [chkEs] at h
  | .cons e r, l :: ls, h => by
    simp only [chkEs, Bool.and_eq_true, Bool.not_eq_true'] at h
    obtain ⟨i1, i2⟩ := sndEs P c X g r ls h.2
    refine ⟨snd_cons h.1.2 (snd P c X g false e l h.1.1).e i1, fun a ha => ?_⟩
    rcases List.mem_cons.mp ha with rfl | ha
    · exact h.1.2
    · exact i2 a ha
theorem sndO (P : Txt) (c : Cc) (X : Cx) (g : Good P G T cf c X) : ∀ (o : Eo) (l : Option Expr), chkO P c o l = true → PO X l (ROv X.K T (evO G cf o))
  | .none, none, _ => snd_ono
  | .none, some _, h => by exfalso; simp [chkO] at h
  | .some _, none, h => by exfalso; simp [chkO] at h
  | .some e, some l, h => snd_oso (snd P c X g false e l (by simpa [chkO] using h)).e
theorem sndTs (P : Txt) (c : Cc) (X : Cx) (g : Good P G T cf c X) : ∀ (es : Es) (l : List Expr), chkTs P c es l = true → PTs X l (RT X.K T (evTs G cf es))
  | .nil, [], _ => by
    refine ⟨fun pins s σ H Q I h => pts_nil.run pins s σ H Q I ?_⟩
    obtain ⟨Φ, ρ, env, S, er, rel, p⟩ := h
    exact p _ _ _ .refl rel
  | .nil, _ :: _, h => by exfalso; simp [chkTs] at h
  | .cons _ .nil, [], h => by exfalso; simp [chkTs] at h
  | .cons _ .nil, _ :: _ :: _, h => by exfalso; simp [chkTs] at h
  | .cons _ (.cons _ _), l, h => by exfalso; cases l <;> simp [chkTs] at h
  | .cons e .nil, [l], h => pts_one (snd P c X g true e l (by simpa [chkTs] using h)).t
theorem sndI (P : Txt) (c : Cc) (X : Cx) (g : Good P G T cf c X) : ∀ (it : It) (t iter : Expr), chkI P c it t iter = true → PI X t iter (RI X.K T (evI G cf it))
  | .val e, t, iter, h => by
    have i1 := (snd P c X g false e iter (by simpa [chkI] using h)).e
    exact snd_ival i1 (pi_tup i1) (pi_list i1)
  | .rng1 e, t, iter, h => by
    cases iter <;> first | (exfalso; simp [chkI] at h; done) | skip
    rename_i fe as ks p
    match as, ks with
    | [l], [] =>
      simp only [chkI, Bool.and_eq_true, Bool.not_eq_true'] at h
      obtain ⟨p2, rfl, h5, h6⟩ := bltB_of h.1.1
      obtain ⟨a1, a2, a3, a4⟩ := g_blt g h5 h6
      exact snd_rng1 a1 a2 h.2 (snd P c X g false e l h.1.2).e
    | [], _ => exfalso; simp [chkI] at h
    | [_], _ :: _ => exfalso; simp [chkI] at h
    | _ :: _ :: _, _ => exfalso; simp [chkI] at h
  | .rng2 a b, t, iter, h => by
    cases iter <;> first | (exfalso; simp [chkI] at h; done) | skip
    rename_i fe as ks p
    match as, ks with
    | [l, r], [] =>
      simp only [chkI, Bool.and_eq_true, Bool.not_eq_true'] at h
      obtain ⟨⟨⟨⟨h1, h2⟩, h3⟩, h4⟩, h7⟩ := h
      obtain ⟨p2, rfl, h5, h6⟩ := bltB_of h1
      obtain ⟨a1, a2, a3, a4⟩ := g_blt g h5 h6
      exact snd_rng2 a1 a2 h4 h7 (snd P c X g false a l h2).e (snd P c X g false b r h3).e
    | [], _ => exfalso; simp [chkI] at h
    | [_], _ => exfalso; simp [chkI] at h
    | [_, _], _ :: _ => exfalso; simp [chkI] at h
    | _ :: _ :: _ :: _, _ => exfalso; simp [chkI] at h
  | .enum e, t, iter, h => by
    cases iter <;> first | (exfalso; simp [chkI] at h; done) | skip
    rename_i fe as ks p
    match as, ks with
    | [l], [] =>
      simp only [chkI, Bool.and_eq_true, Bool.not_eq_true'] at h
      obtain ⟨⟨⟨h1, h2⟩, h3⟩, h4⟩ := h
      obtain ⟨p2, rfl, h5, h6⟩ := bltB_of h1
      obtain ⟨a1, a2, a3, a4⟩ := g_blt g h5 h6
      cases t <;> first | (exfalso; simp at h4; done) | skip
      exact snd_enum a1 a2 h3 (snd P c X g false e l h2).e
    | [], _ => exfalso; simp [chkI] at h
    | [_], _ :: _ => exfalso; simp [chkI] at h
    | _ :: _ :: _, _ => exfalso; simp [chkI] at h
  | .rev1 _, t, iter, h => by exfalso; cases iter <;> simp [chkI] at h
  | .revl _, t, iter, h => by exfalso; cases iter <;> simp [chkI] at h
  | .zip _ _, t, iter, h => by exfalso; cases iter <;> simp [chkI] at h
  | .items _, t, iter, h => by exfalso; cases iter <;> simp [chkI] at h
  | .vals _, t, iter, h => by exfalso; cases iter <;> simp [chkI] at h
end
end
end KF


set_option Elab.async false
set_option linter.all false
set_option autoImplicit false
set_option maxRecDepth 100000
set_option maxHeartbeats 4000000
namespace KF
open PySem PySem.Spec PyProof.Rows L2
section
variable {P : Txt} {G : Prog} {T : Tab} {cf : CF}
theorem nTup_ne {v : Expr} (h : nTup v = true) : ∀ es k p, v ≠ .Tuple es k p := fun es k p e => by subst e; simp [nTup] at h
mutual
theorem sndS (c : Cc) (X : Cx) (g : Good P G T cf c X) (hp : PassesOwn (model X.prog X.w) X.A X.env X.xe) (wf : Nat) : ∀ (s : S) (st : Stmt), chkS P c s st = true → PS X st (RS X.K T (evS G cf wf s))
  | .set i e, st, h => by
    cases st <;> first | (exfalso; simp [chkS] at h; done) | skip
    rename_i ts v sp
    simp only [chkS, Bool.and_eq_true] at h
    obtain ⟨x, p, rfl, h1, h2⟩ := oneNm_of h.1.1
    have h3 := h.1.2
    have sw := swap_eq X.env v x p sp.line
    rw [g.sc] at sw
    cases hb : swapB c.sc v x p with
    | false =>
      rw [hb] at sw
      exact snd_set g.toBlk h1 h2 sw (snd P c X g false e _ h.2).e
    | true =>
      rw [hb] at sw
      simp only [setOk, hb, Bool.not_true, Bool.false_or] at h3
      cases e <;> first | (exfalso; simp at h3; done) | skip
      rename_i m elt tg it cs
      have h4 := h.2
      cases v <;> first | (exfalso; simp [chk] at h4; done) | skip
      rename_i l gs scope p2
      match gs with
      | [] => exfalso; simp [chk] at h4
      | _ :: _ :: _ => exfalso; simp [chk] at h4
      | [⟨tt, iter, ifs, asy⟩] =>
        simp only [chk, Bool.and_eq_true, Bool.not_eq_true', decide_eq_true_eq] at h4
        obtain ⟨⟨⟨⟨⟨⟨⟨rfl, k1⟩, k2⟩, k3⟩, k4⟩, k5⟩, k6⟩, k7⟩ := h4
        have hl : X.env.scope.names.lookup x = some .local := by
          rw [g.sc]
          simp only [swapB, Bool.and_eq_true, beq_iff_eq] at hb
          exact hb.1.1.2
        exact snd_setLc g.toBlk h1 hl sw (sndI P c X g it tt iter k4) k1 k2 (tgB_ne k3) k5 (fun s H C cl fp => pg_tg (g.blk scope s H C cl fp).toBlk k3)
          (fun s H C cl fp => sndTs P _ _ (g.blk scope s H C cl fp) cs ifs k6) (fun s H C cl fp => (snd P _ _ (g.blk scope s H C cl fp) false elt l k7).e)
  | .unp l e, st, h => by
    cases st <;> first | (exfalso; simp [chkS] at h; done) | skip
    simp only [chkS, Bool.and_eq_true, Bool.not_eq_true'] at h
    obtain ⟨t, rfl, h1⟩ := oneTg_of h.1.1.1
    exact snd_asg g.toBlk h1 h.1.1.2 (nTup_ne h.1.2) (snd P c X g false e _ h.2).e
  | .par _ _, st, h => by exfalso; cases st <;> simp [chkS] at h
  | .asub o i e, st, h => by
    cases st <;> first | (exfalso; simp [chkS] at h; done) | skip
    simp only [chkS] at h
    split at h
    · rename_i a b e1
      obtain ⟨p, rfl⟩ := oneSub_of e1
      simp only [Bool.and_eq_true, Bool.not_eq_true'] at h
      obtain ⟨⟨⟨⟨⟨h1, h2⟩, h3⟩, h4⟩, h5⟩, h6⟩ := h
      exact snd_asub g.hu h1 h2 (nTup_ne h3) (snd P c X g false o _ h4).e (snd P c X g false i _ h5).e (snd P c X g false e _ h6).e
    · cases h
  | .afld _ _ _, st, h => by exfalso; cases st <;> simp [chkS] at h
  | .aug i op e, st, h => by
    cases st <;> first | (exfalso; simp [chkS] at h; done) | skip
    simp only [chkS, Bool.and_eq_true, decide_eq_true_eq] at h
    obtain ⟨⟨h1, rfl⟩, h4⟩ := h
    obtain ⟨x, p, e1, h2, h3⟩ := oneNm_of h1
    cases e1
    exact snd_aug g.toBlk h2 h3 (snd P c X g false e _ h4).e
  | .augf _ _ _ _, st, h => by exfalso; cases st <;> simp [chkS] at h
  | .expr e, st, h => by
    cases st <;> first | (exfalso; simp [chkS] at h; done) | skip
    simp only [chkS, Bool.and_eq_true, Bool.not_eq_true'] at h
    exact snd_expr h.1 (snd P c X g false e _ h.2).e
  | .ret e, st, h => by
    cases st <;> first | (exfalso; simp [chkS] at h; done) | skip
    rename_i v p
    cases v <;> first | (exfalso; simp [chkS] at h; done) | skip
    exact snd_ret (snd P c X g false e _ (by simpa [chkS] using h)).e
  | .retn, st, h => by
    cases st <;> first | (exfalso; simp [chkS] at h; done) | skip
    rename_i v p
    cases v <;> first | (exfalso; simp [chkS] at h; done) | skip
    exact snd_retn
  | .ite t a b, st, h => by
    cases st <;> first | (exfalso; simp [chkS] at h; done) | skip
    simp only [chkS, Bool.and_eq_true] at h
    exact snd_if (snd P c X g true t _ h.1.1).t (sndSs c X g hp wf a _ h.1.2) (sndSs c X g hp wf b _ h.2)
  | .for tg it b, st, h => by
    cases st <;> first | (exfalso; simp [chkS] at h; done) | skip
    simp only [chkS, Bool.and_eq_true, Bool.not_eq_true'] at h
    have e1 := isNil_of h.1.1.1.1
    subst e1
    exact snd_for g.toBlk hp (sndI P c X g it _ _ h.1.2) h.1.1.1.2 h.1.1.2 (sndSs c X g hp wf b _ h.2)
  | .whl t b, st, h => by
    cases st <;> first | (exfalso; simp [chkS] at h; done) | skip
    simp only [chkS, Bool.and_eq_true] at h
    have e1 := isNil_of h.1.1
    subst e1
    exact snd_while hp (snd P c X g true t _ h.1.2).t (sndSs c X g hp wf b _ h.2)
  | .pass, st, h => by
    cases st <;> first | (exfalso; simp [chkS] at h; done) | skip
    refine ps_of ps_pass fun D σ H q => ?_
    obtain ⟨Φ, ρ, env, S, er, rel, p⟩ := q
    exact p _ _ _ _ .refl rel er
  | .brk, st, h => by
    cases st <;> first | (exfalso; simp [chkS] at h; done) | skip
    refine ps_of ps_break fun D σ H q => ?_
    obtain ⟨Φ, ρ, env, S, er, rel, p⟩ := q
    exact p _ _ _ _ .refl rel er
  | .cnt, st, h => by
    cases st <;> first | (exfalso; simp [chkS] at h; done) | skip
    refine ps_of ps_continue fun D σ H q => ?_
    obtain ⟨Φ, ρ, env, S, er, rel, p⟩ := q
    exact p _ _ _ _ .refl rel er
  | .raise e, st, h => by
    refine ps_of ps_never fun D σ H q => ?_
    obtain ⟨Φ, ρ, env, S, er, rel, p⟩ := q
    exact p.elim
theorem sndSs (c : Cc) (X : Cx) (g : Good P G T cf c X) (hp : PassesOwn (model X.prog X.w) X.A X.env X.xe) (wf : Nat) : ∀ (s : Ss) (st : List Stmt), chkSs P c s st = true → PSs X st (RS X.K T (evSs G cf wf s))
  | .nil, [], _ => snd_snil
  | .nil, _ :: _, h => by exfalso; simp [chkSs] at h
  | .cons _ _, [], h => by exfalso; simp [chkSs] at h
  | .cons s r, l :: ls, h => by
    simp only [chkSs, Bool.and_eq_true] at h
    exact snd_scons (sndS c X g hp wf s l h.1) (sndSs c X g hp wf r ls h.2)
end
end
end KF


set_option Elab.async false
set_option linter.all false
set_option autoImplicit false
set_option maxRecDepth 100000
set_option maxHeartbeats 4000000
namespace KF
open PySem PySem.Spec PyProof.Rows L2
/-- a def of the text -/
structure DefI where
  id : Nat
  x : Str
  params : Arguments
  body : List Stmt
  scope : Scope
  N : List Str
  ps : List Str
  lam : Bool := false
/-- the name of the functions that a def of the module makes -/
def lamQ (x : Str) : Str := x ++ ".<locals>." ++ "<lambda>"
def DefI.ok (P : Txt) (G : Prog) (d : DefI) : Bool := match pget d.id G.dfs with
  | some D => decide (D.np = d.ps.length) && decide (D.ns = d.N.length) && chkSs P ⟨d.N, d.scope, fun _ => true, d.lam⟩ D.body d.body
  | none => false
section
variable {P : Txt} {G : Prog} {T : Tab} {Pr : Program} {w : World} {K : PySem.W.Frag} {mg : Str → Option Value} {base : Heap} {wf : Nat}
structure DefF (P : Txt) (G : Prog) (K : PySem.W.Frag) (mg : Str → Option Value) (base : Heap) (T : Tab) (d : DefI) : Prop where
  ok : d.ok P G = true
  S : FnScope d.N d.ps d.scope
  F : ∃ a fd, FunD K d.x d.x d.params d.body d.scope [] [] a fd ∧ mg d.x = some (.ref a) ∧ Binds K fd d.ps [] ∧ (d.lam = true → ∃ cc Pt, LamX.TabB base mg cc Pt ∧ fd.code = .ref cc ∧ (Pt, lamQ d.x) ∈ T.tabs ∧ ∀ p ∈ T.tabs, p.1 = Pt → p.2 = lamQ d.x)
theorem Room.hu {k : Nat} {A : Around} (r : L2.Room k A) : A.units + 66 < cLine := by have := r.un; omega
theorem Room.hv {k : Nat} {A : Around} (r : L2.Room k A) : A.units + 90 < cLine ∧ A.depth < recursionLimit := ⟨by have := r.un; omega, by have := r.dp; omega⟩
theorem runD_read {K : PySem.W.Frag} {cf : CF} {D : Def} {ws : List W} {S : Sto} {R : W → Sto → Prop} (h : Pst (runD G cf wf D ws S) R) : ws.length = D.np ∧ Pst (evSs G cf wf D.body (ws.map some ++ List.replicate (D.ns - D.np) none) S) fun q S => match q with
    | .nx _ => R .non S
    | .rt w => R w S
    | _ => False := by
  unfold runD at h
  split at h
  · rename_i e
    refine ⟨e, (Pst.bind h).mono fun q S1 p => ?_⟩
    cases q <;> exact p
  · exact h.elim
theorem EnvR.start {Φ : Hp} {ρ : List Addr} {vs : List V} {ws : List W} (h : VRs K T Φ ρ vs ws) (N : List Str) (n : Nat) (hn : n = N.length - vs.length) : EnvR K T Φ ρ (L2.start N vs) (ws.map some ++ List.replicate n none) := by
  unfold L2.start
  rw [← hn]
  refine ⟨by simp [h.length], fun i w e => ?_⟩
  by_cases hi : i < ws.length
  · rw [List.getElem?_append_left (by simpa using hi), List.getElem?_map] at e
    cases e1 : ws[i]? with
    | none => rw [e1] at e; cases e
    | some u =>
      rw [e1] at e
      cases e
      obtain ⟨v, hv, r⟩ := h.get e1
      refine ⟨v, ?_, r⟩
      rw [List.getElem?_append_left (by simp [h.length]; exact hi), List.getElem?_map, hv]
      rfl
  · rw [List.getElem?_append_right (by simpa using hi), List.getElem?_replicate] at e
    split at e <;> cases e
theorem defs_ok (defs : List DefI) (hd : ∀ d ∈ defs, DefF P G K mg base T d) (hall : ∀ f x, pget f P.fn = some x → ∃ d ∈ defs, d.id = f ∧ d.x = x) (hbl : ∀ x ∈ P.bl, mg x = none)
    (hlam : ∀ id N' x, pget id P.lam = some N' → N'.head? = some x → ∀ (ap : Pos) (q : Str) (body : Expr) (scope : Scope) (cl : List (Str × Addr)) (pm cv ctv u : Value), bindArgs (PySem.W.kla_fn "<lambda>" q ⟨[], [⟨x, none, ap⟩], none, [], [], none, []⟩ body scope cl pm cv ctv) ⟨[u], []⟩ = pure [(x, u)])
    (hgl : ∀ g x w, pget g P.gl = some x → pget g G.glob = some w → ∃ u v, mg x = some u ∧ RelV v u ∧ ∀ Φ ρ, VR K T Φ ρ v w) :
    ∀ n, ∀ d ∈ defs, ∃ a fd, mg d.x = some (.ref a) ∧ PySem.W.keepIn K (.ref a) = true ∧ Binds K fd d.ps [] ∧ FnOk Pr w K mg base CX0 n a fd d.ps (spI K T (callD G wf n d.id) d.ps.length) ∧ ∃ oc od osl, K.lookup a = some ⟨oc, od, .func fd, osl⟩ := by
  intro n
  induction n with
  | zero =>
    intro d hm
    obtain ⟨a, fd, F, hmg, hb, htab⟩ := (hd d hm).F
    exact ⟨a, fd, hmg, F.kp, hb, ⟨fun vs H Q E h => h.1, fun A outer s H args us vs Q E hr he hb hv hs => by
      obtain ⟨_, Φ, ρ, ws, S, _, _, p⟩ := hs
      exact p.elim⟩, by obtain ⟨oc, od, dV, kV, doc, pm, an, cdv, ct, osl, _, lk, _⟩ := F.ex; exact ⟨oc, od, osl, lk⟩⟩
  | succ n ih =>
    intro d hm
    obtain ⟨a, fd, F, hmg, hb, htab⟩ := (hd d hm).F
    have Fk := F.kp
    obtain ⟨oc, od, dV, kV, doc, pm, an, cdv, ct, osl, rfl, lk, hcd, _, _⟩ := F.ex
    refine ⟨a, _, hmg, Fk, hb, ?_, oc, od, osl, lk⟩
    refine fn_of lk hcd (hd d hm).S (fun vs H Q E h => h.1) fun A outer s H vs Q E hr hsp => ?_
    have ok := (hd d hm).ok
    unfold DefI.ok at ok
    cases e : pget d.id G.dfs with
    | none => rw [e] at ok; cases ok
    | some D =>
      rw [e] at ok
      simp only [Bool.and_eq_true, decide_eq_true_eq] at ok
      obtain ⟨⟨o1, o2⟩, o3⟩ := ok
      refine ⟨RS K T (evSs G (callD G wf n) wf D.body), ?_, ?_⟩
      · refine PSs.nox ?_
        refine sndSs (P := P) ⟨d.N, d.scope, fun _ => true, d.lam⟩ _ ⟨⟨rfl, rfl, rfl, (hd d hm).S.nd, rfl⟩, Room.hu hr, fun _ => Room.hv hr, hlam, fun h => ?_, hbl, fun f x hx => ?_, hgl⟩ PassesOwn.never wf D.body d.body o3
        · obtain ⟨cc, Pt, h1, h2, h3, h4⟩ := htab h
          exact ⟨cc, Pt, h1, h2, h3, h4⟩
        obtain ⟨d', hm', rfl, rfl⟩ := hall f x hx
        obtain ⟨a', fd', h1, h2, h3, h4, _⟩ := ih d' hm'
        refine ⟨a', fd', d'.ps, n, h1, h2, h3, h4, hr, fun ws S R p => ?_⟩
        have ok' := (hd d' hm').ok
        unfold DefI.ok at ok'
        cases e' : pget d'.id G.dfs with
        | none => rw [e'] at ok'; cases ok'
        | some D' =>
          rw [e'] at ok'
          simp only [Bool.and_eq_true, decide_eq_true_eq] at ok'
          cases n with
          | zero => exact p.elim
          | succ n =>
            have p : Pst (match pget d'.id G.dfs with | some D => runD G (callD G wf n) wf D ws S | none => .stuck) R := p
            rw [e'] at p
            have := (runD_read (K := K) p).1
            rw [this, ok'.1.1]
      · obtain ⟨hl, Φ, ρ, ws, S, vr, rel, p⟩ := hsp
        have p : Pst (match pget d.id G.dfs with | some D => runD G (callD G wf n) wf D ws S | none => .stuck) _ := p
        rw [e] at p
        obtain ⟨hz, p⟩ := runD_read (K := K) p
        refine ⟨Φ, ρ, _, S, EnvR.start vr d.N (D.ns - D.np) (by rw [o2, o1, hl]), rel, p.mono fun q S1 p1 => ?_⟩
        cases q with
        | nx env => exact fun Φ' ρ' σ' H' le r _ => p1 Φ' ρ' .non H' le r .non
        | rt w => exact p1
        | bk _ => exact p1.elim
        | ct _ => exact p1.elim
        | xc _ _ _ => exact p1.elim
theorem vrs_ints {Φ : Hp} {ρ : List Addr} : ∀ ns : List Int, VRs K T Φ ρ (ns.map V.int) (ns.map W.int)
  | [] => .nil
  | n :: r => .cons (.int n) (vrs_ints r)
/-- the law's promise at the entry -/
theorem law_sp {g : List W → Sto → Res W} {n : Nat} (hlaw : ∀ ns : List Int, ns.length ≤ n → ∃ S', g [.scr (ns.map W.int)] [] = .ok (.bl true) S') (H : Hp) (a : Addr) (ns : List Int) (hl : ns.length ≤ n) (ht : ∀ p ∈ T.tabs, H p.1 = some (.tbl #[])) (hs : SqL K H a (ns.map V.int)) :
    spI K T g 1 [.ref a] H (fun v _ => v = .bl true) fun _ _ _ => False := by
  obtain ⟨S', e⟩ := hlaw ns hl
  let Φ : Hp := fun b => match H b with
    | some (.tbl _) => none
    | x => x
  have sub : Same Φ H := fun b x h => by
    show H b = some x
    have h : (match H b with | some (.tbl _) => none | x => x) = some x := h
    split at h
    · cases h
    · exact h
  have back : ∀ b x, H b = some x → (∀ ps, x ≠ .tbl ps) → Φ b = some x := fun b x h n => by
    show (match H b with | some (.tbl _) => none | x => x) = some x
    rw [h]
    split
    · rename_i ps e
      cases e
      exact absurd rfl (n ps)
    · rfl
  have hs' : SqL K Φ a (ns.map V.int) := by
    rcases hs with (h | ⟨o, h⟩) | h
    · exact .inl (.inl (back _ _ h fun _ z => nomatch z))
    · exact .inl (.inr ⟨o, back _ _ h fun _ z => nomatch z⟩)
    · exact .inr h
  refine ⟨rfl, Φ, [], [.scr (ns.map W.int)], [], .cons (.scr hs' (vrs_ints ns)) .nil, ⟨sub, rfl, List.nodup_nil, (fun _ h => nomatch h), (fun i a o h => by simp at h), fun b ps z => ?_, fun p hp => LamX.TabS.nil (ht p hp)⟩, ?_⟩
  · have z : (match H b with | some (.tbl _) => none | x => x) = some (.tbl ps) := z
    split at z
    · cases z
    · rename_i h
      exact h ps z
  · rw [e]
    intro Φ' ρ' v H' _ _ vr
    cases vr
    rfl
end
end KF


set_option Elab.async false
set_option linter.all false
set_option autoImplicit false
set_option maxRecDepth 100000
set_option maxHeartbeats 4000000
namespace KF
open PySem PySem.Spec PyProof.Rows L2
/-! from the head's facts to the law -/
def BindD (d : DefI) : Prop := ∀ (kV doc pm : Value) (an : Option Addr) (cdv ct : Value) (us : List Value), us.length = d.ps.length → bindArgs (PySem.W.fnOf d.x d.x d.params d.body d.scope .none kV doc pm an cdv ct) ⟨us, []⟩ = pure (d.ps.zip us)
def DefI.dd (d : DefI) : He.DefD := ⟨(d.x, none), d.x, d.x, d.params, d.body, d.scope, [], []⟩
def lamsOf (defs : List DefI) : List DefI := defs.filter fun d => d.lam
def tfOf (defs : List DefI) : List He.Defn := (lamsOf defs).map fun d => (d.x, none)
def tabT (K : PySem.W.Frag) (nm : Nat → Str) (ca : Nat → Addr) (defs : List DefI) : Tab := ⟨nm, ca, (lamsOf defs).map fun d => ((He.cT K (d.x, none)).2, lamQ d.x)⟩
def factsOf (P : Txt) (defs : List DefI) : List He.Fa := defs.map (fun d => .glo d.x) ++ P.bl.map .free
theorem law_at {l : PySem.W.OpenLaw} {w : World} {K : PySem.W.Frag} {mg : Str → Option Value} {fa : Addr} {h : Heap} {k n wf : Nat} {P : Txt} {G : Prog} {defs : List DefI} {ex : PySem.W.Frag → Bool} {x : Str} {d0 : DefI} (X : K.In h) (Gn : h.Ns mainGlobals mg)
    (c : He.SaysX (factsOf P defs) (defs.map DefI.dd) [] (tfOf defs) ex w h K) (hok : (defs.all fun d => d.ok P G) = true) (hsc : (defs.all fun d => C8.scC d.N d.ps d.scope) = true) (hb : ∀ d ∈ defs, BindD d) (hfn : P.fn = defs.map fun d => (d.id, d.x)) (hgl : P.gl = [])
    (hlam : ∀ id N' x, pget id P.lam = some N' → N'.head? = some x → ∀ (ap : Pos) (q : Str) (body : Expr) (scope : Scope) (cl : List (Str × Addr)) (pm cv ctv u : Value), bindArgs (PySem.W.kla_fn "<lambda>" q ⟨[], [⟨x, none, ap⟩], none, [], [], none, []⟩ body scope cl pm cv ctv) ⟨[u], []⟩ = pure [(x, u)])
    (hdist : ∀ d ∈ lamsOf defs, ∀ d' ∈ lamsOf defs, (He.cT K (d'.x, none)).2 = (He.cT K (d.x, none)).2 → d'.x = d.x)
    (hd0 : d0 ∈ defs) (hx : d0.ps = [x]) (hname : mg d0.x = some (.ref fa)) (hlaw : ∀ ns : List Int, ns.length ≤ n → ∃ S', callD G wf k d0.id [.scr (ns.map W.int)] [] = .ok (.bl true) S') :
    LamX.LawAtS l w K CX0 k n x mg fa h := by
  have cd : He.SaysD (factsOf P defs) (defs.map DefI.dd) K := congrArg (fun z : He.AlT => z.1) c.t
  have glo : ∀ d ∈ defs, mg d.x = some (.ref (He.ga K d.x)) := fun d hd => He.glo_ok X Gn (cd.facts (List.mem_append_left _ (List.mem_map_of_mem hd)))
  have fun_ : ∀ d ∈ defs, ∃ fd, FunD K d.x d.x d.params d.body d.scope [] [] (He.ga K d.x) fd := fun d hd => cd.defs (d := d.dd) (List.mem_map_of_mem hd)
  obtain ⟨fd0, F0⟩ := fun_ d0 hd0
  have efa : fa = He.ga K d0.x := by
    have := hname.symm.trans (glo d0 hd0)
    cases this
    rfl
  refine ⟨fd0, (tfOf defs).map (He.cT K), spI K (tabT K (fun _ => "") (fun _ => 0) defs) (callD G wf k d0.id) 1, ?_, ?_, ?_, fun s u => ?_, fun H a ns hl _ ht hs => law_sp hlaw H a ns hl (fun p hp => ?_) hs, fun base KB GB TB => ?_⟩
  · intro p hp
    obtain ⟨q, hq, rfl⟩ := List.mem_map.mp hp
    exact c.empty q hq
  · intro p hp
    obtain ⟨q, hq, rfl⟩ := List.mem_map.mp hp
    exact c.out q hq
  · intro p hp
    obtain ⟨q, hq, rfl⟩ := List.mem_map.mp hp
    exact PySem.W.codeHd_of_K X (c.hd q hq)
  · have b := FunD.bindsA (ps := d0.ps) F0 (hb d0 hd0) s [u] (by rw [hx]; rfl)
    rw [hx] at b
    exact b
  · obtain ⟨d, hd, rfl⟩ := List.mem_map.mp hp
    exact ht _ (List.mem_map_of_mem (List.mem_map_of_mem hd))
  · have DF : ∀ d ∈ defs, DefF P G K mg base (tabT K (fun _ => "") (fun _ => 0) defs) d := fun d hd => by
      obtain ⟨fd, FD⟩ := fun_ d hd
      refine ⟨List.all_eq_true.mp hok d hd, C8.fnScope_by (List.all_eq_true.mp hsc d hd), _, fd, FD, glo d hd, FD.bindsN (hb d hd), fun hl => ?_⟩
      have hm : d ∈ lamsOf defs := List.mem_filter.mpr ⟨hd, hl⟩
      obtain ⟨oc, od, dV, kV, doc, pm, an, cdv, ct, osl, rfl, lk, hcd, _, _⟩ := FD.ex
      obtain ⟨cc, rfl⟩ := He.codeIn_ref hcd
      have ec : He.codeOf K (d.x, none) = cc := He.codeOf_eq (p := (d.x, none)) lk rfl
      have tb := TB (He.cT K (d.x, none)) (List.mem_map_of_mem (List.mem_map_of_mem hm))
      refine ⟨cc, (He.cT K (d.x, none)).2, ?_, rfl, List.mem_map_of_mem hm, fun p hp e => ?_⟩
      · rw [← ec]
        exact tb
      · obtain ⟨d', hd', rfl⟩ := List.mem_map.mp hp
        show lamQ d'.x = lamQ d.x
        rw [hdist d hm d' hd' e]
    obtain ⟨a, fd, h1, _, _, h4, oc, od, osl, lk⟩ := defs_ok (Pr := l.prog) (w := w) (wf := wf) (T := tabT K (fun _ => "") (fun _ => 0) defs) defs DF (fun f y hf => by
      rw [hfn] at hf
      have : ∀ (ds : List DefI), pget f (ds.map fun d => (d.id, d.x)) = some y → ∃ d ∈ ds, d.id = f ∧ d.x = y := by
        intro ds
        induction ds with
        | nil => intro h; simp [pget] at h
        | cons d ds ih =>
          intro h
          simp only [List.map_cons, pget] at h
          split at h
          · rename_i e
            cases h
            exact ⟨d, List.mem_cons_self .., e.symm, rfl⟩
          · obtain ⟨d', h1, h2⟩ := ih h
            exact ⟨d', List.mem_cons_of_mem _ h1, h2⟩
      exact this defs hf) (fun y hy => He.free_ok X Gn (cd.facts (List.mem_append_right _ (List.mem_map_of_mem hy)))) hlam (fun g y w' hg => by rw [hgl] at hg; simp [pget] at hg) k d0 hd0
    rw [glo d0 hd0] at h1
    cases h1
    obtain ⟨oc2, od2, dV, kV, doc, pm, an, cdv, ct, osl2, rfl, lk2, _⟩ := F0.ex
    rw [lk2] at lk
    cases lk
    rw [efa, ← hx]
    rw [hx] at h4 ⊢
    exact h4
end KF


set_option linter.all false
set_option autoImplicit false
set_option maxRecDepth 100000
namespace KF
/-! rules by which the evaluator is run on terms -/
theorem thenS_ok {α : Type} (a : α) (S : Sto) (env : Env) (f : α → Sto → Res Fl) : (Res.ok a S).thenS env f = f a S := rfl
theorem orS_some {α : Type} (a : α) (S : Sto) : orStuck (some a) S = .ok a S := rfl
section
variable {G : Prog} {cf : CF} {wf : Nat} {env : Env} {S : Sto}
def lk (o : Option (Option W)) (S : Sto) : Res W := match o with
  | some (some w) => .ok w S
  | _ => .stuck
theorem lk_ok (w : W) (S : Sto) : lk (some (some w)) S = .ok w S := rfl
theorem e_var (i : Nat) : evE G cf (.var i) env S = lk env[i]? S := by
  rfl
theorem e_int (i : Int) : evE G cf (.int i) env S = .ok (.int i) S := by simp only [evE]
theorem e_str (i : Nm) : evE G cf (.str i) env S = .ok (.str i) S := by simp only [evE]
theorem e_bl (i : Bool) : evE G cf (.bl i) env S = .ok (.bl i) S := by simp only [evE]
theorem e_non : evE G cf .non env S = .ok .non S := by simp only [evE]
theorem e_tup (es : Es) : evE G cf (.tup es) env S = (evEs G cf es env S).bind mkT := by simp only [evE]
theorem e_lst (m : Bool) (es : Es) : evE G cf (.lst m es) env S = (evEs G cf es env S).bind (mkL m) := by simp only [evE]
theorem e_bin (op : Bop) (m : Bool) (a b : E) : evE G cf (.bin op m a b) env S = (evE G cf a env S).bind fun x S => (evE G cf b env S).bind fun y S => binop op m x y S := by simp only [evE]
theorem e_cmp (op : Cop) (a b : E) : evE G cf (.cmp op a b) env S = (evE G cf a env S).bind fun x S => (evE G cf b env S).bind fun y S => (cmpop op x y S).bind fun k S => .ok (.bl k) S := by simp only [evE]
def orK (o : Option Bool) (x : W) (r : Sto → Res W) (S : Sto) : Res W := match o with
  | some true => .ok x S
  | some false => r S
  | none => .stuck
def andK (o : Option Bool) (x : W) (r : Sto → Res W) (S : Sto) : Res W := match o with
  | some true => r S
  | some false => .ok x S
  | none => .stuck
def iteK (o : Option Bool) (p q : Sto → Res W) (S : Sto) : Res W := match o with
  | some true => p S
  | some false => q S
  | none => .stuck
theorem orK_t (x : W) (r : Sto → Res W) (S : Sto) : orK (some true) x r S = .ok x S := rfl
theorem orK_f (x : W) (r : Sto → Res W) (S : Sto) : orK (some false) x r S = r S := rfl
theorem andK_t (x : W) (r : Sto → Res W) (S : Sto) : andK (some true) x r S = r S := rfl
theorem andK_f (x : W) (r : Sto → Res W) (S : Sto) : andK (some false) x r S = .ok x S := rfl
theorem iteK_t (p q : Sto → Res W) (S : Sto) : iteK (some true) p q S = p S := rfl
theorem iteK_f (p q : Sto → Res W) (S : Sto) : iteK (some false) p q S = q S := rfl
theorem e_or (a b : E) : evE G cf (.or a b) env S = (evE G cf a env S).bind fun x S => orK (truthy S x) x (fun S => evE G cf b env S) S := by
  simp only [evE]
  congr 1
theorem e_and (a b : E) : evE G cf (.and a b) env S = (evE G cf a env S).bind fun x S => andK (truthy S x) x (fun S => evE G cf b env S) S := by
  simp only [evE]
  congr 1
def notK (o : Option Bool) (S : Sto) : Res W := match o with
  | some k => .ok (.bl !k) S
  | none => .stuck
theorem notK_s (k : Bool) (S : Sto) : notK (some k) S = .ok (.bl !k) S := rfl
theorem e_not (a : E) : evE G cf (.not a) env S = (evE G cf a env S).bind fun x S => notK (truthy S x) S := by
  simp only [evE]
  congr 1
theorem e_sub (a i : E) : evE G cf (.sub a i) env S = (evE G cf a env S).bind fun x S => (evE G cf i env S).bind fun y S => subs x y S := by simp only [evE]
theorem e_slc (m : Bool) (a : E) (lo hi : Eo) : evE G cf (.slc m a lo hi) env S = (evE G cf a env S).bind fun x S => (evO G cf lo env S).bind fun l S => (evO G cf hi env S).bind fun h S => slice m x l h S := by simp only [evE]
theorem e_call (f : Nat) (es : Es) : evE G cf (.call f es) env S = (evEs G cf es env S).bind fun ws S => cf f ws S := by simp only [evE]
theorem e_blt (b : Blt) (m : Bool) (es : Es) : evE G cf (.blt b m es) env S = (evEs G cf es env S).bind fun ws S => bltin b m ws S := by simp only [evE]
theorem e_bm (b : Bm) (m : Bool) (o : E) (es : Es) : evE G cf (.bm b m o es) env S = (evE G cf o env S).bind fun x S => if bmOk b x S = true then (evEs G cf es env S).bind fun ws S => bmeth b m x ws S else .stuck := by simp only [evE]
theorem e_frz (a : E) : evE G cf (.frz a) env S = (evE G cf a env S).bind fun w S => freeze w S := by simp only [evE]
theorem es_nil : evEs G cf .nil env S = .ok [] S := by simp only [evEs]
theorem es_cons (e : E) (r : Es) : evEs G cf (.cons e r) env S = (evE G cf e env S).bind fun w S => (evEs G cf r env S).bind fun ws S => .ok (w :: ws) S := by simp only [evEs]
theorem eo_none : evO G cf .none env S = .ok none S := by simp only [evO]
theorem eo_some (e : E) : evO G cf (.some e) env S = (evE G cf e env S).bind fun w S => .ok (some w) S := by simp only [evO]
/-! statements -/
def nxt (k : Env → Sto → Res Fl) : Fl → Sto → Res Fl := fun q S => match q with
  | .nx env => k env S
  | q => .ok q S
theorem nxt_nx (k : Env → Sto → Res Fl) (env : Env) (S : Sto) : nxt k (.nx env) S = k env S := rfl
theorem nxt_rt (k : Env → Sto → Res Fl) (w : W) (S : Sto) : nxt k (.rt w) S = .ok (.rt w) S := rfl
theorem s_nil : evSs G cf wf .nil env S = .ok (.nx env) S := by simp only [evSs]
theorem s_cons (s : KF.S) (r : Ss) : evSs G cf wf (.cons s r) env S = (evS G cf wf s env S).bind (nxt fun env S => evSs G cf wf r env S) := by
  simp only [evSs]
  congr 1
theorem s_set (i : Nat) (e : E) : evS G cf wf (.set i e) env S = (evE G cf e env S).thenS env fun w S => .ok (.nx (env.set i (some w))) S := by simp only [evS]
theorem s_asub (o i e : E) : evS G cf wf (.asub o i e) env S = (evE G cf e env S).thenS env fun v S => (evE G cf o env S).thenS env fun x S => (evE G cf i env S).thenS env fun y S => (setSub x y v S).thenS env fun _ S => .ok (.nx env) S := by simp only [evS]
theorem s_expr (e : E) : evS G cf wf (.expr e) env S = (evE G cf e env S).thenS env fun _ S => .ok (.nx env) S := by simp only [evS]
theorem s_ret (e : E) : evS G cf wf (.ret e) env S = (evE G cf e env S).thenS env fun w S => .ok (.rt w) S := by simp only [evS]
def ifK (o : Option Bool) (p q : Sto → Res Fl) (S : Sto) : Res Fl := match o with
  | some true => p S
  | some false => q S
  | none => .stuck
theorem ifK_t (p q : Sto → Res Fl) (S : Sto) : ifK (some true) p q S = p S := rfl
theorem ifK_f (p q : Sto → Res Fl) (S : Sto) : ifK (some false) p q S = q S := rfl
theorem s_ite (c : E) (a b : Ss) {w : W} {S1 : Sto} (h : evE G cf c env S = .ok w S1) : evS G cf wf (.ite c a b) env S = ifK (truthy S1 w) (fun S => evSs G cf wf a env S) (fun S => evSs G cf wf b env S) S1 := by
  simp only [evS, evT, h, bind_ok]
  cases truthy S1 w with
  | none => rfl
  | some k => cases k <;> rfl
end
/-! operations -/
theorem tr_bl (b : Bool) (S : Sto) : truthy S (.bl b) = some b := rfl
theorem tr_lst (l : List W) (S : Sto) : truthy S (.lst l) = some !l.isEmpty := rfl
theorem tr_ref (i : Nat) (l : List W) (S : Sto) (h : S[i]? = some (.lst l)) : truthy S (.ref i) = some !l.isEmpty := by
  unfold truthy
  simp only [h]
theorem fin_rt (w : W) (S : Sto) : (Res.ok (Fl.rt w) S : Res Fl).bind (fun q S => match q with | .nx _ => .ok .non S | .rt w => .ok w S | .xc c fs _ => .ex c fs S | _ => .stuck) = .ok w S := rfl
section
variable {S : Sto} {m : Bool}
theorem o_add (i j : Int) : binop .add m (.int i) (.int j) S = .ok (.int (i + j)) S := rfl
theorem o_sub (i j : Int) : binop .sub m (.int i) (.int j) S = .ok (.int (i - j)) S := rfl
theorem o_mul (i j : Int) : binop .mul m (.int i) (.int j) S = if mulOk i j then .ok (.int (i * j)) S else .stuck := rfl
theorem mulOk_r (i j : Int) (h1 : -18446744073709551616 < j) (h2 : j < 18446744073709551616) : mulOk i j = true := by
  have e : (2 : Int) ^ 64 = 18446744073709551616 := by decide +kernel
  unfold mulOk
  rw [e, decide_eq_true h1, decide_eq_true h2]
  simp
theorem pow_ok (i j : Int) (S : Sto) (m : Bool) (h0 : 0 ≤ j) (h1 : j ≤ 1000) (h2 : i.natAbs < 18446744073709551616) : binop .pow m (.int i) (.int j) S = .ok (.int (i ^ j.toNat)) S := by
  have e : (2 : Nat) ^ 64 = 18446744073709551616 := by decide +kernel
  show (if 0 ≤ j ∧ j ≤ 1000000 ∧ i.natAbs < 2 ^ 64 then _ else _) = _
  rw [e]
  exact if_pos ⟨h0, by omega, h2⟩
theorem o_fdiv (i j : Int) : binop .fdiv m (.int i) (.int j) S = if j ≠ 0 ∧ j.natAbs < 1073741824 then .ok (.int (i.fdiv j)) S else .stuck := rfl
theorem o_mod (i j : Int) : binop .mod m (.int i) (.int j) S = if j ≠ 0 then .ok (.int (i.fmod j)) S else .stuck := rfl
theorem o_pow (i j : Int) : binop .pow m (.int i) (.int j) S = if 0 ≤ j ∧ j ≤ 1000000 ∧ i.natAbs < 2 ^ 64 then .ok (.int (i ^ j.toNat)) S else .stuck := rfl
theorem o_cat (a b : Nm) : binop .add m (.str a) (.str b) S = if a.length + b.length ≤ SZ then .ok (.str (a ++ b)) S else .stuck := rfl
theorem o_catT (a b : List W) : binop .add m (.tup a) (.tup b) S = if a.length + b.length ≤ SZ then .ok (.tup (a ++ b)) S else .stuck := rfl
theorem o_catL (a b : List W) : binop .add m (.lst a) (.lst b) S = mkL m (a ++ b) S := rfl
theorem o_rep (a : Nm) (j : Int) : binop .mul m (.str a) (.int j) S = if 0 ≤ j ∧ a.length * j.toNat ≤ SZ ∧ j ≤ SZ then .ok (.str (List.replicate j.toNat a).flatten) S else .stuck := rfl
theorem o_lt (i j : Int) : cmpop .lt (.int i) (.int j) S = .ok (decide (i < j)) S := rfl
theorem o_le (i j : Int) : cmpop .le (.int i) (.int j) S = .ok (decide (i ≤ j)) S := rfl
theorem o_gt (i j : Int) : cmpop .gt (.int i) (.int j) S = .ok (decide (j < i)) S := rfl
theorem o_ge (i j : Int) : cmpop .ge (.int i) (.int j) S = .ok (decide (j ≤ i)) S := rfl
def lsR : Option Ob → Option (List W)
  | some (.lst l) => some l
  | _ => none
theorem lsR_l (l : List W) : lsR (some (.lst l)) = some l := rfl
theorem seq_ref (i : Nat) : seqOf S (.ref i) = lsR S[i]? := rfl
theorem seq_lst (l : List W) : seqOf S (.lst l) = some l := rfl
theorem seq_tup (l : List W) : seqOf S (.tup l) = some l := rfl
theorem lst_ref' (i : Nat) : lstOf S (.ref i) = lsR S[i]? := rfl
theorem lst_lst (l : List W) : lstOf S (.lst l) = some l := rfl
def ixK (o : Option (List W)) (k : Int) (S : Sto) : Res W := match o with
  | some l => (match pyIx l.length k with
    | some j => orStuck l[j]? S
    | none => .stuck)
  | none => .stuck
theorem ixK_at (l : List W) (k : Int) (j : Nat) (w : W) (S : Sto) (h1 : pyIx l.length k = some j) (h2 : l[j]? = some w) : ixK (some l) k S = .ok w S := by
  show (match pyIx l.length k with | some j => orStuck l[j]? S | none => .stuck) = _
  rw [h1]
  show orStuck l[j]? S = _
  rw [h2]
  rfl
theorem sub_ref (i : Nat) (k : Int) (l : List W) (h : S[i]? = some (.lst l)) : subs (.ref i) (.int k) S = ixK (some l) k S := by
  have e : seqOf S (.ref i) = some l := by show lsR S[i]? = _; rw [h]; rfl
  unfold subs
  simp only [e]
  rfl
theorem sub_lst (l : List W) (k : Int) : subs (.lst l) (.int k) S = ixK (some l) k S := rfl
theorem sub_tup (l : List W) (k : Int) : subs (.tup l) (.int k) S = ixK (some l) k S := rfl
theorem sub_str (s : Nm) (k : Int) (j c : Nat) (h0 : s.length ≤ SZ) (h1 : pyIx s.length k = some j) (h2 : s[j]? = some c) : subs (.str s) (.int k) S = .ok (.str [c]) S := by
  unfold subs
  simp only [if_pos h0, h1, h2]
theorem set_ref (i : Nat) (k : Int) (v : W) (l : List W) (j : Nat) (h : S[i]? = some (.lst l)) (h1 : pyIx l.length k = some j) : setSub (.ref i) (.int k) v S = .ok () (S.set i (.lst (l.set j v))) := by
  unfold setSub
  simp only [h, h1]
theorem app_ref (i : Nat) (x : W) (l : List W) (h : S[i]? = some (.lst l)) (hz : l.length < SZ) : bmeth .append m (.ref i) [x] S = .ok .non (S.set i (.lst (l ++ [x]))) := by
  unfold bmeth
  simp only [h, if_pos hz]
theorem app_ok (i : Nat) (l : List W) (h : S[i]? = some (.lst l)) : bmOk .append (.ref i) S = true := by
  unfold bmOk
  simp only [h]
theorem b_int (i : Int) : bltin .int m [.int i] S = .ok (.int i) S := rfl
theorem b_len_lst (l : List W) : bltin .len m [.lst l] S = .ok (.int l.length) S := rfl
theorem b_len_tup (l : List W) : bltin .len m [.tup l] S = .ok (.int l.length) S := rfl
theorem b_len_ref (i : Nat) (l : List W) (h : S[i]? = some (.lst l)) : bltin .len m [.ref i] S = .ok (.int l.length) S := by
  have e : seqOf S (.ref i) = some l := by show lsR S[i]? = _; rw [h]; rfl
  unfold bltin
  simp only [e]
theorem mkL_f (l : List W) (h : l.length ≤ SZ) : mkL false l S = .ok (.lst l) S := by
  unfold mkL
  rw [if_pos h]
  rfl
theorem mkL_t (l : List W) (h : l.length ≤ SZ) : mkL true l S = .ok (.ref S.length) (S ++ [.lst l]) := by
  unfold mkL
  rw [if_pos h]
  rfl
theorem mkT_ok' (l : List W) (h : l.length ≤ SZ) : mkT l S = .ok (.tup l) S := by
  unfold mkT
  rw [if_pos h]
theorem frz_ref (i : Nat) (l : List W) (h : S[i]? = some (.lst l)) : freeze (.ref i) S = .ok (.lst l) (S.set i .dead) := by
  unfold freeze
  simp only [h]
end
end KF


set_option linter.all false
set_option autoImplicit false
set_option maxRecDepth 100000
namespace KF
section
variable {G : Prog} {cf : CF} {wf : Nat} {env : Env} {S : Sto}
def forB (G : Prog) (cf : CF) (wf : Nat) (tg : Tg) (b : Ss) : W → Env → Sto → Res Fl := fun x env S => match setT tg x env with
  | some env => evSs G cf wf b env S
  | none => .stuck
theorem s_for (tg : Tg) (it : It) (b : Ss) {l : List W} {g : Gd} {S1 : Sto} (h : evI G cf it env S = .ok (l, g) S1) : evS G cf wf (.for tg it b) env S = forLoop g (forB G cf wf tg b) l env S1 := by
  simp only [evS, h, thenS_ok]
  rfl
theorem for_inv {g : Gd} {f : W → Env → Sto → Res Fl} (I : Nat → Env → Sto → Prop) : ∀ (l : List W) (i : Nat) (env : Env) (S : Sto), (∀ j x env S, l[j]? = some x → I (i + j) env S → ∃ env' S', f x env S = .ok (.nx env') S' ∧ gdOk g S' = true ∧ I (i + j + 1) env' S') → I i env S →
    ∃ env' S', forLoop g f l env S = .ok (.nx env') S' ∧ I (i + l.length) env' S'
  | [], i, env, S, _, h => ⟨env, S, rfl, h⟩
  | x :: r, i, env, S, st, h => by
    obtain ⟨env1, S1, e1, g1, h1⟩ := st 0 x env S rfl h
    obtain ⟨env2, S2, e2, h2⟩ := for_inv I r (i + 1) env1 S1 (fun j y env S hy hI => by
      have e : i + 1 + j = i + (j + 1) := by omega
      rw [e] at hI
      obtain ⟨a, b, c, d, k⟩ := st (j + 1) y env S (by simpa using hy) hI
      exact ⟨a, b, c, d, by rw [e]; exact k⟩) h1
    refine ⟨env2, S2, ?_, by rw [List.length_cons]; have e : i + (r.length + 1) = i + 1 + r.length := by omega
                             rw [e]; exact h2⟩
    show (f x env S).bind _ = _
    rw [e1]
    show (if gdOk g S1 = true then forLoop g f r env1 S1 else .stuck) = _
    rw [if_pos g1]
    exact e2
theorem i_rng1 (e : E) {n : Int} {S1 : Sto} (h : evE G cf e env S = .ok (.int n) S1) (h1 : n ≤ SZ) (h2 : -(SZ : Int) ≤ n) : evI G cf (.rng1 e) env S = .ok ((List.range n.toNat).map fun k => .int (k : Nat), none) S1 := by
  simp only [evI, h, bind_ok]
  exact if_pos ⟨h1, h2⟩
theorem i_val (e : E) {w : W} {l : List W} {S1 : Sto} (h : evE G cf e env S = .ok w S1) (h1 : seqOf S1 w = some l) : evI G cf (.val e) env S = .ok (l, gdOf S1 w) S1 := by
  simp only [evI, h, bind_ok, h1]
theorem e_bm_app (m : Bool) (o e : E) {i : Nat} {l : List W} {x : W} {S1 S2 : Sto} (h : evE G cf o env S = .ok (.ref i) S1) (hl : S1[i]? = some (.lst l)) (he : evE G cf e env S1 = .ok x S2) (hl2 : S2[i]? = some (.lst l)) (hz : l.length < SZ) :
    evE G cf (.bm .append m o (.cons e .nil)) env S = .ok .non (S2.set i (.lst (l ++ [x]))) := by
  rw [e_bm, h, bind_ok, if_pos (app_ok i l hl), es_cons, he, bind_ok, es_nil, bind_ok, bind_ok, app_ref i x l hl2 hz]
theorem forB_nm (i : Nat) (b : Ss) (x : W) (env : Env) (S : Sto) : forB G cf wf (.nm i) b x env S = evSs G cf wf b (env.set i (some x)) S := rfl
end
end KF
namespace KF
section
variable {G : Prog} {cf : CF} {wf : Nat} {env : Env} {S : Sto}
def lcB (G : Prog) (cf : CF) (elt : E) (tg : Tg) (cs : Es) (env : Env) : W → Sto → Res (Option W) := fun x S => match setT tg x env with
  | none => .stuck
  | some env' => (evTs G cf cs env' S).bind fun b S => if b then (evE G cf elt env' S).bind fun w S => .ok (some w) S else .ok none S
theorem e_lc (m : Bool) (elt : E) (tg : Tg) (it : It) (cs : Es) {l : List W} {g : Gd} {S1 : Sto} (h : evI G cf it env S = .ok (l, g) S1) (hz : l.length ≤ SZ) : evE G cf (.lc m elt tg it cs) env S = (lcLoop g (lcB G cf elt tg cs env) l S1).bind (mkL m) := by
  simp only [evE, h, bind_ok]
  rw [if_pos hz]
  rfl
theorem lcB_nm (elt : E) (i : Nat) (cs : Es) (env : Env) (x : W) (S : Sto) : lcB G cf elt (.nm i) cs env x S = (evTs G cf cs (env.set i (some x)) S).bind fun b S => if b then (evE G cf elt (env.set i (some x)) S).bind fun w S => .ok (some w) S else .ok none S := rfl
theorem ts_nil : evTs G cf .nil env S = .ok true S := by simp only [evTs]
theorem ts_one (e : E) {w : W} {S1 : Sto} {b : Bool} (h : evE G cf e env S = .ok w S1) (hb : truthy S1 w = some b) : evTs G cf (.cons e .nil) env S = .ok b S1 := by
  simp only [evTs, h, bind_ok, hb]
theorem lc_inv {g : Gd} {f : W → Sto → Res (Option W)} (I : Nat → List W → Sto → Prop) : ∀ (l : List W) (i : Nat) (acc : List W) (S : Sto), (∀ j x acc S, l[j]? = some x → I (i + j) acc S → ∃ o S', f x S = .ok o S' ∧ gdOk g S' = true ∧ I (i + j + 1) (acc ++ o.toList) S') → I i acc S →
    ∃ ws S', lcLoop g f l S = .ok ws S' ∧ I (i + l.length) (acc ++ ws) S'
  | [], i, acc, S, _, h => ⟨[], S, rfl, by simpa using h⟩
  | x :: r, i, acc, S, st, h => by
    obtain ⟨o, S1, e1, g1, h1⟩ := st 0 x acc S rfl h
    obtain ⟨ws, S2, e2, h2⟩ := lc_inv I r (i + 1) (acc ++ o.toList) S1 (fun j y acc S hy hI => by
      have e : i + 1 + j = i + (j + 1) := by omega
      rw [e] at hI
      obtain ⟨a, b, c, d, k⟩ := st (j + 1) y acc S (by simpa using hy) hI
      exact ⟨a, b, c, d, by rw [e]; exact k⟩) h1
    refine ⟨o.toList ++ ws, S2, ?_, ?_⟩
    · show (f x S).bind _ = _
      rw [e1]
      show (if gdOk g S1 = true then (lcLoop g f r S1).bind _ else .stuck) = _
      rw [if_pos g1, e2]
      rfl
    · rw [List.length_cons]
      have e : i + (r.length + 1) = i + 1 + r.length := by omega
      rw [e, ← List.append_assoc]
      exact h2
theorem sl_lst (m : Bool) (l : List W) (lo hi : Option W) (a b : Option Int) (h1 : optI lo = some a) (h2 : optI hi = some b) (hz : l.length ≤ SZ) : slice m (.lst l) lo hi S = mkL m (cut l a b) S := by
  unfold slice
  simp only [h1, h2]
  show (match lstOf S (.lst l) with | some l => if l.length ≤ SZ then mkL m (cut l a b) S else .stuck | none => .stuck) = _
  show (if l.length ≤ SZ then _ else _) = _
  rw [if_pos hz]
theorem cut_len (l : List W) (a b : Option Int) : (cut l a b).length ≤ l.length := by
  unfold cut
  rw [List.length_take, List.length_drop]
  omega
theorem cut_map {α β : Type} (f : α → β) (l : List α) (a b : Option Int) : cut (l.map f) a b = (cut l a b).map f := by
  unfold cut
  rw [List.length_map, List.map_take, List.map_drop]
theorem cut_sub {α : Type} (l : List α) (a b : Option Int) : (cut l a b).Sublist l := (List.take_sublist _ _).trans (List.drop_sublist _ _)
end
end KF


set_option Elab.async false
set_option linter.all false
set_option autoImplicit false
set_option maxRecDepth 100000
set_option maxHeartbeats 0
namespace KL
open PySem PySem.Spec PyProof.Rows L2
abbrev row : PySem.W.OpenLaw := PySem.Challenge.rw_keysfewest_k66_crowds_of_a_size
def top (i : Nat) : Stmt := PySem.Challenge.pw_keysfewest_k66_crowds_of_a_size.main.body.getD i (.Pass ⟨0, 0, 0, 0⟩)
/-- checked_licences: 0 licences, 1 seen, 2 name, 3 parts -/
def b_checked_licences : KF.Ss := (.cons (.set 1 (.lst true .nil)) (.cons (.for (.tp [2, 3]) (.val (.var 0)) (.cons (.ite (.or (.cmp .isin (.var 2) (.var 1)) (.cmp .lt (.blt .lenSet false (.cons (.var 3) .nil)) (.blt .len false (.cons (.var 3) .nil)))) (.cons (.raise .non) .nil) .nil) (.cons (.expr (.bm .append false (.var 1) (.cons (.var 2) .nil))) .nil))) (.cons (.ret (.lc false (.tup (.cons (.var 2) (.cons (.blt .tuple false (.cons (.var 3) .nil)) .nil))) (.tp [2, 3]) (.val (.var 0)) .nil)) .nil)))
/-- crowds_of: 0 licences, 1 size, 2 names, 3 name, 4 parts, 5 found, 6 crowd, 7 places, 8 at -/
def b_crowds_of : KF.Ss := (.cons (.set 2 (.lc false (.var 3) (.tp [3, 4]) (.val (.call 0 (.cons (.var 0) .nil))) .nil)) (.cons (.ite (.cmp .ge (.var 1) (.blt .len false (.cons (.var 2) .nil))) (.cons (.ret (.lst true (.cons (.blt .tuple true (.cons (.var 2) .nil)) .nil))) .nil) .nil) (.cons (.set 5 (.lst false (.cons (.tup .nil) .nil))) (.cons (.for (.nm 3) (.val (.var 2)) (.cons (.set 5 (.bin .add false (.var 5) (.lc false (.bin .add false (.var 6) (.tup (.cons (.var 3) .nil))) (.nm 6) (.val (.var 5)) (.cons (.cmp .lt (.blt .len false (.cons (.var 6) .nil)) (.var 1)) .nil)))) .nil)) (.cons (.set 7 (.dc false (.var 3) (.var 8) (.tp [8, 3]) (.enum (.var 2)) .nil)) (.cons (.ret (.sortk true (.lc false (.var 6) (.nm 6) (.val (.var 5)) (.cons (.cmp .eq (.blt .len false (.cons (.var 6) .nil)) (.var 1)) .nil)) 0 [7] 1 (.lc false (.sub (.var 1) (.var 2)) (.nm 2) (.val (.var 0)) .nil))) .nil))))))
/-- _law_draw: 0 _law_state, 1 _law_many, 2 _law_spot, 3 _law_at, 4 _law_cell, 5 _law_mixed -/
def b_law_draw : KF.Ss := (.cons (.set 2 (.sub (.var 0) (.int 1))) (.cons (.asub (.var 0) (.int 1) (.bin .add false (.var 2) (.int 1))) (.cons (.set 3 (.bin .mod false (.var 2) (.blt .len false (.cons (.sub (.var 0) (.int 0)) .nil)))) (.cons (.set 4 (.blt .int false (.cons (.sub (.sub (.var 0) (.int 0)) (.var 3)) .nil))) (.cons (.ite (.cmp .ge (.var 4) (.bin .pow false (.int 10) (.int 18))) (.cons (.asub (.sub (.var 0) (.int 0)) (.var 3) (.bin .fdiv false (.var 4) (.var 1))) (.cons (.ret (.bin .mod false (.blt .int false (.cons (.var 4) .nil)) (.var 1))) .nil)) .nil) (.cons (.set 5 (.bin .pow false (.blt .int false (.cons (.bin .add false (.bin .add false (.bin .mul false (.bin .mod false (.blt .int false (.cons (.var 4) .nil)) (.int 1000003)) (.int 48271)) (.bin .mul false (.var 2) (.int 7919))) (.int 104729)) .nil)) (.int 5))) (.cons (.ret (.bin .mod false (.bin .fdiv false (.blt .int false (.cons (.bin .mod false (.blt .int false (.cons (.var 5) .nil)) (.int 2147483647)) .nil)) (.int 8)) (.var 1))) .nil)))))))
/-- _law_names: 0 _law_state, 1 _law_count, 2 _law_letters, 3 _law_signs, 4 _law_names_here, 5 _law_k, 6 _law_head, 7 _law_tail -/
def b_law_names : KF.Ss := (.cons (.set 2 (.str [97, 98, 99, 100, 101, 102, 103, 104, 105, 106, 107, 108, 109, 110, 111, 112, 113, 114, 115, 116, 117, 118, 119, 120, 121, 122])) (.cons (.set 3 (.bin .add false (.var 2) (.str [48, 49, 50, 51, 52, 53, 54, 55, 56, 57, 95]))) (.cons (.set 4 (.lst true .nil)) (.cons (.for (.nm 5) (.rng1 (.var 1)) (.cons (.set 6 (.sub (.var 2) (.call 2 (.cons (.var 0) (.cons (.int 26) .nil))))) (.cons (.set 7 (.bin .mul false (.sub (.var 3) (.call 2 (.cons (.var 0) (.cons (.int 37) .nil)))) (.call 2 (.cons (.var 0) (.cons (.int 3) .nil))))) (.cons (.expr (.bm .append false (.var 4) (.cons (.bin .add false (.bin .add false (.var 6) (.sub (.var 2) (.var 5))) (.var 7)) .nil))) .nil)))) (.cons (.ret (.frz (.var 4))) .nil)))))
/-- _law_licences: 0 _law_state, 1 _law_most, 2 _law_names_here, 3 _law_parts, 4 _law_turn, 5 _law_licences_here, 6 _law_name, 7 _law_part -/
def b_law_licences : KF.Ss := (.cons (.set 2 (.call 3 (.cons (.var 0) (.cons (.int 12) .nil)))) (.cons (.set 3 (.slc false (.var 2) (.some (.int 5)) (.some (.bin .add false (.int 6) (.call 2 (.cons (.var 0) (.cons (.var 1) .nil))))))) (.cons (.set 4 (.call 2 (.cons (.var 0) (.cons (.blt .len false (.cons (.var 3) .nil)) .nil)))) (.cons (.set 3 (.bin .add false (.slc false (.var 3) (.some (.var 4)) .none) (.slc false (.var 3) .none (.some (.var 4))))) (.cons (.set 5 (.lst true .nil)) (.cons (.for (.nm 6) (.val (.slc false (.var 2) .none (.some (.call 2 (.cons (.var 0) (.cons (.int 6) .nil)))))) (.cons (.expr (.bm .append false (.var 5) (.cons (.tup (.cons (.var 6) (.cons (.lc false (.var 7) (.nm 7) (.val (.var 3)) (.cons (.cmp .eq (.call 2 (.cons (.var 0) (.cons (.int 2) .nil))) (.int 0)) .nil)) .nil))) .nil))) .nil)) (.cons (.ret (.frz (.var 5))) .nil)))))))
/-- _law_subsets: 0 _law_names_here, 1 _law_width, 2 _law_found, 3 _law_k, 4 _law_rest -/
def b_law_subsets : KF.Ss := (.cons (.ite (.cmp .eq (.var 1) (.int 0)) (.cons (.ret (.lst false (.cons (.tup .nil) .nil))) .nil) .nil) (.cons (.set 2 (.lst false .nil)) (.cons (.for (.nm 3) (.rng1 (.blt .len false (.cons (.var 0) .nil))) (.cons (.set 2 (.bin .add false (.var 2) (.lc false (.bin .add false (.tup (.cons (.sub (.var 0) (.var 3)) .nil)) (.var 4)) (.nm 4) (.val (.call 5 (.cons (.slc false (.var 0) (.some (.bin .add false (.var 3) (.int 1))) .none) (.cons (.bin .sub false (.var 1) (.int 1)) .nil)))) .nil))) .nil)) (.cons (.ret (.var 2)) .nil))))
/-- law: 0 _law_script, 1 _law_state, 2 _law_licences_here, 3 _law_names_here, 4 _law_name, 5 _law_parts, 6 _law_width, 7 _law_due, 8 _law_told -/
def b_law : KF.Ss := (.cons (.set 1 (.lst true (.cons (.or (.blt .list true (.cons (.var 0) .nil)) (.lst true (.cons (.int 0) .nil))) (.cons (.int 0) .nil)))) (.cons (.set 2 (.call 4 (.cons (.var 1) (.cons (.int 3) .nil)))) (.cons (.set 3 (.lc false (.var 4) (.tp [4, 5]) (.val (.var 2)) .nil)) (.cons (.set 6 (.bin .add false (.int 1) (.call 2 (.cons (.var 1) (.cons (.int 6) .nil))))) (.cons (.set 7 (.call 5 (.cons (.var 3) (.cons (.blt .min2 false (.cons (.var 6) (.cons (.blt .len false (.cons (.var 3) .nil)) .nil))) .nil)))) (.cons (.set 8 (.call 1 (.cons (.var 2) (.cons (.var 6) .nil)))) (.cons (.ite (.or (.cmp .ne (.var 8) (.var 7)) (.not (.blt .isList false (.cons (.var 8) .nil)))) (.cons (.ret (.bl false)) .nil) .nil) (.cons (.expr (.bm .append false (.var 8) (.cons .non .nil))) (.cons (.ret (.cmp .eq (.call 1 (.cons (.var 2) (.cons (.var 6) .nil))) (.var 7))) .nil)))))))))
def G : KF.Prog := { dfs := [(0, ⟨1, 4, b_checked_licences⟩), (1, ⟨2, 9, b_crowds_of⟩), (2, ⟨2, 6, b_law_draw⟩), (3, ⟨2, 8, b_law_names⟩), (4, ⟨2, 8, b_law_licences⟩), (5, ⟨2, 5, b_law_subsets⟩), (6, ⟨1, 9, b_law⟩)] }
def Pt : KF.Txt := { nm := [], cl := [], gl := [], fn := [(0, "checked_licences"), (1, "crowds_of"), (2, "_law_draw"), (3, "_law_names"), (4, "_law_licences"), (5, "_law_subsets"), (6, "law")], bl := ["enumerate", "int", "isinstance", "len", "list", "min", "range", "set", "sorted", "tuple"], lam := [(0, ["crowd", "places", "name"])] }
def D0 : KF.DefI := { id := 0, x := "checked_licences", params := defArgs (top 5), body := defBody (top 5), scope := defScope (top 5), N := ["licences", "seen", "name", "parts"], ps := ["licences"], lam := false }
def D1 : KF.DefI := { id := 1, x := "crowds_of", params := defArgs (top 6), body := defBody (top 6), scope := defScope (top 6), N := ["licences", "size", "names", "name", "parts", "found", "crowd", "places", "at"], ps := ["licences", "size"], lam := true }
def D2 : KF.DefI := { id := 2, x := "_law_draw", params := defArgs (top 8), body := defBody (top 8), scope := defScope (top 8), N := ["_law_state", "_law_many", "_law_spot", "_law_at", "_law_cell", "_law_mixed"], ps := ["_law_state", "_law_many"], lam := false }
def D3 : KF.DefI := { id := 3, x := "_law_names", params := defArgs (top 9), body := defBody (top 9), scope := defScope (top 9), N := ["_law_state", "_law_count", "_law_letters", "_law_signs", "_law_names_here", "_law_k", "_law_head", "_law_tail"], ps := ["_law_state", "_law_count"], lam := false }
def D4 : KF.DefI := { id := 4, x := "_law_licences", params := defArgs (top 10), body := defBody (top 10), scope := defScope (top 10), N := ["_law_state", "_law_most", "_law_names_here", "_law_parts", "_law_turn", "_law_licences_here", "_law_name", "_law_part"], ps := ["_law_state", "_law_most"], lam := false }
def D5 : KF.DefI := { id := 5, x := "_law_subsets", params := defArgs (top 11), body := defBody (top 11), scope := defScope (top 11), N := ["_law_names_here", "_law_width", "_law_found", "_law_k", "_law_rest"], ps := ["_law_names_here", "_law_width"], lam := false }
def D6 : KF.DefI := { id := 6, x := "law", params := defArgs (top 12), body := defBody (top 12), scope := defScope (top 12), N := ["_law_script", "_law_state", "_law_licences_here", "_law_names_here", "_law_name", "_law_parts", "_law_width", "_law_due", "_law_told"], ps := ["_law_script"], lam := false }
def dfs : List KF.DefI := [D0, D1, D2, D3, D4, D5, D6]
theorem chk_all : (dfs.all fun d => d.ok Pt G) = true := by decide +kernel
theorem scs : (dfs.all fun d => C8.scC d.N d.ps d.scope) = true := by decide +kernel
theorem bd0 : KF.BindD D0 := fun _ _ _ _ _ _ us hl => match us, hl with | [_], _ => rfl
theorem bd1 : KF.BindD D1 := fun _ _ _ _ _ _ us hl => match us, hl with | [_, _], _ => rfl
theorem bd2 : KF.BindD D2 := fun _ _ _ _ _ _ us hl => match us, hl with | [_, _], _ => rfl
theorem bd3 : KF.BindD D3 := fun _ _ _ _ _ _ us hl => match us, hl with | [_, _], _ => rfl
theorem bd4 : KF.BindD D4 := fun _ _ _ _ _ _ us hl => match us, hl with | [_, _], _ => rfl
theorem bd5 : KF.BindD D5 := fun _ _ _ _ _ _ us hl => match us, hl with | [_, _], _ => rfl
theorem bd6 : KF.BindD D6 := fun _ _ _ _ _ _ us hl => match us, hl with | [_], _ => rfl
theorem bds : ∀ d ∈ dfs, KF.BindD d := by
  intro d hd
  simp only [dfs, List.mem_cons, List.not_mem_nil, or_false] at hd
  rcases hd with rfl | rfl | rfl | rfl | rfl | rfl | rfl
  · exact bd0
  · exact bd1
  · exact bd2
  · exact bd3
  · exact bd4
  · exact bd5
  · exact bd6
theorem lams : ∀ id N' x, KF.pget id Pt.lam = some N' → N'.head? = some x → ∀ (ap : Pos) (q : Str) (body : Expr) (scope : Scope) (cl : List (Str × Addr)) (pm cv ctv u : Value), bindArgs (PySem.W.kla_fn "<lambda>" q ⟨[], [⟨x, none, ap⟩], none, [], [], none, []⟩ body scope cl pm cv ctv) ⟨[u], []⟩ = pure [(x, u)] := by
  intro id N' x h hx ap q body scope cl pm cv ctv u
  simp only [Pt, KF.pget] at h
  split at h
  · cases h
    cases hx
    rfl
  cases h
def exB (K : PySem.W.Frag) : Bool := true
abbrev hk : PySem.W.Hook := He.hookX 4 (KF.factsOf Pt dfs) (dfs.map KF.DefI.dd) [] (KF.tfOf dfs) exB
def ob (s : PySem.W.SharedT) : He.AlX := He.obsX 4 (KF.factsOf Pt dfs) (dfs.map KF.DefI.dd) [] (KF.tfOf dfs) exB (HandSHeadRun.getT s)
theorem ob_eq (s : PySem.W.SharedT) : ob s = hk.obs s.abs := He.obsX_eq (HandSHeadRun.getT_eq s)
def loose : List PySem.Str := (["FewError", "BadLicence", "checked_licences", "crowds_of", "_law_draw", "_law_names", "_law_licences", "_law_subsets"] : List PySem.Str)
theorem run (w : World) : HandSHeadRun.RunEq (PySem.W.OpenLaw.row row) (PySem.W.view (PySem.W.OpenLaw.row row).prog [12]) hk ob 2000 loose w := by
  intro os
  kernel_rfl
end KL
namespace KL
open PySem PySem.W PySem.Calls PyProof.Rows
def WF : Nat := 1000
theorem holds_row (hlaw : ∀ ns : List Int, ns.length ≤ 63 → ∃ S', KF.callD G WF 14 6 [.scr (ns.map KF.W.int)] [] = .ok (.bl true) S') : row.Holds := by
  w_on; o_law
  refine HandSHeadRun.head_any (r := OpenLaw.row row) (q := view (OpenLaw.row row).prog [12]) (H := hk) (ob := ob) (M := 2000) (loose := loose) (d := HandSHeadRun.topDef (OpenLaw.row row).prog 12) (kwd := []) ob_eq
    (by kernel_rfl) (fun s => by kernel_rfl) run (by kernel_rfl) (by kernel_rfl) (by kernel_rfl) (by rfl) (by first | assumption | decide +kernel) (by decide +kernel) ⟨rfl, rfl, rfl, rfl, rfl, by decide +kernel⟩ ?hw ?hc
  case hw => w_witness2
  case hc =>
    refine LamX.walk_ofTsE (l := row) (n := 63) (k := 14) (x := "_law_script") (CX := fun _ => L2.CX0) rfl (by decide) (by kernel_rfl) ⟨rfl, by decide, by decide⟩ ?F (fun _ _ _ _ _ z => z)
    intro w mg fa h Y Gn hmg0
    obtain ⟨K, KX, c⟩ := Y
    have hmg : mg ("law" : PySem.Str) = some (.ref fa) := by
      have e : (HandSHeadRun.topDef (OpenLaw.row row).prog 12).name = ("law" : PySem.Str) := by kernel_rfl
      rw [← e]
      exact hmg0
    refine ⟨K, KX, KF.law_at (P := Pt) (G := G) (defs := dfs) (d0 := D6) KX Gn c chk_all scs bds rfl rfl lams ?dist (by simp [dfs]) rfl hmg hlaw⟩
    case dist =>
      intro d hd d' hd' _
      have e : KF.lamsOf dfs = [D1] := rfl
      rw [e] at hd hd'
      rw [List.mem_singleton.mp hd, List.mem_singleton.mp hd']
end KL


set_option linter.all false
set_option autoImplicit false
set_option maxRecDepth 100000
set_option maxHeartbeats 2000000
namespace KL
open KF
/-! ### the state of the draws -/
structure Stt (t a b : Nat) (S : Sto) : Prop where
  ne : a ≠ b
  ex : ∃ (spot : Nat) (cells : List Int), spot ≤ t ∧ cells ≠ [] ∧ cells.length ≤ 1000 ∧ S[a]? = some (.lst [.ref b, .int spot]) ∧ S[b]? = some (.lst (cells.map W.int))
/-- all but the state is as it was -/
structure Kp (a b : Nat) (S S' : Sto) : Prop where
  len : S'.length = S.length
  at_ : ∀ j, j ≠ a → j ≠ b → S'[j]? = S[j]?
theorem Kp.refl (a b : Nat) (S : Sto) : Kp a b S S := ⟨rfl, fun _ _ _ => rfl⟩
theorem Kp.trans {a b : Nat} {S S' S2 : Sto} (h : Kp a b S S') (k : Kp a b S' S2) : Kp a b S S2 := ⟨k.len.trans h.len, fun j h1 h2 => (k.at_ j h1 h2).trans (h.at_ j h1 h2)⟩
theorem pyIx_nat {n k : Nat} (h : k < n) : pyIx n (k : Int) = some k := by
  unfold pyIx
  rw [if_pos (by omega), if_pos (by omega)]
  rfl
def finD : Fl → Sto → Res W := fun q S => match q with
  | .nx _ => .ok .non S
  | .rt w => .ok w S
  | .xc c fs _ => .ex c fs S
  | _ => .stuck
theorem run_def {d f : Nat} {ws : List W} {S : Sto} (D : Def) (h : pget f G.dfs = some D) (hl : ws.length = D.np) : callD G WF (d + 1) f ws S = (evSs G (callD G WF d) WF D.body (ws.map some ++ List.replicate (D.ns - D.np) none) S).bind finD := by
  show (match pget f G.dfs with | some D => runD G (callD G WF d) WF D ws S | none => .stuck) = _
  rw [h]
  show (if _ then _ else _) = _
  rw [if_pos hl]
  congr 1
theorem fin_ret (w : W) (S : Sto) : finD (.rt w) S = .ok w S := rfl
local macro_rules | `(tactic| walk_at "ev") => `(tactic| simp -implicitDefEqProofs only [s_nil, s_cons, s_set, s_asub, s_expr, s_ret, e_var, e_int, e_str, e_bl, e_non, e_tup, e_lst, e_bin, e_cmp, e_or, e_and, e_not, e_sub, e_slc, e_call, e_blt, e_bm, e_frz, es_nil, es_cons, eo_none, eo_some, bind_ok, thenS_ok, nxt_nx, nxt_rt, lk_ok, List.getElem?_cons_zero, List.getElem?_cons_succ, List.set_cons_zero, List.set_cons_succ, o_add, o_sub, o_mod, o_lt, o_le, o_gt, o_ge, b_int, b_len_lst, b_len_tup, ifK_t, ifK_f, tr_bl, tr_lst, fin_ret, orK_t, orK_f, andK_t, andK_f, notK_s, lsR_l, seq_lst, lst_lst, sub_lst, sub_tup, List.map_cons, List.map_nil, List.replicate, List.cons_append, List.nil_append, Nat.reduceSub])
/-- a mixed draw's value -/
theorem draw_ok (d t a b : Nat) (m : Int) (S : Sto) (hm : 0 < m) (hm2 : m < 1000000) (ht : t ≤ 1000000) (h : Stt t a b S) : ∃ v S', callD G WF (d + 1) 2 [.ref a, .int m] S = .ok (.int v) S' ∧ 0 ≤ v ∧ v < m ∧ Stt (t + 1) a b S' ∧ Kp a b S S' := by
  obtain ⟨ne, spot, cells, hsp, hc, hlen, ha, hb⟩ := h
  have hl : 0 < cells.length := List.length_pos_iff.mpr hc
  have hat : spot % cells.length < cells.length := Nat.mod_lt _ hl
  have alt : a < S.length := (List.getElem?_eq_some_iff.mp ha).1
  have blt : b < S.length := (List.getElem?_eq_some_iff.mp hb).1
  let S1 : Sto := S.set a (.lst [.ref b, .int ((spot : Int) + 1)])
  have ha1 : S1[a]? = some (.lst [.ref b, .int ((spot : Int) + 1)]) := List.getElem?_set_self alt
  have hb1 : S1[b]? = some (.lst (cells.map W.int)) := by show (S.set a _)[b]? = _; rw [List.getElem?_set_ne ne]; exact hb
  have hfm : Int.fmod (spot : Int) ((cells.map W.int).length : Int) = ((spot % cells.length : Nat) : Int) := by
    rw [List.length_map, Int.fmod_eq_emod_of_nonneg _ (by omega)]; rfl
  have hl0 : ((cells.map W.int).length : Int) ≠ 0 := by rw [List.length_map]; omega
  have mod_ok : ∀ x : Int, 0 ≤ Int.fmod x m ∧ Int.fmod x m < m := fun x => by
    rw [Int.fmod_eq_emod_of_nonneg _ (by omega)]
    exact ⟨Int.emod_nonneg _ (by omega), Int.emod_lt_of_pos _ hm⟩
  have ecell : (cells.map W.int)[spot % cells.length]? = some (.int (cells[spot % cells.length])) := by
    rw [List.getElem?_map, List.getElem?_eq_getElem hat]; rfl
  have kp1 : Kp a b S S1 := ⟨by simp [S1], fun j h1 h2 => List.getElem?_set_ne (Ne.symm h1)⟩
  rw [run_def ⟨2, 6, b_law_draw⟩ rfl rfl]
  unfold b_law_draw
  walk_at "ev"
  rw [sub_ref a 1 _ ha, ixK_at _ _ 1 (.int spot) _ rfl rfl]
  walk_at "ev"
  rw [set_ref a 1 _ _ 1 ha rfl]
  walk_at "ev"
  rw [show S.set a (.lst [W.ref b, W.int ((spot : Int) + 1)]) = S1 from rfl, sub_ref a 0 _ ha1, ixK_at _ _ 0 (.ref b) _ rfl rfl]
  walk_at "ev"
  rw [b_len_ref b _ hb1]
  walk_at "ev"
  rw [if_pos hl0, hfm]
  walk_at "ev"
  rw [sub_ref a 0 _ ha1, ixK_at _ _ 0 (.ref b) _ rfl rfl]
  walk_at "ev"
  rw [sub_ref b _ _ hb1, ixK_at _ _ _ _ _ (pyIx_nat (n := (cells.map W.int).length) (k := spot % cells.length) (by rw [List.length_map]; exact hat)) ecell]
  walk_at "ev"
  have hp10 : (if (0 : Int) ≤ 18 ∧ (18 : Int) ≤ 1000000 ∧ (10 : Int).natAbs < 2 ^ 64 then (Res.ok (.int ((10 : Int) ^ (18 : Int).toNat)) S1 : Res W) else .stuck) = .ok (.int (10 ^ 18)) S1 := if_pos (by decide)
  rw [s_ite (w := .bl (decide ((10 : Int) ^ 18 ≤ cells[spot % cells.length]))) (S1 := S1) (h := by walk_at "ev"; rw [o_pow, hp10]; walk_at "ev")]
  by_cases hbig : (10 : Int) ^ 18 ≤ cells[spot % cells.length]
  · rw [decide_eq_true hbig]
    walk_at "ev"
    rw [o_fdiv, if_pos (show m ≠ 0 ∧ m.natAbs < 1073741824 by omega)]
    walk_at "ev"
    rw [sub_ref a 0 _ ha1, ixK_at _ _ 0 (.ref b) _ rfl rfl]
    walk_at "ev"
    rw [set_ref b _ _ _ (spot % cells.length) hb1 (pyIx_nat (by rw [List.length_map]; exact hat))]
    walk_at "ev"
    rw [if_pos (show m ≠ 0 by omega)]
    walk_at "ev"
    refine ⟨_, _, rfl, (mod_ok _).1, (mod_ok _).2, ⟨ne, spot + 1, cells.set (spot % cells.length) (Int.fdiv cells[spot % cells.length] m), by omega, ?_, by simpa using hlen, ?_, ?_⟩, kp1.trans ⟨by simp, fun j h1 h2 => List.getElem?_set_ne (Ne.symm h2)⟩⟩
    · intro z
      have := congrArg List.length z
      simp at this
      exact hc this
    · rw [List.getElem?_set_ne (Ne.symm ne), ha1]
      simp
    · rw [List.getElem?_set_self (by simp [S1]; exact blt), List.map_set]
  · rw [decide_eq_false hbig]
    walk_at "ev"
    have c1 : Int.fmod cells[spot % cells.length] 1000003 = cells[spot % cells.length] % 1000003 := Int.fmod_eq_emod_of_nonneg _ (by omega)
    have c2 : 0 ≤ cells[spot % cells.length] % 1000003 := Int.emod_nonneg _ (by omega)
    have c3 : cells[spot % cells.length] % 1000003 < 1000003 := Int.emod_lt_of_pos _ (by omega)
    rw [if_pos (show (1000003 : Int) ≠ 0 by omega), c1]
    walk_at "ev"
    rw [o_mul, if_pos (mulOk_r _ _ (by omega) (by omega))]
    walk_at "ev"
    rw [o_mul, if_pos (mulOk_r _ _ (by omega) (by omega))]
    walk_at "ev"
    rw [pow_ok _ _ _ _ (by omega) (by omega) (by omega)]
    walk_at "ev"
    rw [if_pos (show (2147483647 : Int) ≠ 0 by omega)]
    walk_at "ev"
    rw [o_fdiv, if_pos (by omega)]
    walk_at "ev"
    rw [if_pos (show m ≠ 0 by omega)]
    walk_at "ev"
    exact ⟨_, _, rfl, (mod_ok _).1, (mod_ok _).2, ⟨ne, spot + 1, cells, by omega, hc, hlen, by rw [ha1]; simp, hb1⟩, kp1⟩
end KL


set_option linter.all false
set_option autoImplicit false
set_option maxRecDepth 100000
set_option maxHeartbeats 2000000
namespace KL
open KF
local macro_rules | `(tactic| walk_at "ev") => `(tactic| simp -implicitDefEqProofs only [s_nil, s_cons, s_set, s_asub, s_expr, s_ret, e_var, e_int, e_str, e_bl, e_non, e_tup, e_lst, e_bin, e_cmp, e_or, e_and, e_not, e_sub, e_slc, e_call, e_blt, e_frz, es_nil, es_cons, eo_none, eo_some, bind_ok, thenS_ok, nxt_nx, nxt_rt, lk_ok, List.getElem?_cons_zero, List.getElem?_cons_succ, List.set_cons_zero, List.set_cons_succ, o_add, o_sub, o_mod, o_lt, o_le, o_gt, o_ge, b_int, b_len_lst, b_len_tup, ifK_t, ifK_f, tr_bl, tr_lst, fin_ret, orK_t, orK_f, andK_t, andK_f, notK_s, lsR_l, seq_lst, lst_lst, sub_lst, sub_tup, List.map_cons, List.map_nil, List.replicate, List.cons_append, List.nil_append, Nat.reduceSub])
/-- the alphabet -/
def letters : Nm := [97, 98, 99, 100, 101, 102, 103, 104, 105, 106, 107, 108, 109, 110, 111, 112, 113, 114, 115, 116, 117, 118, 119, 120, 121, 122]
def signs : Nm := [97, 98, 99, 100, 101, 102, 103, 104, 105, 106, 107, 108, 109, 110, 111, 112, 113, 114, 115, 116, 117, 118, 119, 120, 121, 122, 48, 49, 50, 51, 52, 53, 54, 55, 56, 57, 95]
/-- all but the state and one thing is as it was -/
structure Kq (a b c : Nat) (S S' : Sto) : Prop where
  len : S'.length = S.length
  at_ : ∀ j, j ≠ a → j ≠ b → j ≠ c → S'[j]? = S[j]?
/-- names so far: the k-th has the k-th letter behind its head -/
def NmOk (ss : List Nm) : Prop := ∀ k s, ss[k]? = some s → s[1]? = some (97 + k) ∧ plainS s = true ∧ s.length ≤ 4
theorem NmOk.nodup {ss : List Nm} (h : NmOk ss) : ss.Nodup := by
  rw [List.nodup_iff_pairwise_ne, List.pairwise_iff_getElem]
  intro i j hi hj hij e
  have h1 := (h i _ (List.getElem?_eq_getElem hi)).1
  have h2 := (h j _ (List.getElem?_eq_getElem hj)).1
  rw [e, h2] at h1
  simp at h1
  omega
def NI (t a b c : Nat) (S0 : Sto) (i : Nat) (env : Env) (S : Sto) : Prop := ∃ (x5 x6 x7 : Option W) (ss : List Nm), env = [some (.ref a), some (.int 12), some (.str letters), some (.str signs), some (.ref c), x5, x6, x7] ∧
  Stt (t + 3 * i) a b S ∧ S[c]? = some (.lst (ss.map W.str)) ∧ ss.length = i ∧ NmOk ss ∧ Kq a b c S0 S
theorem letters_at {k : Nat} (h : k < 26) : letters[k]? = some (97 + k) := by
  have : ∀ k : Fin 26, letters[k.val]? = some (97 + k.val) := by decide
  exact this ⟨k, h⟩
theorem signs_at {k : Nat} (h : k < 37) : ∃ z, signs[k]? = some z ∧ z < 200 := by
  have : ∀ k : Fin 37, ∃ z, signs[k.val]? = some z ∧ z < 200 := by
    intro k
    have hl : k.val < signs.length := k.isLt
    refine ⟨signs[k.val], List.getElem?_eq_getElem hl, ?_⟩
    have : ∀ x ∈ signs, x < 200 := by decide
    exact this _ (List.getElem_mem hl)
  exact this ⟨k, h⟩
theorem names_step (d t a b c : Nat) (S0 : Sto) (hca : c ≠ a) (hcb : c ≠ b) (i : Nat) (hi : i < 12) (ht : t ≤ 900000) (env : Env) (S : Sto) (I : NI t a b c S0 i env S) :
    ∃ env' S', forB G (callD G WF (d + 1)) WF (.nm 5) (.cons (.set 6 (.sub (.var 2) (.call 2 (.cons (.var 0) (.cons (.int 26) .nil))))) (.cons (.set 7 (.bin .mul false (.sub (.var 3) (.call 2 (.cons (.var 0) (.cons (.int 37) .nil)))) (.call 2 (.cons (.var 0) (.cons (.int 3) .nil))))) (.cons (.expr (.bm .append false (.var 4) (.cons (.bin .add false (.bin .add false (.var 6) (.sub (.var 2) (.var 5))) (.var 7)) .nil))) .nil))) (.int (i : Nat)) env S = .ok (.nx env') S' ∧ gdOk none S' = true ∧ NI t a b c S0 (i + 1) env' S' := by
  obtain ⟨x5, x6, x7, ss, rfl, st, hc, hl, hn, kq⟩ := I
  obtain ⟨v1, S1, e1, l1, u1, st1, k1⟩ := draw_ok d (t + 3 * i) a b 26 S (by omega) (by omega) (by omega) st
  obtain ⟨v2, S2, e2, l2, u2, st2, k2⟩ := draw_ok d (t + 3 * i + 1) a b 37 S1 (by omega) (by omega) (by omega) st1
  obtain ⟨v3, S3, e3, l3, u3, st3, k3⟩ := draw_ok d (t + 3 * i + 2) a b 3 S2 (by omega) (by omega) (by omega) st2
  have kk := (k1.trans k2).trans k3
  have hc3 : S3[c]? = some (.lst (ss.map W.str)) := by rw [kk.at_ c hca hcb]; exact hc
  obtain ⟨n1, rfl⟩ : ∃ n : Nat, v1 = n := ⟨v1.toNat, by omega⟩
  obtain ⟨n2, rfl⟩ : ∃ n : Nat, v2 = n := ⟨v2.toNat, by omega⟩
  obtain ⟨n3, rfl⟩ : ∃ n : Nat, v3 = n := ⟨v3.toNat, by omega⟩
  obtain ⟨z, hz, hz2⟩ := signs_at (k := n2) (by omega)
  rw [forB_nm]
  walk_at "ev"
  rw [e1]
  walk_at "ev"
  rw [sub_str letters _ n1 _ (by decide) (pyIx_nat (n := 26) (by omega)) (letters_at (by omega))]
  walk_at "ev"
  rw [e2]
  walk_at "ev"
  rw [sub_str signs _ n2 z (by decide) (pyIx_nat (n := 37) (by omega)) hz]
  walk_at "ev"
  rw [e3]
  walk_at "ev"
  rw [o_rep, if_pos (show (0 : Int) ≤ n3 ∧ ([z] : Nm).length * (n3 : Int).toNat ≤ SZ ∧ (n3 : Int) ≤ SZ from ⟨by omega, (by show 1 * (n3 : Int).toNat ≤ SZ; unfold SZ; omega), (by unfold SZ; omega)⟩)]
  walk_at "ev"
  have htl : ((n3 : Int).toNat) = n3 := rfl
  have hss : (ss.map W.str).length < SZ := by rw [List.length_map]; unfold SZ; omega
  have hlt : letters[i]? = some (97 + i) := letters_at (by omega)
  have ll : letters.length = 26 := rfl
  rw [e_bm_app (i := c) (l := ss.map W.str) (x := .str ([97 + n1] ++ [97 + i] ++ (List.replicate n3 [z]).flatten)) (S1 := S3) (S2 := S3) (h := by walk_at "ev") (hl := hc3) (hl2 := hc3) (hz := hss) (he := by
    walk_at "ev"
    rw [sub_str letters _ i _ (by decide) (pyIx_nat (n := 26) (by omega)) hlt]
    walk_at "ev"
    rw [o_cat, if_pos (by show 1 + 1 ≤ SZ; unfold SZ; omega)]
    walk_at "ev"
    rw [o_cat, if_pos (by
      have : ((List.replicate (n3 : Int).toNat [z]).flatten).length ≤ 2 := by simp; omega
      show 2 + ((List.replicate (n3 : Int).toNat [z]).flatten).length ≤ SZ
      unfold SZ; omega)]
    rfl)]
  walk_at "ev"
  refine ⟨_, _, rfl, rfl, _, _, _, ss ++ [[97 + n1] ++ [97 + i] ++ (List.replicate n3 [z]).flatten], rfl, ?_, ?_, by simp [hl], ?_, ?_⟩
  · obtain ⟨ne, spot, cells, h1, h2, h3, h4, h5⟩ := st3
    exact ⟨ne, spot, cells, by omega, h2, h3, by rw [List.getElem?_set_ne hca]; exact h4, by rw [List.getElem?_set_ne hcb]; exact h5⟩
  · rw [List.getElem?_set_self (List.getElem?_eq_some_iff.mp hc3).1]
    simp
  · intro k s hk
    by_cases h : k < ss.length
    · rw [List.getElem?_append_left h] at hk
      exact hn k s hk
    · rw [List.getElem?_append_right (by omega)] at hk
      have hk0 : k - ss.length = 0 := by
        have := (List.getElem?_eq_some_iff.mp hk).1
        simp at this
        omega
      rw [hk0] at hk
      simp at hk
      subst hk
      have hki : k = i := by omega
      subst hki
      refine ⟨rfl, ?_, ?_⟩
      · simp [plainS]
        refine ⟨by omega, by omega, .inr (by omega)⟩
      · simp
        omega
  · refine ⟨by simp [kk.len, kq.len], fun j h1 h2 h3 => ?_⟩
    rw [List.getElem?_set_ne (Ne.symm h3), kk.at_ j h1 h2]
    exact kq.at_ j h1 h2 h3
theorem Stt.keep {t a b : Nat} {S S' : Sto} (h : Stt t a b S) (ha : S'[a]? = S[a]?) (hb : S'[b]? = S[b]?) : Stt t a b S' := by
  obtain ⟨ne, spot, cells, h1, h2, h3, h4, h5⟩ := h
  exact ⟨ne, spot, cells, h1, h2, h3, ha.trans h4, hb.trans h5⟩
theorem Stt.push {t a b : Nat} {S T : Sto} (h : Stt t a b S) : Stt t a b (S ++ T) := by
  obtain ⟨ne, spot, cells, h1, h2, h3, h4, h5⟩ := id h
  exact h.keep (List.getElem?_append_left (List.getElem?_eq_some_iff.mp h4).1) (List.getElem?_append_left (List.getElem?_eq_some_iff.mp h5).1)
theorem Stt.lt {t a b : Nat} {S : Sto} (h : Stt t a b S) : a < S.length ∧ b < S.length := by
  obtain ⟨ne, spot, cells, h1, h2, h3, h4, h5⟩ := h
  exact ⟨(List.getElem?_eq_some_iff.mp h4).1, (List.getElem?_eq_some_iff.mp h5).1⟩
theorem names_ok (d t a b : Nat) (S : Sto) (st : Stt t a b S) (ht : t ≤ 800000) : ∃ (ss : List Nm) (S' : Sto), callD G WF (d + 2) 3 [.ref a, .int 12] S = .ok (.lst (ss.map W.str)) S' ∧ ss.length = 12 ∧ NmOk ss ∧ Stt (t + 36) a b S' := by
  have lt := st.lt
  have st1 : Stt t a b (S ++ [.lst []]) := st.push
  have hc1 : (S ++ [Ob.lst []])[S.length]? = some (.lst ([] : List W)) := by simp
  have I0 : NI t a b S.length (S ++ [.lst []]) 0 [some (.ref a), some (.int 12), some (.str letters), some (.str signs), some (.ref S.length), none, none, none] (S ++ [.lst []]) :=
    ⟨none, none, none, [], rfl, st1, hc1, rfl, fun k s h => by simp at h, ⟨rfl, fun _ _ _ _ => rfl⟩⟩
  obtain ⟨env', S', e, I⟩ := for_inv (g := none) (NI t a b S.length (S ++ [.lst []])) ((List.range 12).map fun k => W.int (k : Nat)) 0 _ _ (fun j x env S2 hx hI => by
    have hj : j < 12 := by
      have := (List.getElem?_eq_some_iff.mp hx).1
      simpa using this
    have ex : x = .int (j : Nat) := by
      rw [List.getElem?_map, List.getElem?_range hj] at hx
      exact (Option.some.inj hx).symm
    subst ex
    have e0 : 0 + j = j := by omega
    rw [e0] at hI ⊢
    exact names_step d t a b S.length (S ++ [.lst []]) (by omega) (by omega) j hj (by omega) env S2 hI) I0
  obtain ⟨x5, x6, x7, ss, rfl, st2, hc, hl, hn, kq⟩ := I
  have hl : ss.length = 12 := by simpa using hl
  rw [run_def ⟨2, 8, b_law_names⟩ rfl rfl]
  unfold b_law_names
  rw [show ([97, 98, 99, 100, 101, 102, 103, 104, 105, 106, 107, 108, 109, 110, 111, 112, 113, 114, 115, 116, 117, 118, 119, 120, 121, 122] : Nm) = letters from rfl]
  walk_at "ev"
  rw [o_cat, if_pos (by decide), show letters ++ [48, 49, 50, 51, 52, 53, 54, 55, 56, 57, 95] = signs from rfl]
  walk_at "ev"
  rw [mkL_t _ (by decide)]
  walk_at "ev"
  rw [s_for (l := (List.range 12).map fun k => W.int (k : Nat)) (g := none) (S1 := S ++ [.lst []]) (h := i_rng1 _ (n := 12) (by walk_at "ev") (by decide) (by decide)), e]
  walk_at "ev"
  rw [frz_ref _ _ hc]
  walk_at "ev"
  refine ⟨ss, _, rfl, hl, hn, ?_⟩
  have e36 : t + 3 * (0 + ((List.range 12).map fun k => W.int (k : Nat)).length) = t + 36 := by simp
  rw [e36] at st2
  exact st2.keep (List.getElem?_set_ne (by omega)) (List.getElem?_set_ne (by omega))
end KL


set_option linter.all false
set_option autoImplicit false
set_option maxRecDepth 100000
set_option maxHeartbeats 2000000
namespace KL
open KF
local macro_rules | `(tactic| walk_at "ev") => `(tactic| simp -implicitDefEqProofs only [s_nil, s_cons, s_set, s_asub, s_expr, s_ret, e_var, e_int, e_str, e_bl, e_non, e_tup, e_lst, e_bin, e_cmp, e_or, e_and, e_not, e_sub, e_slc, e_call, e_blt, e_frz, es_nil, es_cons, eo_none, eo_some, bind_ok, thenS_ok, nxt_nx, nxt_rt, lk_ok, List.getElem?_cons_zero, List.getElem?_cons_succ, List.set_cons_zero, List.set_cons_succ, o_add, o_sub, o_mod, o_lt, o_le, o_gt, o_ge, b_int, b_len_lst, b_len_tup, ifK_t, ifK_f, tr_bl, tr_lst, fin_ret, orK_t, orK_f, andK_t, andK_f, notK_s, lsR_l, seq_lst, lst_lst, sub_lst, sub_tup, List.map_cons, List.map_nil, List.replicate, List.cons_append, List.nil_append, Nat.reduceSub])
/-- some of the parts, by draws -/
theorem some_parts (d t a b : Nat) (S : Sto) (ps : List Nm) (env : Env) (st : Stt t a b S) (ht : t + ps.length ≤ 900000) (hs : ps.length ≤ 1000) (e0 : env[0]? = some (some (.ref a))) (e3 : env[3]? = some (some (.lst (ps.map W.str)))) (hl : env.length = 8) :
    ∃ (qs : List Nm) (S' : Sto), evE G (callD G WF (d + 1)) (.lc false (.var 7) (.nm 7) (.val (.var 3)) (.cons (.cmp .eq (.call 2 (.cons (.var 0) (.cons (.int 2) .nil))) (.int 0)) .nil)) env S = .ok (.lst (qs.map W.str)) S' ∧ qs.Sublist ps ∧ Stt (t + ps.length) a b S' ∧ Kp a b S S' := by
  have hz : (ps.map W.str).length ≤ SZ := by rw [List.length_map]; unfold SZ; omega
  rw [e_lc (l := ps.map W.str) (g := none) (S1 := S) (h := i_val _ (w := .lst (ps.map W.str)) (by walk_at "ev"; rw [e3]; rfl) rfl) (hz := hz)]
  obtain ⟨ws, S', e, qs, hw, hq, st', kp⟩ := lc_inv (g := none) (f := lcB G (callD G WF (d + 1)) (.var 7) (.nm 7) (.cons (.cmp .eq (.call 2 (.cons (.var 0) (.cons (.int 2) .nil))) (.int 0)) .nil) env)
    (fun i acc S' => ∃ qs : List Nm, acc = qs.map W.str ∧ qs.Sublist (ps.take i) ∧ Stt (t + i) a b S' ∧ Kp a b S S') (ps.map W.str) 0 [] S (fun j x acc S2 hx hI => by
    obtain ⟨qs, rfl, hq, st2, kp⟩ := hI
    have e0' : 0 + j = j := by omega
    rw [e0'] at hq st2 ⊢
    rw [List.getElem?_map] at hx
    cases ep : ps[j]? with
    | none => rw [ep] at hx; cases hx
    | some p =>
      rw [ep] at hx
      cases hx
      have hj : j < ps.length := (List.getElem?_eq_some_iff.mp ep).1
      obtain ⟨v, S3, ev, l1, u1, st3, k3⟩ := draw_ok d (t + j) a b 2 S2 (by omega) (by omega) (by omega) st2
      have x0 : (env.set 7 (some (W.str p)))[0]? = some (some (.ref a)) := by rw [List.getElem?_set_ne (by omega)]; exact e0
      have x7 : (env.set 7 (some (W.str p)))[7]? = some (some (.str p)) := List.getElem?_set_self (by omega)
      have tk : ps.take (j + 1) = ps.take j ++ [p] := by rw [List.take_add_one, ep]; rfl
      have hev : evE G (callD G WF (d + 1)) (.cmp .eq (.call 2 (.cons (.var 0) (.cons (.int 2) .nil))) (.int 0)) (env.set 7 (some (W.str p))) S2 = .ok (.bl (v == 0)) S3 := by
        walk_at "ev"
        rw [x0]
        walk_at "ev"
        rw [ev]
        walk_at "ev"
        rfl
      rw [lcB_nm, ts_one _ hev (tr_bl _ _)]
      walk_at "ev"
      rw [x7]
      cases hb : (v == 0) with
      | true =>
        exact ⟨some (.str p), S3, rfl, rfl, qs ++ [p], by simp, by rw [tk]; exact hq.append (List.Sublist.refl _), st3, kp.trans k3⟩
      | false =>
        exact ⟨none, S3, rfl, rfl, qs, by simp, by rw [tk]; exact hq.trans (List.sublist_append_left _ _), st3, kp.trans k3⟩) ⟨[], rfl, List.nil_sublist _, st, Kp.refl a b S⟩
  rw [e]
  have e0' : 0 + (ps.map W.str).length = ps.length := by simp
  rw [e0'] at hq st'
  rw [List.take_length] at hq
  rw [List.nil_append] at hw
  subst hw
  refine ⟨qs, S', ?_, hq, st', kp⟩
  show mkL false _ S' = _
  exact mkL_f _ (by rw [List.length_map]; have := hq.length_le; unfold SZ; omega)
/-- licences: the domains' names with their parts -/
def licW (l : List (Nm × List Nm)) : List W := l.map fun p => .tup [.str p.1, .lst (p.2.map W.str)]
structure LicOk (l : List (Nm × List Nm)) : Prop where
  nd : (l.map fun p => p.1).Nodup
  len : l.length ≤ 5
  pl : ∀ p ∈ l, plainS p.1 = true
  ps : ∀ p ∈ l, p.2.Nodup ∧ p.2.length ≤ 8 ∧ ∀ s ∈ p.2, plainS s = true
def LI (t a b c : Nat) (S0 : Sto) (parts names : List Nm) (i : Nat) (env : Env) (S : Sto) : Prop := ∃ (x2 x4 x6 x7 : Option W) (lic : List (Nm × List Nm)), env = [some (.ref a), some (.int 3), x2, some (.lst (parts.map W.str)), x4, some (.ref c), x6, x7] ∧
  Stt (t + 8 * i) a b S ∧ S[c]? = some (.lst (licW lic)) ∧ lic.map (fun p => p.1) = names.take i ∧ ∀ p ∈ lic, p.2.Sublist parts
theorem lic_step (d t a b c : Nat) (S0 : Sto) (parts names : List Nm) (hca : c ≠ a) (hcb : c ≠ b) (hp : parts.length ≤ 8) (hn : names.length ≤ 5) (ht : t ≤ 800000) (i : Nat) (n : Nm) (hi : names[i]? = some n) (env : Env) (S : Sto) (I : LI t a b c S0 parts names i env S) :
    ∃ env' S', forB G (callD G WF (d + 1)) WF (.nm 6) (.cons (.expr (.bm .append false (.var 5) (.cons (.tup (.cons (.var 6) (.cons (.lc false (.var 7) (.nm 7) (.val (.var 3)) (.cons (.cmp .eq (.call 2 (.cons (.var 0) (.cons (.int 2) .nil))) (.int 0)) .nil)) .nil))) .nil))) .nil) (.str n) env S = .ok (.nx env') S' ∧ gdOk none S' = true ∧ LI t a b c S0 parts names (i + 1) env' S' := by
  obtain ⟨x2, x4, x6, x7, lic, rfl, st, hc, hl, hs⟩ := I
  have hin : i < names.length := (List.getElem?_eq_some_iff.mp hi).1
  obtain ⟨qs, S1, e1, hq, st1, k1⟩ := some_parts d (t + 8 * i) a b S parts [some (.ref a), some (.int 3), x2, some (.lst (parts.map W.str)), x4, some (.ref c), some (.str n), x7] st (by omega) (by omega) rfl rfl rfl
  have hc1 : S1[c]? = some (.lst (licW lic)) := by rw [k1.at_ c hca hcb]; exact hc
  have ll : lic.length ≤ 5 := by
    have := congrArg List.length hl
    rw [List.length_map, List.length_take] at this
    omega
  have hlic : (licW lic).length < SZ := by unfold licW; rw [List.length_map]; unfold SZ; omega
  rw [forB_nm]
  walk_at "ev"
  rw [e_bm_app (i := c) (l := licW lic) (x := .tup [.str n, .lst (qs.map W.str)]) (S1 := S) (S2 := S1) (h := by walk_at "ev") (hl := hc) (hl2 := hc1) (hz := hlic) (he := by
    walk_at "ev"
    rw [e1]
    walk_at "ev"
    rw [mkT_ok' _ (by show 2 ≤ SZ; unfold SZ; omega)])]
  walk_at "ev"
  refine ⟨_, _, rfl, rfl, x2, x4, some (.str n), x7, lic ++ [(n, qs)], rfl, ?_, ?_, ?_, ?_⟩
  · have q : Stt (t + 8 * (i + 1)) a b S1 := by
      obtain ⟨ne, spot, cells, h1, h2, h3, h4, h5⟩ := st1
      exact ⟨ne, spot, cells, by omega, h2, h3, h4, h5⟩
    exact q.keep (List.getElem?_set_ne hca) (List.getElem?_set_ne hcb)
  · rw [List.getElem?_set_self (List.getElem?_eq_some_iff.mp hc1).1]
    simp [licW]
  · rw [List.map_append, hl, List.take_add_one, hi]
    rfl
  · intro p hp
    rcases List.mem_append.mp hp with h | h
    · exact hs p h
    · rw [List.mem_singleton.mp h]
      exact hq
theorem licences_ok (d t a b : Nat) (S : Sto) (st : Stt t a b S) (ht : t ≤ 700000) : ∃ (lic : List (Nm × List Nm)) (S' : Sto), callD G WF (d + 3) 4 [.ref a, .int 3] S = .ok (.lst (licW lic)) S' ∧ LicOk lic ∧ Stt (t + 1000) a b S' := by
  obtain ⟨ss, S1, e1, hl, hn, st1⟩ := names_ok d t a b S st (by omega)
  obtain ⟨v, S2, e2, l2, u2, st2, k2⟩ := draw_ok (d + 1) (t + 36) a b 3 S1 (by omega) (by omega) (by omega) st1
  let parts0 : List Nm := cut ss (some 5) (some (6 + v))
  have p0len : parts0.length = 1 + v.toNat := by
    show (cut ss (some 5) (some (6 + v))).length = _
    have c1 : cutAt ss.length 0 (some 5) = 5 := by unfold cutAt; rw [hl]; rfl
    have c2 : cutAt ss.length ss.length (some (6 + v)) = 6 + v.toNat := by
      unfold cutAt
      simp only
      rw [if_neg (by omega), hl]
      omega
    unfold cut
    rw [c1, c2, List.length_take, List.length_drop, hl]
    omega
  obtain ⟨tn, S3, e3, l3, u3, st3, k3⟩ := draw_ok (d + 1) (t + 36 + 1) a b ((parts0.map W.str).length : Nat) S2 (by rw [List.length_map]; omega) (by rw [List.length_map]; omega) (by omega) st2
  let parts : List Nm := cut parts0 (some tn) none ++ cut parts0 none (some tn)
  have hparts : ∃ q, parts = parts0.drop q ++ parts0.take q := by
    refine ⟨min tn.toNat parts0.length, ?_⟩
    show cut parts0 (some tn) none ++ cut parts0 none (some tn) = _
    unfold cut cutAt
    simp only
    rw [if_neg (by omega)]
    simp
    rw [List.take_of_length_le (by simp)]
  obtain ⟨q, hq⟩ := hparts
  have pperm : parts.Perm parts0 := by
    rw [hq]
    exact List.perm_append_comm.trans (by rw [List.take_append_drop])
  have psub : parts0.Sublist ss := cut_sub _ _ _
  have plen : parts.length ≤ 8 := by rw [pperm.length_eq, p0len]; omega
  have st4 : Stt (t + 36 + 1 + 1) a b (S3 ++ [.lst []]) := st3.push
  have lt3 := st3.lt
  obtain ⟨v6, S5, e5, l5, u5, st5, k5⟩ := draw_ok (d + 1) (t + 36 + 1 + 1) a b 6 (S3 ++ [.lst []]) (by omega) (by omega) (by omega) st4
  let nms : List Nm := cut ss none (some v6)
  have nsub : nms.Sublist ss := cut_sub _ _ _
  have nlen : nms.length ≤ 5 := by
    show (cut ss none (some v6)).length ≤ 5
    unfold cut cutAt
    simp only
    rw [if_neg (by omega), List.length_take]
    omega
  have hc5 : S5[S3.length]? = some (.lst ([] : List W)) := by
    rw [k5.at_ _ (by omega) (by omega)]
    simp
  have I0 : LI (t + 36 + 1 + 1 + 1) a b S3.length S5 parts nms 0 [some (.ref a), some (.int 3), some (.lst (ss.map W.str)), some (.lst (parts.map W.str)), some (.int tn), some (.ref S3.length), none, none] S5 :=
    ⟨_, _, none, none, [], rfl, st5, hc5, rfl, fun p h => by simp at h⟩
  obtain ⟨env', S6, ef, x2, x4, x6, x7, lic, rfl, st6, hc6, hl6, hs6⟩ := for_inv (g := none) (LI (t + 36 + 1 + 1 + 1) a b S3.length S5 parts nms) (nms.map W.str) 0 _ _ (fun j x env S hx hI => by
    rw [List.getElem?_map] at hx
    cases en : nms[j]? with
    | none => rw [en] at hx; cases hx
    | some n =>
      rw [en] at hx
      cases hx
      have e0 : 0 + j = j := by omega
      rw [e0] at hI ⊢
      exact lic_step (d + 1) (t + 36 + 1 + 1 + 1) a b S3.length S5 parts nms (by omega) (by omega) plen nlen (by omega) j n en env S hI) I0
  have zss : (ss.map W.str).length ≤ SZ := by rw [List.length_map, hl]; decide
  have z0 : parts0.length ≤ SZ := by rw [p0len]; unfold SZ; omega
  have zp : (parts.map W.str).length ≤ SZ := by rw [List.length_map]; unfold SZ; omega
  have zn : (nms.map W.str).length ≤ SZ := by rw [List.length_map]; unfold SZ; omega
  rw [run_def ⟨2, 8, b_law_licences⟩ rfl rfl]
  unfold b_law_licences
  walk_at "ev"
  rw [e1]
  walk_at "ev"
  rw [e2]
  walk_at "ev"
  rw [sl_lst _ _ _ _ (some 5) (some (6 + v)) rfl rfl zss, cut_map, show cut ss (some 5) (some (6 + v)) = parts0 from rfl, mkL_f _ (by rw [List.length_map]; exact z0)]
  walk_at "ev"
  rw [e3]
  walk_at "ev"
  rw [sl_lst _ _ _ _ (some tn) none rfl rfl (by rw [List.length_map]; exact z0), cut_map, mkL_f _ (by rw [List.length_map]; exact Nat.le_trans (cut_sub _ _ _).length_le z0)]
  walk_at "ev"
  rw [sl_lst _ _ _ _ none (some tn) rfl rfl (by rw [List.length_map]; exact z0), cut_map, mkL_f _ (by rw [List.length_map]; exact Nat.le_trans (cut_sub _ _ _).length_le z0)]
  walk_at "ev"
  rw [o_catL, ← List.map_append, show cut parts0 (some tn) none ++ cut parts0 none (some tn) = parts from rfl, mkL_f _ zp]
  walk_at "ev"
  rw [mkL_t _ (by decide)]
  walk_at "ev"
  rw [s_for (l := nms.map W.str) (g := none) (S1 := S5) (h := i_val _ (w := .lst (nms.map W.str)) (by
    walk_at "ev"
    rw [e5]
    walk_at "ev"
    rw [sl_lst _ _ _ _ none (some v6) rfl rfl zss, cut_map, show cut ss none (some v6) = nms from rfl, mkL_f _ zn]) rfl), ef]
  walk_at "ev"
  rw [frz_ref _ _ hc6]
  walk_at "ev"
  have hl6' : lic.map (fun p => p.1) = nms := by rw [hl6]; simp
  have mem_pl : ∀ s ∈ ss, plainS s = true := fun s hs => by
    obtain ⟨k, hk, rfl⟩ := List.mem_iff_getElem.mp hs
    exact (hn k _ (List.getElem?_eq_getElem hk)).2.1
  refine ⟨lic, _, rfl, ⟨by rw [hl6']; exact hn.nodup.sublist nsub, ?_, fun p hp => ?_, fun p hp => ⟨?_, ?_, fun s hs => ?_⟩⟩, ?_⟩
  · have := congrArg List.length hl6'
    rw [List.length_map] at this
    omega
  · have : p.1 ∈ nms := by rw [← hl6']; exact List.mem_map_of_mem hp
    exact mem_pl _ (nsub.subset this)
  · exact (pperm.nodup_iff.mpr (hn.nodup.sublist psub)).sublist (hs6 p hp)
  · exact Nat.le_trans (hs6 p hp).length_le plen
  · exact mem_pl _ (psub.subset (pperm.mem_iff.mp ((hs6 p hp).subset hs)))
  · obtain ⟨ne, spot, cells, h1, h2, h3, h4, h5⟩ := st6
    have e9 : (nms.map W.str).length ≤ 5 := by rw [List.length_map]; exact nlen
    exact ⟨ne, spot, cells, by omega, h2, h3, by rw [List.getElem?_set_ne (by omega)]; exact h4, by rw [List.getElem?_set_ne (by omega)]; exact h5⟩
end KL


set_option linter.all false
set_option autoImplicit false
set_option maxRecDepth 100000
set_option maxHeartbeats 2000000
namespace KL
open KF
local macro_rules | `(tactic| walk_at "ev") => `(tactic| simp -implicitDefEqProofs only [s_nil, s_cons, s_set, s_asub, s_expr, s_ret, e_var, e_int, e_str, e_bl, e_non, e_tup, e_lst, e_bin, e_cmp, e_or, e_and, e_not, e_sub, e_slc, e_call, e_blt, e_frz, es_nil, es_cons, eo_none, eo_some, bind_ok, thenS_ok, nxt_nx, nxt_rt, lk_ok, List.getElem?_cons_zero, List.getElem?_cons_succ, List.set_cons_zero, List.set_cons_succ, o_add, o_sub, o_mod, o_lt, o_le, o_gt, o_ge, b_int, b_len_lst, b_len_tup, ifK_t, ifK_f, tr_bl, tr_lst, fin_ret, orK_t, orK_f, andK_t, andK_f, notK_s, lsR_l, seq_lst, lst_lst, sub_lst, sub_tup, List.map_cons, List.map_nil, List.replicate, List.cons_append, List.nil_append, Nat.reduceSub])
theorem mem_strs (n : Nm) : ∀ l : List Nm, mem (.str n) (l.map W.str) = decide (n ∈ l)
  | [] => by simp [mem]
  | x :: l => by
    have ih := mem_strs n l
    unfold mem at ih ⊢
    rw [List.map_cons, List.any_cons, ih]
    show (x == n || _) = _
    by_cases h : x = n
    · subst h; simp
    · have h1 : (x == n) = false := by simpa using h
      have h2 : (n = x) = False := by simp; exact fun e => h e.symm
      rw [h1]
      simp [h2]
theorem datL_strs : ∀ l : List Nm, (∀ s ∈ l, plainS s = true) → datL 60 (l.map W.str) = true
  | [], _ => rfl
  | x :: l, h => by
    show (dat 60 (.str x) && datL 60 (l.map W.str)) = true
    rw [datL_strs l fun s hs => h s (List.mem_cons_of_mem _ hs)]
    show (plainS x && true) = true
    rw [h x (List.mem_cons_self ..)]
    rfl
theorem isin_strs (n : Nm) (c : Nat) (l : List Nm) (S : Sto) (h : S[c]? = some (.lst (l.map W.str))) (hn : plainS n = true) (hl : ∀ s ∈ l, plainS s = true) : cmpop .isin (.str n) (.ref c) S = .ok (decide (n ∈ l)) S := by
  have e : seqOf S (.ref c) = some (l.map W.str) := by show lsR S[c]? = _; rw [h]; rfl
  unfold cmpop
  simp only [e]
  rw [if_pos, mem_strs]
  show (plainS n && datL 60 (l.map W.str)) = true
  rw [hn, datL_strs l hl]
  rfl
theorem wstrs_map : ∀ l : List Nm, wstrs (l.map W.str) = some l
  | [] => rfl
  | x :: l => by
    show (wstrs (l.map W.str)).map (x :: ·) = _
    rw [wstrs_map l]
    rfl
theorem undup_nd : ∀ {l : List Nm}, l.Nodup → undup l = l
  | [], _ => rfl
  | x :: l, h => by
    have h' := List.nodup_cons.mp h
    unfold undup
    rw [if_neg h'.1, undup_nd h'.2]
theorem lenSet_nd (m : Bool) (l : List Nm) (S : Sto) (h : l.Nodup) (hp : ∀ s ∈ l, plainS s = true) (hz : l.length ≤ 200) : bltin .lenSet m [.lst (l.map W.str)] S = .ok (.int l.length) S := by
  have e : (lstOf S (.lst (l.map W.str))).bind wstrs = some l := by show wstrs _ = _; exact wstrs_map l
  unfold bltin
  simp only [e]
  rw [if_pos, undup_nd h]
  simp only [Bool.and_eq_true, decide_eq_true_eq, List.all_eq_true]
  exact ⟨hp, hz⟩
theorem lc_map {f : W → Sto → Res (Option W)} (h : W → W) (S : Sto) : ∀ l : List W, (∀ x ∈ l, f x S = .ok (some (h x)) S) → lcLoop none f l S = .ok (l.map h) S
  | [], _ => rfl
  | x :: r, hf => by
    show (f x S).bind _ = _
    rw [hf x (List.mem_cons_self ..)]
    show (if gdOk none S = true then (lcLoop none f r S).bind _ else .stuck) = _
    rw [if_pos (show gdOk none S = true from rfl), lc_map h S r fun y hy => hf y (List.mem_cons_of_mem _ hy)]
    rfl
theorem forB_tp (G : Prog) (cf : CF) (wf : Nat) (l : List Nat) (b : Ss) (x : W) (env env' : Env) (S : Sto) (h : setT (.tp l) x env = some env') : forB G cf wf (.tp l) b x env S = evSs G cf wf b env' S := by
  unfold forB
  rw [h]
def chkW (l : List (Nm × List Nm)) : List W := l.map fun p => .tup [.str p.1, .tup (p.2.map W.str)]
def CI (c : Nat) (S0 : Sto) (lic : List (Nm × List Nm)) (i : Nat) (env : Env) (S : Sto) : Prop := ∃ x2 x3, env = [some (.lst (licW lic)), some (.ref c), x2, x3] ∧ S = S0 ++ [.lst (((lic.map fun p => p.1).take i).map W.str)]
theorem checked_ok (d : Nat) (S : Sto) (lic : List (Nm × List Nm)) (ok : LicOk lic) : ∃ x, callD G WF (d + 1) 0 [.lst (licW lic)] S = .ok (.lst (chkW lic)) (S ++ [x]) := by
  have zl : lic.length ≤ SZ := by have := ok.len; unfold SZ; omega
  have I0 : CI S.length S lic 0 [some (.lst (licW lic)), some (.ref S.length), none, none] (S ++ [.lst []]) := ⟨none, none, rfl, rfl⟩
  obtain ⟨env', S', ef, x2, x3, rfl, hS'⟩ := for_inv (g := none) (f := forB G (callD G WF d) WF (.tp [2, 3]) (.cons (.ite (.or (.cmp .isin (.var 2) (.var 1)) (.cmp .lt (.blt .lenSet false (.cons (.var 3) .nil)) (.blt .len false (.cons (.var 3) .nil)))) (.cons (.raise .non) .nil) .nil) (.cons (.expr (.bm .append false (.var 1) (.cons (.var 2) .nil))) .nil))) (CI S.length S lic) (licW lic) 0 _ _ (fun j x env S2 hx hI => by
    have e0 : 0 + j = j := by omega
    rw [e0] at hI ⊢
    obtain ⟨x2, x3, rfl, rfl⟩ := hI
    unfold licW at hx
    rw [List.getElem?_map] at hx
    cases ep : lic[j]? with
    | none => rw [ep] at hx; cases hx
    | some p =>
      obtain ⟨n, qs⟩ := p
      rw [ep] at hx
      cases hx
      have hm : (n, qs) ∈ lic := List.mem_of_getElem? ep
      obtain ⟨q1, q2, q3⟩ := ok.ps _ hm
      have hj : j < lic.length := (List.getElem?_eq_some_iff.mp ep).1
      have hn : (lic.map fun p => p.1)[j]? = some n := by rw [List.getElem?_map, ep]; rfl
      have nin : n ∉ (lic.map fun p => p.1).take j := by
        intro h
        obtain ⟨k, hk, e⟩ := List.mem_iff_getElem.mp h
        rw [List.length_take] at hk
        rw [List.getElem_take] at e
        have h1 := List.pairwise_iff_getElem.mp (List.nodup_iff_pairwise_ne.mp ok.nd) k j (by omega) (by rw [List.length_map]; exact hj) (by omega)
        have h2 := (List.getElem?_eq_some_iff.mp hn).2
        exact h1 (e.trans h2.symm)
      have hat : (S ++ [Ob.lst (((lic.map fun p => p.1).take j).map W.str)])[S.length]? = some (.lst (((lic.map fun p => p.1).take j).map W.str)) := by simp
      have pl : ∀ s ∈ (lic.map fun p => p.1).take j, plainS s = true := fun s hs => by
        obtain ⟨p, hp, rfl⟩ := List.mem_map.mp (List.mem_of_mem_take hs)
        exact ok.pl p hp
      rw [forB_tp _ _ _ _ _ _ _ [some (.lst (licW lic)), some (.ref S.length), some (.str n), some (.lst (qs.map W.str))] _ rfl]
      walk_at "ev"
      rw [s_ite (w := .bl false) (S1 := S ++ [Ob.lst (((lic.map fun p => p.1).take j).map W.str)]) (h := by
        walk_at "ev"
        rw [isin_strs n _ _ _ hat (ok.pl _ hm) pl, decide_eq_false nin]
        walk_at "ev"
        rw [lenSet_nd _ _ _ q1 q3 (by omega)]
        walk_at "ev"
        rw [List.length_map, decide_eq_false (by omega)])]
      walk_at "ev"
      rw [e_bm_app (i := S.length) (l := ((lic.map fun p => p.1).take j).map W.str) (x := .str n) (h := by walk_at "ev") (hl := hat) (hl2 := hat) (hz := by rw [List.length_map, List.length_take]; have := ok.len; unfold SZ; omega) (he := by walk_at "ev")]
      walk_at "ev"
      refine ⟨_, _, rfl, rfl, _, _, rfl, ?_⟩
      rw [List.take_add_one, hn]
      simp) I0
  refine ⟨.lst (((lic.map fun p => p.1).take (0 + (licW lic).length)).map W.str), ?_⟩
  rw [run_def ⟨1, 4, b_checked_licences⟩ rfl rfl]
  unfold b_checked_licences
  walk_at "ev"
  rw [mkL_t _ (by decide)]
  walk_at "ev"
  rw [s_for (l := licW lic) (g := none) (S1 := S ++ [.lst []]) (h := i_val _ (w := .lst (licW lic)) (by walk_at "ev") rfl), ef]
  walk_at "ev"
  rw [e_lc (l := licW lic) (g := none) (S1 := S') (h := i_val _ (w := .lst (licW lic)) (by walk_at "ev") rfl) (hz := by unfold licW; rw [List.length_map]; exact zl)]
  rw [lc_map (fun x => match x with | .tup [.str n, .lst qs] => .tup [.str n, .tup qs] | x => x) S' (licW lic) (fun x hx => by
    obtain ⟨p, hp, rfl⟩ := List.mem_map.mp hx
    have z2 : (p.2.map W.str).length ≤ SZ := by rw [List.length_map]; have := (ok.ps p hp).2.1; unfold SZ; omega
    unfold lcB
    rw [show setT (.tp [2, 3]) (.tup [.str p.1, .lst (p.2.map W.str)]) [some (.lst (licW lic)), some (.ref S.length), x2, x3] = some [some (.lst (licW lic)), some (.ref S.length), some (.str p.1), some (.lst (p.2.map W.str))] from rfl]
    simp only [ts_nil, bind_ok, if_true]
    walk_at "ev"
    rw [show bltin .tuple false [.lst (p.2.map W.str)] S' = .ok (.tup (p.2.map W.str)) S' from mkT_ok' _ z2]
    walk_at "ev"
    rw [mkT_ok' _ (by show 2 ≤ SZ; unfold SZ; omega)]
    rfl)]
  walk_at "ev"
  rw [mkL_f _ (by rw [List.length_map]; unfold licW; rw [List.length_map]; exact zl)]
  walk_at "ev"
  rw [hS']
  have : (licW lic).map (fun x => match x with | .tup [.str n, .lst qs] => W.tup [.str n, .tup qs] | x => x) = chkW lic := by
    unfold licW chkW
    rw [List.map_map]
    rfl
  rw [this]
end KL


set_option linter.all false
set_option autoImplicit false
set_option maxRecDepth 100000
set_option maxHeartbeats 2000000
namespace KL
open KF
local macro_rules | `(tactic| walk_at "ev") => `(tactic| simp -implicitDefEqProofs only [s_nil, s_cons, s_set, s_asub, s_expr, s_ret, e_var, e_int, e_str, e_bl, e_non, e_tup, e_lst, e_bin, e_cmp, e_or, e_and, e_not, e_sub, e_slc, e_call, e_blt, e_frz, es_nil, es_cons, eo_none, eo_some, bind_ok, thenS_ok, nxt_nx, nxt_rt, lk_ok, List.getElem?_cons_zero, List.getElem?_cons_succ, List.set_cons_zero, List.set_cons_succ, o_add, o_sub, o_mod, o_lt, o_le, o_gt, o_ge, b_int, b_len_lst, b_len_tup, ifK_t, ifK_f, tr_bl, tr_lst, fin_ret, orK_t, orK_f, andK_t, andK_f, notK_s, lsR_l, seq_lst, lst_lst, sub_lst, sub_tup, List.map_cons, List.map_nil, List.replicate, List.cons_append, List.nil_append, Nat.reduceSub])
/-- the rows of w of l's things, in order -/
def subsP {α : Type} : Nat → List α → List (List α)
  | 0, _ => [[]]
  | w + 1, l => (List.range l.length).flatMap fun k => (subsP w (l.drop (k + 1))).map ((l[k]?).toList ++ ·)
theorem flat_len {α β : Type} (f : α → List β) (B : Nat) : ∀ l : List α, (∀ x ∈ l, (f x).length ≤ B) → (l.flatMap f).length ≤ l.length * B
  | [], _ => by simp
  | x :: l, h => by
    rw [List.flatMap_cons, List.length_append, List.length_cons, Nat.succ_mul]
    have h1 := h x (List.mem_cons_self ..)
    have h2 := flat_len f B l fun y hy => h y (List.mem_cons_of_mem _ hy)
    omega
theorem subs_len {α : Type} : ∀ (w : Nat) (l : List α), l.length ≤ 5 → (subsP w l).length ≤ 5 ^ w
  | 0, l, _ => by simp [subsP]
  | w + 1, l, h => by
    have q := flat_len (fun k => (subsP w (l.drop (k + 1))).map ((l[k]?).toList ++ ·)) (5 ^ w) (List.range l.length) fun k _ => by
      rw [List.length_map]
      exact subs_len w _ (by rw [List.length_drop]; omega)
    rw [List.length_range] at q
    show (List.flatMap _ _).length ≤ _
    refine Nat.le_trans q ?_
    rw [Nat.pow_succ, Nat.mul_comm]
    exact Nat.mul_le_mul_left _ h
theorem subs_each {α : Type} : ∀ (w : Nat) (l : List α), ∀ x ∈ subsP w l, x.length ≤ w
  | 0, l, x, h => by simp [subsP] at h; subst h; simp
  | w + 1, l, x, h => by
    obtain ⟨k, _, hx⟩ := List.mem_flatMap.mp h
    obtain ⟨y, hy, rfl⟩ := List.mem_map.mp hx
    have := subs_each w _ y hy
    rw [List.length_append]
    cases l[k]? <;> simp <;> omega
def tupW (s : List Nm) : W := .tup (s.map W.str)
def SI (l : List Nm) (w : Nat) (i : Nat) (env : Env) (S0 S : Sto) : Prop := S = S0 ∧ ∃ x3 x4, env = [some (.lst (l.map W.str)), some (.int ((w + 1 : Nat) : Int)), some (.lst (((List.range i).flatMap fun k => (subsP w (l.drop (k + 1))).map ((l[k]?).toList ++ ·)).map tupW)), x3, x4]
theorem subsets_ok : ∀ (w d : Nat) (l : List Nm) (S : Sto), l.length ≤ 5 → w ≤ 6 → callD G WF (d + w + 1) 5 [.lst (l.map W.str), .int (w : Nat)] S = .ok (.lst ((subsP w l).map tupW)) S
  | 0, d, l, S, hl, _ => by
    rw [run_def ⟨2, 5, b_law_subsets⟩ rfl rfl]
    unfold b_law_subsets
    walk_at "ev"
    rw [s_ite (w := .bl true) (S1 := S) (h := by walk_at "ev"; rfl)]
    walk_at "ev"
    rw [mkT_ok' _ (by decide)]
    walk_at "ev"
    rw [mkL_f _ (by decide)]
    walk_at "ev"
    rfl
  | w + 1, d, l, S, hl, hw => by
    have p6 : (5 : Nat) ^ w ≤ 3125 := Nat.le_trans (Nat.pow_le_pow_right (by omega) (show w ≤ 5 by omega)) (by decide)
    have zl : (l.map W.str).length ≤ SZ := by rw [List.length_map]; unfold SZ; omega
    have step : ∀ (j : Nat) (hj : j < l.length) (env : Env) (S2 : Sto), SI l w j env S S2 → ∃ env' S', forB G (callD G WF (d + w + 1)) WF (.nm 3) (.cons (.set 2 (.bin .add false (.var 2) (.lc false (.bin .add false (.tup (.cons (.sub (.var 0) (.var 3)) .nil)) (.var 4)) (.nm 4) (.val (.call 5 (.cons (.slc false (.var 0) (.some (.bin .add false (.var 3) (.int 1))) .none) (.cons (.bin .sub false (.var 1) (.int 1)) .nil)))) .nil))) .nil) (.int (j : Nat)) env S2 = .ok (.nx env') S' ∧ gdOk none S' = true ∧ SI l w (j + 1) env' S S' := by
      intro j hj env S2 hI
      obtain ⟨rfl, x3, x4, rfl⟩ := hI
      have ej : l[j]? = some l[j] := List.getElem?_eq_getElem hj
      have dl : (l.drop (j + 1)).length ≤ 5 := by rw [List.length_drop]; omega
      have ih := subsets_ok w d (l.drop (j + 1)) S2 dl (by omega)
      have hcut : cut l (some ((j : Int) + 1)) none = l.drop (j + 1) := by
        unfold cut cutAt
        simp only
        rw [if_neg (by omega)]
        have : min ((j : Int) + 1).toNat l.length = j + 1 := by omega
        rw [this, List.take_of_length_le (by rw [List.length_drop]; exact Nat.le_refl _)]
      have e1 : (((w + 1 : Nat) : Int) - 1) = (w : Nat) := by omega
      have zs : ((subsP w (l.drop (j + 1))).map tupW).length ≤ SZ := by rw [List.length_map]; have := subs_len w _ dl; unfold SZ; omega
      have acc5 : ((List.range j).flatMap fun k => (subsP w (l.drop (k + 1))).map ((l[k]?).toList ++ ·)).length ≤ 5 * 5 ^ w := by
        have q := flat_len (fun k => (subsP w (l.drop (k + 1))).map ((l[k]?).toList ++ ·)) (5 ^ w) (List.range j) fun k _ => by
          rw [List.length_map]
          exact subs_len w _ (by rw [List.length_drop]; omega)
        rw [List.length_range] at q
        exact Nat.le_trans q (Nat.mul_le_mul_right _ (by omega))
      rw [forB_nm]
      walk_at "ev"
      rw [e_lc (l := (subsP w (l.drop (j + 1))).map tupW) (g := none) (S1 := S2) (h := i_val _ (w := .lst ((subsP w (l.drop (j + 1))).map tupW)) (by
        walk_at "ev"
        rw [sl_lst _ _ _ _ (some ((j : Int) + 1)) none rfl rfl zl, cut_map, hcut, mkL_f _ (by rw [List.length_map]; unfold SZ; omega)]
        walk_at "ev"
        rw [e1]
        exact ih) rfl) (hz := zs)]
      rw [lc_map (fun x => match x with | .tup r => .tup (.str l[j] :: r) | x => x) S2 ((subsP w (l.drop (j + 1))).map tupW) (fun x hx => by
        obtain ⟨r, hr, rfl⟩ := List.mem_map.mp hx
        have rl := subs_each w _ r hr
        rw [lcB_nm]
        simp only [ts_nil, bind_ok, if_true]
        walk_at "ev"
        rw [ixK_at _ _ j (.str l[j]) _ (pyIx_nat (by rw [List.length_map]; exact hj)) (by rw [List.getElem?_map, ej]; rfl)]
        walk_at "ev"
        rw [mkT_ok' _ (by show 1 ≤ SZ; unfold SZ; omega)]
        walk_at "ev"
        unfold tupW
        rw [o_catT, if_pos (by rw [List.length_map]; show 1 + r.length ≤ SZ; unfold SZ; omega)]
        rfl)]
      walk_at "ev"
      rw [mkL_f _ (by rw [List.length_map]; exact zs)]
      walk_at "ev"
      rw [o_catL, mkL_f _ (by rw [List.length_append, List.length_map, List.length_map, List.length_map]; have := subs_len w _ dl; unfold SZ; omega)]
      walk_at "ev"
      refine ⟨_, _, rfl, rfl, rfl, some (.int (j : Nat)), x4, ?_⟩
      rw [List.range_succ, List.flatMap_append, List.map_append]
      have : (((subsP w (l.drop (j + 1))).map tupW).map fun x => match x with | .tup r => W.tup (.str l[j] :: r) | x => x) = ((List.flatMap (fun k => (subsP w (l.drop (k + 1))).map ((l[k]?).toList ++ ·)) [j]).map tupW) := by
        simp [List.flatMap_cons, ej, tupW, Function.comp_def]
      rw [← this]
    have I0 : SI l w 0 [some (.lst (l.map W.str)), some (.int ((w + 1 : Nat) : Int)), some (.lst []), none, none] S S := ⟨rfl, none, none, rfl⟩
    obtain ⟨env', S', ef, rfl, x3, x4, rfl⟩ := for_inv (g := none) (fun i env S2 => SI l w i env S S2) ((List.range l.length).map fun k => W.int (k : Nat)) 0 _ _ (fun j x env S2 hx hI => by
      have hj : j < l.length := by
        have := (List.getElem?_eq_some_iff.mp hx).1
        simpa using this
      have ex : x = .int (j : Nat) := by
        rw [List.getElem?_map, List.getElem?_range hj] at hx
        exact (Option.some.inj hx).symm
      subst ex
      have e0 : 0 + j = j := by omega
      rw [e0] at hI ⊢
      exact step j hj env S2 hI) I0
    rw [show d + (w + 1) + 1 = (d + w + 1) + 1 from rfl, run_def ⟨2, 5, b_law_subsets⟩ rfl rfl]
    unfold b_law_subsets
    walk_at "ev"
    rw [s_ite (w := .bl false) (S1 := S') (h := by walk_at "ev"; rfl)]
    walk_at "ev"
    rw [mkL_f _ (by decide)]
    walk_at "ev"
    rw [s_for (l := (List.range l.length).map fun k => W.int (k : Nat)) (g := none) (S1 := S') (h := by
      rw [i_rng1 _ (n := (l.length : Nat)) (S1 := S') (by walk_at "ev"; rw [List.length_map]) (by unfold SZ; omega) (by unfold SZ; omega)]
      rfl), ef]
    walk_at "ev"
    have e0 : 0 + ((List.range l.length).map fun k => W.int (k : Nat)).length = l.length := by simp
    rw [e0]
    rfl
end KL


set_option linter.all false
set_option autoImplicit false
set_option maxRecDepth 100000
set_option maxHeartbeats 2000000
namespace KL
open KF
local macro_rules | `(tactic| walk_at "ev") => `(tactic| simp -implicitDefEqProofs only [s_nil, s_cons, s_set, s_asub, s_expr, s_ret, e_var, e_int, e_str, e_bl, e_non, e_tup, e_lst, e_bin, e_cmp, e_or, e_and, e_not, e_sub, e_slc, e_call, e_blt, e_frz, es_nil, es_cons, eo_none, eo_some, bind_ok, thenS_ok, nxt_nx, nxt_rt, lk_ok, List.getElem?_cons_zero, List.getElem?_cons_succ, List.set_cons_zero, List.set_cons_succ, o_add, o_sub, o_mod, o_lt, o_le, o_gt, o_ge, b_int, b_len_lst, b_len_tup, ifK_t, ifK_f, tr_bl, tr_lst, fin_ret, orK_t, orK_f, andK_t, andK_f, notK_s, lsR_l, seq_lst, lst_lst, sub_lst, sub_tup, List.map_cons, List.map_nil, List.replicate, List.cons_append, List.nil_append, Nat.reduceSub])
theorem subs_none {α : Type} : ∀ (w : Nat) (l : List α), l.length < w → subsP w l = []
  | 0, l, h => absurd h (by omega)
  | w + 1, l, h => by
    show List.flatMap _ _ = []
    rw [List.flatMap_eq_nil_iff]
    intro k hk
    rw [subs_none w _ (by rw [List.length_drop]; have := List.mem_range.mp hk; omega)]
    rfl
theorem subs_full {α : Type} : ∀ l : List α, subsP l.length l = [l]
  | [] => rfl
  | x :: l => by
    show List.flatMap (fun k => (subsP l.length ((x :: l).drop (k + 1))).map (((x :: l)[k]?).toList ++ ·)) (List.range (l.length + 1)) = _
    rw [List.range_succ_eq_map, List.flatMap_cons]
    have e : List.flatMap (fun k => (subsP l.length ((x :: l).drop (k + 1))).map (((x :: l)[k]?).toList ++ ·)) ((List.range l.length).map Nat.succ) = [] := by
      rw [List.flatMap_eq_nil_iff]
      intro k hk
      obtain ⟨j, hj, rfl⟩ := List.mem_map.mp hk
      have hj := List.mem_range.mp hj
      rw [subs_none _ _ (by rw [List.length_drop, List.length_cons]; omega)]
      rfl
    rw [e, List.append_nil]
    show (subsP l.length l).map ([x] ++ ·) = _
    rw [subs_full l]
    rfl
/-- the rows that are found when the names are taken one by one, of at most s -/
def fdStep {α : Type} (s : Nat) (fd : List (List α)) (x : α) : List (List α) := fd ++ (fd.filter fun c => decide (c.length < s)).map (· ++ [x])
def fdP {α : Type} (s : Nat) (l : List α) : List (List α) := l.foldl (fdStep s) [[]]
theorem fd_snoc {α : Type} (s : Nat) (l : List α) (x : α) : fdP s (l ++ [x]) = fdStep s (fdP s l) x := by
  unfold fdP
  rw [List.foldl_append]
  rfl
theorem fd_gen {α : Type} (s : Nat) : ∀ (l : List α) (fd : List (List α)) (k : Nat), (∀ c ∈ fd, c.length ≤ k) → (l.foldl (fdStep s) fd).length ≤ fd.length * 2 ^ l.length ∧ ∀ c ∈ l.foldl (fdStep s) fd, c.length ≤ k + l.length
  | [], fd, k, h => ⟨by simp, fun c hc => h c hc⟩
  | x :: l, fd, k, h => by
    have h1 : ∀ c ∈ fdStep s fd x, c.length ≤ k + 1 := fun c hc => by
      rcases List.mem_append.mp hc with q | q
      · exact Nat.le_succ_of_le (h c q)
      · obtain ⟨y, hy, rfl⟩ := List.mem_map.mp q
        have := h y (List.mem_filter.mp hy).1
        rw [List.length_append]
        exact Nat.succ_le_succ this
    have h2 : (fdStep s fd x).length ≤ fd.length * 2 := by
      unfold fdStep
      rw [List.length_append, List.length_map]
      have := List.length_filter_le (fun c : List α => decide (c.length < s)) fd
      omega
    obtain ⟨q1, q2⟩ := fd_gen s l (fdStep s fd x) (k + 1) h1
    refine ⟨?_, fun c hc => ?_⟩
    · show (l.foldl (fdStep s) (fdStep s fd x)).length ≤ _
      refine Nat.le_trans q1 ?_
      rw [List.length_cons, Nat.pow_succ, Nat.mul_comm (2 ^ l.length) 2, ← Nat.mul_assoc]
      exact Nat.mul_le_mul_right _ h2
    · have := q2 c hc
      rw [List.length_cons]
      omega
theorem fd_len {α : Type} (s : Nat) (l : List α) : (fdP s l).length ≤ 2 ^ l.length ∧ ∀ c ∈ fdP s l, c.length ≤ l.length := by
  obtain ⟨h1, h2⟩ := fd_gen s l [[]] 0 (fun c hc => by rw [List.mem_singleton.mp hc]; exact Nat.le_refl _)
  exact ⟨by unfold fdP; simpa using h1, fun c hc => by have := h2 c hc; omega⟩
theorem lc_filt {f : W → Sto → Res (Option W)} (p : W → Bool) (h : W → W) (S : Sto) : ∀ l : List W, (∀ x ∈ l, f x S = .ok (if p x then some (h x) else none) S) → lcLoop none f l S = .ok ((l.filter p).map h) S
  | [], _ => rfl
  | x :: r, hf => by
    show (f x S).bind _ = _
    rw [hf x (List.mem_cons_self ..)]
    show (if gdOk none S = true then (lcLoop none f r S).bind _ else .stuck) = _
    rw [if_pos (show gdOk none S = true from rfl), lc_filt p h S r fun y hy => hf y (List.mem_cons_of_mem _ hy)]
    cases hp : p x <;> simp [hp, bind_ok]
/-- one name more -/
def FI (L : W) (s : Nat) (names : List Nm) (S0 : Sto) (i : Nat) (env : Env) (S : Sto) : Prop := S = S0 ∧ ∃ x3 x4 x6 x7 x8 : Option W, env = [some L, some (.int (s : Nat)), some (.lst (names.map W.str)), x3, x4, some (.lst ((fdP s (names.take i)).map tupW)), x6, x7, x8]
theorem found_step (d s : Nat) (L : W) (names : List Nm) (S0 : Sto) (hn : names.length ≤ 5) (j : Nat) (n : Nm) (hj : names[j]? = some n) (env : Env) (S : Sto) (I : FI L s names S0 j env S) :
    ∃ env' S', forB G (callD G WF d) WF (.nm 3) (.cons (.set 5 (.bin .add false (.var 5) (.lc false (.bin .add false (.var 6) (.tup (.cons (.var 3) .nil))) (.nm 6) (.val (.var 5)) (.cons (.cmp .lt (.blt .len false (.cons (.var 6) .nil)) (.var 1)) .nil)))) .nil) (.str n) env S = .ok (.nx env') S' ∧ gdOk none S' = true ∧ FI L s names S0 (j + 1) env' S' := by
  obtain ⟨rfl, x3, x4, x6, x7, x8, rfl⟩ := I
  obtain ⟨f1, f2⟩ := fd_len s (names.take j)
  have tl : (names.take j).length ≤ 5 := Nat.le_trans (by rw [List.length_take]; exact Nat.min_le_right _ _) hn
  have f1' : (fdP s (names.take j)).length ≤ 32 := Nat.le_trans f1 (Nat.le_trans (Nat.pow_le_pow_right (by omega) tl) (by decide))
  have zf : ((fdP s (names.take j)).map tupW).length ≤ SZ := by rw [List.length_map]; unfold SZ; omega
  rw [forB_nm]
  walk_at "ev"
  rw [e_lc (l := (fdP s (names.take j)).map tupW) (g := none) (S1 := S) (h := i_val _ (w := .lst ((fdP s (names.take j)).map tupW)) (by walk_at "ev") rfl) (hz := zf)]
  rw [lc_filt (fun x => match x with | .tup r => decide (r.length < s) | _ => false) (fun x => match x with | .tup r => .tup (r ++ [.str n]) | x => x) S ((fdP s (names.take j)).map tupW) (fun x hx => by
    obtain ⟨r, hr, rfl⟩ := List.mem_map.mp hx
    have rl := f2 r hr
    rw [lcB_nm, ts_one (w := .bl (decide ((r.map W.str).length < s))) (S1 := S) (b := decide ((r.map W.str).length < s)) (h := by
      unfold tupW
      walk_at "ev"
      congr 2
      exact decide_eq_decide.mpr (by omega)) (hb := rfl)]
    walk_at "ev"
    change _ = Res.ok (if decide ((r.map W.str).length < s) = true then some (W.tup ((r.map W.str) ++ [W.str n])) else none) S
    cases decide ((r.map W.str).length < s) with
    | false => rfl
    | true =>
      simp only [if_true]
      rw [mkT_ok' _ (by show 1 ≤ SZ; unfold SZ; omega)]
      walk_at "ev"
      unfold tupW
      rw [o_catT, if_pos (by rw [List.length_map]; show r.length + 1 ≤ SZ; unfold SZ; omega)]
      rfl)]
  walk_at "ev"
  have el : ((((fdP s (names.take j)).map tupW).filter fun x => match x with | .tup r => decide (r.length < s) | _ => false).map fun x => match x with | .tup r => W.tup (r ++ [.str n]) | x => x) = (((fdP s (names.take j)).filter fun c => decide (c.length < s)).map (· ++ [n])).map tupW := by
    rw [List.filter_map, List.map_map, List.map_map]
    have : ((fun x => match x with | W.tup r => decide (r.length < s) | _ => false) ∘ tupW) = fun c : List Nm => decide (c.length < s) := by
      funext c
      simp [tupW]
    rw [this]
    refine List.map_congr_left fun c _ => ?_
    simp [tupW]
  rw [el]
  have z2 : ((((fdP s (names.take j)).filter fun c => decide (c.length < s)).map (· ++ [n])).map tupW).length ≤ 32 := by
    rw [List.length_map, List.length_map]
    exact Nat.le_trans (List.length_filter_le _ _) f1'
  rw [mkL_f _ (by unfold SZ; omega)]
  walk_at "ev"
  rw [o_catL, mkL_f _ (by rw [List.length_append, List.length_map]; unfold SZ; omega)]
  walk_at "ev"
  refine ⟨_, _, rfl, rfl, rfl, some (.str n), x4, x6, x7, x8, ?_⟩
  have e : fdP s (names.take (j + 1)) = fdStep s (fdP s (names.take j)) n := by
    rw [List.take_add_one, hj]
    exact fd_snoc s _ n
  rw [e]
  unfold fdStep
  rw [List.map_append]
end KL


set_option linter.all false
set_option autoImplicit false
set_option maxRecDepth 100000
set_option maxHeartbeats 2000000
namespace KL
open KF
/-! rows of places: naturality, their order, the finite check -/
theorem fd_map {α β : Type} (f : α → β) (s : Nat) : ∀ (l : List α) (fd : List (List α)), (l.map f).foldl (fdStep s) (fd.map (List.map f)) = (l.foldl (fdStep s) fd).map (List.map f)
  | [], _ => rfl
  | x :: l, fd => by
    rw [List.map_cons, List.foldl_cons, List.foldl_cons, ← fd_map f s l]
    congr 1
    unfold fdStep
    rw [List.map_append, List.filter_map, List.map_map, List.map_map]
    have e : ((fun c : List β => decide (c.length < s)) ∘ List.map f) = fun c : List α => decide (c.length < s) := by
      funext c
      simp
    rw [e]
    congr 1
    refine List.map_congr_left fun c _ => ?_
    simp
theorem fdP_map {α β : Type} (f : α → β) (s : Nat) (l : List α) : fdP s (l.map f) = (fdP s l).map (List.map f) := fd_map f s l [[]]
theorem subs_map {α β : Type} (f : α → β) : ∀ (w : Nat) (l : List α), subsP w (l.map f) = (subsP w l).map (List.map f)
  | 0, _ => rfl
  | w + 1, l => by
    show List.flatMap _ _ = (List.flatMap _ _).map _
    rw [List.length_map, List.map_flatMap]
    congr 1
    funext k
    rw [← List.map_drop, subs_map f w, List.map_map, List.map_map]
    refine List.map_congr_left fun c _ => ?_
    simp only [Function.comp_def, List.map_append, List.getElem?_map]
    cases l[k]? <;> rfl
/-- order of rows of places -/
def leN (a b : List Nat) : Bool := !nmLt b a
theorem leN_total (a b : List Nat) : (leN a b || leN b a) = true := by
  unfold leN
  rw [← nmLt_lt, ← nmLt_lt]
  by_cases h : b < a
  · have h2 : ¬ a < b := fun q => List.lt_irrefl _ (List.lt_trans h q)
    simp [h, h2]
  · simp [h]
theorem leN_trans (a b c : List Nat) (h1 : leN a b = true) (h2 : leN b c = true) : leN a c = true := by
  unfold leN at *
  rw [← nmLt_lt] at *
  simp only [Bool.not_eq_true', decide_eq_false_iff_not] at *
  intro h
  exact h2 (by
    rcases List.le_iff_lt_or_eq.mp (List.not_lt.mp h1) with q | q
    · exact List.lt_trans h q
    · rw [← q]; exact h)
def insN (a : List Nat) : List (List Nat) → List (List Nat)
  | [] => [a]
  | b :: r => if leN a b then a :: b :: r else b :: insN a r
def isortN : List (List Nat) → List (List Nat)
  | [] => []
  | a :: r => insN a (isortN r)
theorem ins_app (a : List Nat) : ∀ (l1 l2 : List (List Nat)), (∀ b ∈ l1, leN a b = false) → (∀ b ∈ l2, leN a b = true) → insN a (l1 ++ l2) = l1 ++ a :: l2
  | [], [], _, _ => rfl
  | [], b :: r, _, h => by
    show (if leN a b then _ else _) = _
    rw [if_pos (h b (List.mem_cons_self ..))]
    rfl
  | x :: l1, l2, h1, h2 => by
    show (if leN a x then _ else _) = _
    rw [h1 x (List.mem_cons_self ..)]
    simp only [Bool.false_eq_true, if_false]
    show x :: insN a (l1 ++ l2) = _
    rw [ins_app a l1 l2 (fun b hb => h1 b (List.mem_cons_of_mem _ hb)) h2]
    rfl
theorem merge_ins : ∀ l : List (List Nat), l.mergeSort leN = isortN l
  | [] => by simp [isortN]
  | a :: l => by
    obtain ⟨l1, l2, e1, e2, h⟩ := List.mergeSort_cons (le := leN) leN_trans leN_total a l
    have sd := List.pairwise_mergeSort (le := leN) leN_trans leN_total (a :: l)
    rw [e1] at sd
    have h2 : ∀ b ∈ l2, leN a b = true := fun b hb => (List.pairwise_cons.mp (List.pairwise_append.mp sd).2.1).1 b hb
    rw [e1]
    show _ = insN a (isortN l)
    rw [← merge_ins l, e2]
    exact (ins_app a l1 l2 (fun b hb => by simpa using h b hb) h2).symm
theorem finite_check : ∀ n : Fin 6, ∀ s : Fin 6, s.val < n.val → isortN ((fdP s.val (List.range n.val)).filter fun c => decide (c.length = s.val)) = subsP s.val (List.range n.val) := by decide +kernel
end KL


set_option linter.all false
set_option autoImplicit false
set_option maxRecDepth 100000
set_option maxHeartbeats 2000000
namespace KF
section
variable {G : Prog} {cf : CF} {wf : Nat} {env : Env} {S : Sto}
def dcB (G : Prog) (cf : CF) (k v : E) (tg : Tg) (cs : Es) (env : Env) : W → Sto → Res (Option (W × W)) := fun x S => match setT tg x env with
  | none => .stuck
  | some env' => (evTs G cf cs env' S).bind fun b S => if b then (evE G cf k env' S).bind fun w S => if hkey w then (evE G cf v env' S).bind fun u S => .ok (some (w, u)) S else .stuck else .ok none S
theorem e_dc (m : Bool) (k v : E) (tg : Tg) (it : It) (cs : Es) {l : List W} {g : Gd} {S1 : Sto} (h : evI G cf it env S = .ok (l, g) S1) (hz : l.length ≤ SZ) : evE G cf (.dc m k v tg it cs) env S = (dcLoop g (dcB G cf k v tg cs env) l [] S1).bind (mkD m) := by
  simp only [evE, h, bind_ok]
  rw [if_pos hz]
  rfl
theorem i_enum (e : E) {w : W} {l : List W} {S1 : Sto} (h : evE G cf e env S = .ok w S1) (h1 : lstOf S1 w = some l) : evI G cf (.enum e) env S = .ok (l.zipIdx.map fun p => .tup [.int p.2, p.1], gdOf S1 w) S1 := by
  simp only [evI, h, bind_ok, h1]
theorem e_sortk (m : Bool) (a : E) (id : Nat) (js : List Nat) (ns : Nat) (key : E) {l ks : List W} {S1 S2 : Sto} (h : evE G cf a env S = .ok (.lst l) S1) (hz : l.length ≤ SZ)
    (hk : keyLoop (fun w S => evE G cf key (some w :: (js.map (fun j => (env[j]?).join) ++ List.replicate ns none)) S) l S1 = .ok ks S2) (hs : sortable ks = true) : evE G cf (.sortk m a id js ns key) env S = mkL m (sortW ks l) S2 := by
  simp only [evE, h, bind_ok, lst_lst]
  rw [if_pos hz, hk, bind_ok, if_pos hs]
theorem key_map {f : W → Sto → Res W} (h : W → W) (S : Sto) : ∀ l : List W, (∀ x ∈ l, f x S = .ok (h x) S) → keyLoop f l S = .ok (l.map h) S
  | [], _ => rfl
  | x :: r, hf => by
    show (f x S).bind _ = _
    rw [hf x (List.mem_cons_self ..), bind_ok, key_map h S r fun y hy => hf y (List.mem_cons_of_mem _ hy)]
    rfl
theorem dput_new (k v : W) (l : List (W × W)) (h : ∀ p ∈ l, p.1 ≠ k) : dput k v l = l ++ [(k, v)] := by
  unfold dput
  rw [if_neg]
  intro q
  obtain ⟨p, hp, e⟩ := List.any_eq_true.mp q
  exact h p hp (of_decide_eq_true e)
theorem sub_dic (l : List (W × W)) (n : Nm) (w : W) (h : dget (.str n) l = some w) : subs (.dic l) (.str n) S = .ok w S := by
  unfold subs
  show (if hkey (.str n) then orStuck (dget (.str n) l) S else .stuck) = _
  rw [if_pos (show hkey (.str n) = true from rfl), h]
  rfl
theorem mkD_f (l : List (W × W)) (h : l.length ≤ SZ) : mkD false l S = .ok (.dic l) S := by
  unfold mkD
  rw [if_pos h]
  rfl
theorem sortW_map (IX : List (List Nat)) (K V : List Nat → W) : sortW (IX.map K) (IX.map V) = (IX.mergeSort fun a b => !wLt (K b) (K a)).map V := by
  unfold sortW
  rw [List.zip_map', ← List.map_mergeSort (r := fun a b => !wLt (K b) (K a)) (fun a _ b _ => rfl), List.map_map]
  rfl
end
end KF
namespace KL
open KF
/-- the dict of places -/
def plD (ns : List Nm) (k : Nat) : List (W × W) := (ns.zipIdx k).map fun p => (.str p.1, .int (p.2 : Nat))
theorem dc_names {f : W → Sto → Res (Option (W × W))} (S : Sto) (hf : ∀ (n : Nm) (i : Nat), f (.tup [.int (i : Nat), .str n]) S = .ok (some (.str n, .int (i : Nat))) S) : ∀ (ns : List Nm) (k : Nat) (dd : List (W × W)), (∀ n ∈ ns, ∀ p ∈ dd, p.1 ≠ .str n) → ns.Nodup →
    dcLoop none f (((ns.map W.str).zipIdx k).map fun p => .tup [.int (p.2 : Nat), p.1]) dd S = .ok (dd ++ plD ns k) S
  | [], k, dd, _, _ => by simp [plD, dcLoop]
  | n :: ns, k, dd, h, nd => by
    rw [List.map_cons, List.zipIdx_cons, List.map_cons]
    show (f (.tup [.int (k : Nat), .str n]) S).bind _ = _
    rw [hf n k, bind_ok]
    show (if gdOk none S = true then dcLoop none f _ (dput (.str n) (.int (k : Nat)) dd) S else .stuck) = _
    rw [if_pos (show gdOk none S = true from rfl), dput_new _ _ _ (fun p hp => h n (List.mem_cons_self ..) p hp)]
    have nd' := List.nodup_cons.mp nd
    rw [dc_names S hf ns (k + 1) (dd ++ [(W.str n, W.int (k : Nat))]) (fun m hm p hp => by
      rcases List.mem_append.mp hp with q | q
      · exact h m (List.mem_cons_of_mem _ hm) p q
      · rw [List.mem_singleton.mp q]
        intro e
        cases e
        exact nd'.1 hm) nd'.2]
    unfold plD
    rw [List.zipIdx_cons, List.map_cons, List.append_assoc]
    rfl
theorem dget_pl : ∀ (ns : List Nm) (k i : Nat) (n : Nm), ns.Nodup → ns[i]? = some n → dget (.str n) (plD ns k) = some (.int ((k + i : Nat) : Int))
  | [], _, _, _, _, h => by simp at h
  | m :: ns, k, i, n, nd, h => by
    have nd' := List.nodup_cons.mp nd
    unfold plD
    rw [List.zipIdx_cons, List.map_cons]
    show (if W.str m = W.str n then some (W.int (k : Nat)) else dget (.str n) (plD ns (k + 1))) = _
    cases i with
    | zero =>
      simp at h
      subst h
      rw [if_pos rfl]
      rfl
    | succ i =>
      have h : ns[i]? = some n := by simpa using h
      rw [if_neg (fun e => by cases e; exact nd'.1 (List.mem_of_getElem? h)), dget_pl ns (k + 1) i n nd'.2 h]
      have e : k + 1 + i = k + (i + 1) := by omega
      rw [e]
/-- a row of places as a key -/
def kW (ix : List Nat) : W := .lst (ix.map fun i => .int (i : Nat))
theorem wLt_kW : ∀ a b : List Nat, wLtL (a.map fun i => W.int (i : Nat)) (b.map fun i => W.int (i : Nat)) = nmLt a b
  | [], [] => rfl
  | [], _ :: _ => rfl
  | _ :: _, [] => rfl
  | x :: a, y :: b => by
    show (if eqv (.int (x : Nat)) (.int (y : Nat)) = true then wLtL (a.map _) (b.map _) else wLt (.int (x : Nat)) (.int (y : Nat))) = _
    rw [wLt_kW a b, nmLt]
    by_cases h : x = y
    · subst h
      have e : eqv (.int (x : Nat)) (.int (x : Nat)) = true := by simp [eqv]
      rw [if_pos e, if_pos rfl]
    · have e : ¬ eqv (.int (x : Nat)) (.int (y : Nat)) = true := by
        simp only [eqv, beq_iff_eq]
        omega
      rw [if_neg e, if_neg h]
      show decide ((x : Int) < (y : Int)) = Nat.blt x y
      by_cases q : x < y
      · rw [decide_eq_true (by omega)]
        exact (Nat.blt_eq.mpr q).symm
      · rw [decide_eq_false (by omega)]
        cases z : Nat.blt x y with
        | false => rfl
        | true => exact absurd (Nat.blt_eq.mp z) q
theorem alike_ints : ∀ a b : List Nat, alikeWL (a.map fun i => W.int (i : Nat)) (b.map fun i => W.int (i : Nat)) = true
  | [], [] => rfl
  | [], _ :: _ => rfl
  | _ :: _, [] => rfl
  | x :: a, y :: b => by
    show (true && alikeWL (a.map _) (b.map _)) = true
    rw [alike_ints a b]
    rfl
theorem datL_ints (n : Nat) : ∀ a : List Nat, datL n (a.map fun i => W.int (i : Nat)) = true
  | [] => by simp [datL]
  | x :: a => by
    rw [List.map_cons]
    simp only [datL]
    rw [datL_ints n a]
    cases n <;> rfl
theorem sortable_kW (IX : List (List Nat)) : sortable (IX.map kW) = true := by
  unfold sortable
  simp only [Bool.and_eq_true, Bool.or_eq_true, List.all_eq_true]
  refine ⟨⟨?_, fun x hx y hy => ?_⟩, .inr fun x hx => ?_⟩
  · induction IX with
    | nil => rfl
    | cons a r ih =>
      rw [List.map_cons]
      show (dat 60 (kW a) && datL 60 (r.map kW)) = true
      rw [ih]
      show (datL 59 (a.map _) && true) = true
      rw [datL_ints 59 a]
      rfl
  · obtain ⟨a, _, rfl⟩ := List.mem_map.mp hx
    obtain ⟨b, _, rfl⟩ := List.mem_map.mp hy
    exact alike_ints a b
  · obtain ⟨a, _, rfl⟩ := List.mem_map.mp hx
    rfl
end KL


set_option linter.all false
set_option autoImplicit false
set_option maxRecDepth 100000
set_option maxHeartbeats 2000000
namespace KL
open KF
local macro_rules | `(tactic| walk_at "ev") => `(tactic| simp -implicitDefEqProofs only [s_nil, s_cons, s_set, s_asub, s_expr, s_ret, e_var, e_int, e_str, e_bl, e_non, e_tup, e_lst, e_bin, e_cmp, e_or, e_and, e_not, e_sub, e_slc, e_call, e_blt, e_frz, es_nil, es_cons, eo_none, eo_some, bind_ok, thenS_ok, nxt_nx, nxt_rt, lk_ok, List.getElem?_cons_zero, List.getElem?_cons_succ, List.set_cons_zero, List.set_cons_succ, o_add, o_sub, o_mod, o_lt, o_le, o_gt, o_ge, b_int, b_len_lst, b_len_tup, ifK_t, ifK_f, tr_bl, tr_lst, fin_ret, orK_t, orK_f, andK_t, andK_f, notK_s, lsR_l, seq_lst, lst_lst, sub_lst, sub_tup, List.map_cons, List.map_nil, List.replicate, List.cons_append, List.nil_append, Nat.reduceSub])
theorem names_lc (cf : CF) (d : Nat) (lic : List (Nm × List Nm)) (ok : LicOk lic) (env : Env) (S S1 : Sto) (it : It) (hi : evI G cf it env S = .ok (chkW lic, none) S1) (h : env.length = 9) :
    evE G cf (.lc false (.var 3) (.tp [3, 4]) it .nil) env S = .ok (.lst ((lic.map fun p => p.1).map W.str)) S1 := by
  have zl : (chkW lic).length ≤ SZ := by unfold chkW; rw [List.length_map]; have := ok.len; unfold SZ; omega
  rw [e_lc (l := chkW lic) (g := none) (S1 := S1) (h := hi) (hz := zl)]
  rw [lc_map (fun x => match x with | .tup [n, _] => n | x => x) S1 (chkW lic) (fun x hx => by
    obtain ⟨p, hp, rfl⟩ := List.mem_map.mp hx
    unfold lcB
    rw [show setT (.tp [3, 4]) (.tup [.str p.1, .tup (p.2.map W.str)]) env = some ((env.set 3 (some (.str p.1))).set 4 (some (.tup (p.2.map W.str)))) from rfl]
    simp only [ts_nil, bind_ok, if_true]
    have e3 : ((env.set 3 (some (W.str p.1))).set 4 (some (.tup (p.2.map W.str))))[3]? = some (some (.str p.1)) := by
      rw [List.getElem?_set_ne (by omega), List.getElem?_set_self (by omega)]
    rw [e_var, e3]
    rfl)]
  rw [bind_ok, mkL_f _ (by rw [List.length_map]; exact zl)]
  congr 2
  unfold chkW
  rw [List.map_map, List.map_map]
  rfl
theorem crowds_full (d s : Nat) (lic : List (Nm × List Nm)) (ok : LicOk lic) (S : Sto) (hs : lic.length ≤ s) : ∃ x, callD G WF (d + 2) 1 [.lst (licW lic), .int (s : Nat)] S = .ok (.ref (S.length + 1)) (S ++ [x] ++ [.lst [tupW (lic.map fun p => p.1)]]) := by
  obtain ⟨x, e0⟩ := checked_ok d S lic ok
  refine ⟨x, ?_⟩
  have zn : ((lic.map fun p => p.1).map W.str).length ≤ SZ := by rw [List.length_map, List.length_map]; have := ok.len; unfold SZ; omega
  rw [run_def ⟨2, 9, b_crowds_of⟩ rfl rfl]
  unfold b_crowds_of
  walk_at "ev"
  rw [names_lc (callD G WF (d + 1)) d lic ok _ _ (S ++ [x]) _ (i_val _ (w := .lst (chkW lic)) (by walk_at "ev"; exact e0) rfl) rfl]
  walk_at "ev"
  rw [s_ite (w := .bl true) (S1 := S ++ [x]) (h := by
    walk_at "ev"
    rw [List.length_map, List.length_map, decide_eq_true (by omega)])]
  walk_at "ev"
  rw [show bltin .tuple true [.lst ((lic.map fun p => p.1).map W.str)] (S ++ [x]) = .ok (tupW (lic.map fun p => p.1)) (S ++ [x]) from mkT_ok' _ zn]
  walk_at "ev"
  rw [mkL_t _ (by show 1 ≤ SZ; unfold SZ; omega)]
  walk_at "ev"
  rw [List.length_append]
  rfl
theorem key_map2 {f : W → Sto → Res W} (P Q : List Nat → W) (S : Sto) : ∀ l : List (List Nat), (∀ c ∈ l, f (P c) S = .ok (Q c) S) → keyLoop f (l.map P) S = .ok (l.map Q) S
  | [], _ => rfl
  | x :: r, hf => by
    show (f (P x) S).bind _ = _
    rw [hf x (List.mem_cons_self ..), bind_ok, key_map2 P Q S r fun y hy => hf y (List.mem_cons_of_mem _ hy)]
    rfl
theorem lc_map2 {f : W → Sto → Res (Option W)} (P Q : Nat → W) (S : Sto) : ∀ l : List Nat, (∀ i ∈ l, f (P i) S = .ok (some (Q i)) S) → lcLoop none f (l.map P) S = .ok (l.map Q) S
  | [], _ => rfl
  | x :: r, hf => by
    show (f (P x) S).bind _ = _
    rw [hf x (List.mem_cons_self ..)]
    show (if gdOk none S = true then (lcLoop none f (r.map P) S).bind _ else .stuck) = _
    rw [if_pos (show gdOk none S = true from rfl), lc_map2 P Q S r fun y hy => hf y (List.mem_cons_of_mem _ hy)]
    rfl
theorem eq_ints (i j : Nat) (S : Sto) : cmpop .eq (.int (i : Nat)) (.int (j : Nat)) S = .ok (decide (i = j)) S := by
  show Res.ok ((i : Int) == (j : Int)) S = _
  congr 1
  by_cases h : i = j
  · subst h; simp
  · rw [decide_eq_false h]
    simp
    omega
theorem range_map (l : List Nm) : l = (List.range l.length).map fun i => l.getD i [] := by
  apply List.ext_getElem?
  intro i
  rw [List.getElem?_map]
  by_cases h : i < l.length
  · rw [List.getElem?_range h]
    show _ = some (l.getD i [])
    rw [List.getD_eq_getElem?_getD, List.getElem?_eq_getElem h]
    rfl
  · rw [List.getElem?_eq_none (by omega), List.getElem?_eq_none (by rw [List.length_range]; omega)]
    rfl
theorem crowds_part (d s : Nat) (lic : List (Nm × List Nm)) (ok : LicOk lic) (S : Sto) (hs : s < lic.length) : ∃ x, callD G WF (d + 2) 1 [.lst (licW lic), .int (s : Nat)] S = .ok (.ref (S.length + 1)) (S ++ [x] ++ [.lst ((subsP s (lic.map fun p => p.1)).map tupW)]) := by
  obtain ⟨x, e0⟩ := checked_ok d S lic ok
  refine ⟨x, ?_⟩
  obtain ⟨names, hN⟩ : ∃ l : List Nm, l = lic.map fun p => p.1 := ⟨_, rfl⟩
  rw [← hN]
  have nlen : names.length = lic.length := by rw [hN, List.length_map]
  have n5 : names.length ≤ 5 := by rw [nlen]; exact ok.len
  have nd : names.Nodup := by rw [hN]; exact ok.nd
  let f : Nat → Nm := fun i => names.getD i []
  have ef : names = (List.range names.length).map f := range_map names
  let IX : List (List Nat) := (fdP s (List.range names.length)).filter fun c => decide (c.length = s)
  have hfd : fdP s names = (fdP s (List.range names.length)).map (List.map f) := by
    conv => lhs; rw [ef]
    exact fdP_map f s _
  have ixlt : ∀ c ∈ fdP s (List.range names.length), ∀ i ∈ c, i < names.length := by
    have gen : ∀ (l : List Nat) (fd : List (List Nat)), (∀ c ∈ fd, ∀ i ∈ c, i < names.length) → (∀ i ∈ l, i < names.length) → ∀ c ∈ l.foldl (fdStep s) fd, ∀ i ∈ c, i < names.length := by
      intro l
      induction l with
      | nil => intro fd h _; exact h
      | cons a l ih =>
        intro fd h hl
        refine ih _ (fun c hc i hi => ?_) fun i hi => hl i (List.mem_cons_of_mem _ hi)
        rcases List.mem_append.mp hc with q | q
        · exact h c q i hi
        · obtain ⟨y, hy, rfl⟩ := List.mem_map.mp q
          rcases List.mem_append.mp hi with z | z
          · exact h y (List.mem_filter.mp hy).1 i z
          · rw [List.mem_singleton.mp z]
            exact hl a (List.mem_cons_self ..)
    exact gen _ _ (fun c hc i hi => by rw [List.mem_singleton.mp hc] at hi; exact absurd hi (by simp)) fun i hi => List.mem_range.mp hi
  obtain ⟨env', S', eF, rfl, x3, x4, x6, x7, x8, rfl⟩ := for_inv (g := none) (fun i env S2 => FI (.lst (licW lic)) s names (S ++ [x]) i env S2) (names.map W.str) 0 [some (.lst (licW lic)), some (.int (s : Nat)), some (.lst (names.map W.str)), none, none, some (.lst [.tup []]), none, none, none] (S ++ [x]) (fun j y env S2 hx hI => by
    rw [List.getElem?_map] at hx
    cases en : names[j]? with
    | none => rw [en] at hx; cases hx
    | some n =>
      rw [en] at hx
      cases hx
      have e0 : 0 + j = j := by omega
      rw [e0] at hI ⊢
      exact found_step (d + 1) s _ names _ n5 j n en env S2 hI) ⟨rfl, none, none, none, none, none, rfl⟩
  have etake : names.take (0 + (names.map W.str).length) = names := List.take_of_length_le (by have q : (names.map W.str).length = names.length := List.length_map ..; omega)
  rw [etake] at eF
  have zn : (names.map W.str).length ≤ SZ := by rw [List.length_map]; unfold SZ; omega
  obtain ⟨fl1, fl2⟩ := fd_len s names
  have f32 : (fdP s names).length ≤ 32 := Nat.le_trans fl1 (Nat.le_trans (Nat.pow_le_pow_right (by omega) n5) (by decide))
  have zf : ((fdP s names).map tupW).length ≤ SZ := by rw [List.length_map]; unfold SZ; omega
  have hsel : ((fdP s names).filter fun c => decide (c.length = s)) = IX.map (List.map f) := by
    rw [hfd, List.filter_map]
    have : ((fun c : List Nm => decide (c.length = s)) ∘ List.map f) = fun c : List Nat => decide (c.length = s) := by
      funext c
      simp
    rw [this]
  have hix : ∀ c ∈ IX, ∀ i ∈ c, i < names.length := fun c hc => ixlt c (List.mem_filter.mp hc).1
  have ixlen : IX.length ≤ 32 := by
    have := congrArg List.length hsel
    rw [List.length_map] at this
    rw [← this]
    exact Nat.le_trans (List.length_filter_le _ _) f32
  let V : List Nat → W := fun c => tupW (c.map f)
  rw [run_def ⟨2, 9, b_crowds_of⟩ rfl rfl]
  unfold b_crowds_of
  walk_at "ev"
  rw [names_lc (callD G WF (d + 1)) d lic ok _ _ (S ++ [x]) _ (i_val _ (w := .lst (chkW lic)) (by walk_at "ev"; exact e0) rfl) rfl, ← hN]
  walk_at "ev"
  rw [s_ite (w := .bl false) (S1 := S ++ [x]) (h := by
    walk_at "ev"
    rw [List.length_map, decide_eq_false (by omega)])]
  walk_at "ev"
  rw [mkT_ok' _ (by decide)]
  walk_at "ev"
  rw [mkL_f _ (by decide)]
  walk_at "ev"
  rw [s_for (l := names.map W.str) (g := none) (S1 := S ++ [x]) (h := i_val _ (w := .lst (names.map W.str)) (by walk_at "ev") rfl), eF]
  walk_at "ev"
  rw [e_dc (l := (names.map W.str).zipIdx.map fun p => .tup [.int (p.2 : Nat), p.1]) (g := none) (S1 := S ++ [x]) (h := i_enum _ (w := .lst (names.map W.str)) (by walk_at "ev") rfl) (hz := by rw [List.length_map, List.length_zipIdx]; exact zn)]
  rw [dc_names (S ++ [x]) (fun n i => by
    unfold dcB
    rw [show setT (.tp [8, 3]) (.tup [.int (i : Nat), .str n]) [some (.lst (licW lic)), some (.int (s : Nat)), some (.lst (names.map W.str)), x3, x4, some (.lst ((fdP s names).map tupW)), x6, x7, x8] = some [some (.lst (licW lic)), some (.int (s : Nat)), some (.lst (names.map W.str)), some (.str n), x4, some (.lst ((fdP s names).map tupW)), x6, x7, some (.int (i : Nat))] from rfl]
    simp only [ts_nil, bind_ok, if_true, e_var, List.getElem?_cons_zero, List.getElem?_cons_succ, lk_ok, hkey]) names 0 [] (fun n _ p hp => absurd hp (by simp)) nd]
  walk_at "ev"
  rw [mkD_f _ (by unfold plD; rw [List.length_map, List.length_zipIdx]; unfold SZ; omega)]
  walk_at "ev"
  have fat : ∀ i, i < names.length → names[i]? = some (f i) := fun i hi => by
    show _ = some (names.getD i [])
    rw [List.getD_eq_getElem?_getD, List.getElem?_eq_getElem hi]
    rfl
  have clen : ∀ c ∈ IX, c.length ≤ 5 := fun c hc => by
    have q := (List.mem_filter.mp hc).2
    have := of_decide_eq_true q
    omega
  rw [e_sortk (l := IX.map V) (ks := IX.map kW) (S1 := S ++ [x]) (S2 := S ++ [x]) (h := by
    rw [e_lc (l := (fdP s names).map tupW) (g := none) (S1 := S ++ [x]) (h := i_val _ (w := .lst ((fdP s names).map tupW)) (by walk_at "ev") rfl) (hz := zf)]
    rw [lc_filt (fun x => match x with | .tup r => decide (r.length = s) | _ => false) (fun x => x) (S ++ [x]) ((fdP s names).map tupW) (fun y hy => by
      obtain ⟨r, hr, rfl⟩ := List.mem_map.mp hy
      rw [lcB_nm, ts_one (w := .bl (decide ((r.map W.str).length = s))) (S1 := S ++ [x]) (b := decide ((r.map W.str).length = s)) (h := by
        unfold tupW
        walk_at "ev"
        rw [eq_ints]
        rfl) (hb := rfl)]
      walk_at "ev"
      change _ = Res.ok (if decide ((r.map W.str).length = s) = true then some (tupW r) else none) (S ++ [x])
      cases decide ((r.map W.str).length = s) <;> rfl)]
    rw [bind_ok, List.map_id']
    have e1 : (((fdP s names).map tupW).filter fun x => match x with | .tup r => decide (r.length = s) | _ => false) = IX.map V := by
      rw [List.filter_map]
      have : ((fun x => match x with | W.tup r => decide (r.length = s) | _ => false) ∘ tupW) = fun c : List Nm => decide (c.length = s) := by
        funext c
        simp [tupW]
      rw [this, hsel, List.map_map]
      rfl
    rw [e1]
    exact mkL_f _ (by rw [List.length_map]; unfold SZ; omega)) (hz := by rw [List.length_map]; unfold SZ; omega) (hs := sortable_kW IX) (hk := by
    refine key_map2 V kW (S ++ [x]) IX fun c hc => ?_
    have cl := clen c hc
    have zc : ((c.map f).map W.str).length ≤ SZ := by rw [List.length_map, List.length_map]; unfold SZ; omega
    simp only [List.map_cons, List.map_nil, List.getElem?_cons_zero, List.getElem?_cons_succ, Option.join, List.replicate, List.cons_append, List.nil_append]
    rw [e_lc (l := (c.map f).map W.str) (g := none) (S1 := S ++ [x]) (h := i_val _ (w := tupW (c.map f)) (by rw [e_var]; rfl) rfl) (hz := zc)]
    rw [List.map_map, lc_map2 (W.str ∘ f) (fun i => .int (i : Nat)) (S ++ [x]) c (fun i hi => by
      rw [lcB_nm]
      simp only [ts_nil, bind_ok, if_true, e_sub, e_var, List.set_cons_zero, List.set_cons_succ, List.getElem?_cons_zero, List.getElem?_cons_succ]
      have q := dget_pl names 0 i (f i) nd (fat i (hix c hc i hi))
      have e0 : 0 + i = i := by omega
      rw [e0] at q
      show (subs (.dic (plD names 0)) (.str (f i)) (S ++ [x])).bind _ = _
      rw [sub_dic _ _ _ q]
      rfl)]
    rw [bind_ok]
    exact mkL_f _ (by rw [List.length_map]; unfold SZ; omega)), sortW_map]
  have e2 : (IX.mergeSort fun a b => !wLt (kW b) (kW a)) = subsP s (List.range names.length) := by
    have : (fun a b => !wLt (kW b) (kW a)) = leN := by
      funext a b
      show (!wLtL _ _) = _
      rw [wLt_kW]
      rfl
    rw [this, merge_ins]
    exact finite_check ⟨names.length, by omega⟩ ⟨s, by omega⟩ (by show s < names.length; omega)
  rw [e2]
  have e3 : (subsP s (List.range names.length)).map V = (subsP s names).map tupW := by
    conv => rhs; rw [ef]
    rw [subs_map, List.map_map]
    rfl
  rw [e3, mkL_t _ (by rw [List.length_map]; have := subs_len s names n5; have : (5 : Nat) ^ s ≤ 5 ^ 5 := Nat.pow_le_pow_right (by omega) (by omega); unfold SZ; omega)]
  walk_at "ev"
  rw [List.length_append]
  rfl
end KL


set_option linter.all false
set_option autoImplicit false
set_option maxRecDepth 100000
set_option maxHeartbeats 2000000
namespace KL
open KF
local macro_rules | `(tactic| walk_at "ev") => `(tactic| simp -implicitDefEqProofs only [s_nil, s_cons, s_set, s_asub, s_expr, s_ret, e_var, e_int, e_str, e_bl, e_non, e_tup, e_lst, e_bin, e_cmp, e_or, e_and, e_not, e_sub, e_slc, e_call, e_blt, e_frz, es_nil, es_cons, eo_none, eo_some, bind_ok, thenS_ok, nxt_nx, nxt_rt, lk_ok, List.getElem?_cons_zero, List.getElem?_cons_succ, List.set_cons_zero, List.set_cons_succ, o_add, o_sub, o_mod, o_lt, o_le, o_gt, o_ge, b_int, b_len_lst, b_len_tup, ifK_t, ifK_f, tr_bl, tr_lst, fin_ret, orK_t, orK_f, andK_t, andK_f, notK_s, lsR_l, seq_lst, lst_lst, sub_lst, sub_tup, List.map_cons, List.map_nil, List.replicate, List.cons_append, List.nil_append, Nat.reduceSub])
theorem crowds_ok (d s : Nat) (lic : List (Nm × List Nm)) (ok : LicOk lic) (S : Sto) : ∃ x, callD G WF (d + 2) 1 [.lst (licW lic), .int (s : Nat)] S = .ok (.ref (S.length + 1)) (S ++ [x] ++ [.lst ((subsP (min s lic.length) (lic.map fun p => p.1)).map tupW)]) := by
  by_cases h : s < lic.length
  · rw [Nat.min_eq_left (by omega)]
    exact crowds_part d s lic ok S h
  · rw [Nat.min_eq_right (by omega)]
    have e : subsP lic.length (lic.map fun p => p.1) = [lic.map fun p => p.1] := by
      have := subs_full (lic.map fun p => p.1)
      rw [List.length_map] at this
      exact this
    rw [e]
    exact crowds_full d s lic ok S (by omega)
theorem law_names (cf : CF) (lic : List (Nm × List Nm)) (ok : LicOk lic) (env : Env) (S S1 : Sto) (it : It) (hi : evI G cf it env S = .ok (licW lic, none) S1) (h : env.length = 9) :
    evE G cf (.lc false (.var 4) (.tp [4, 5]) it .nil) env S = .ok (.lst ((lic.map fun p => p.1).map W.str)) S1 := by
  have zl : (licW lic).length ≤ SZ := by unfold licW; rw [List.length_map]; have := ok.len; unfold SZ; omega
  rw [e_lc (l := licW lic) (g := none) (S1 := S1) (h := hi) (hz := zl)]
  rw [lc_map (fun x => match x with | .tup [n, _] => n | x => x) S1 (licW lic) (fun x hx => by
    obtain ⟨p, hp, rfl⟩ := List.mem_map.mp hx
    unfold lcB
    rw [show setT (.tp [4, 5]) (.tup [.str p.1, .lst (p.2.map W.str)]) env = some ((env.set 4 (some (.str p.1))).set 5 (some (.lst (p.2.map W.str)))) from rfl]
    simp only [ts_nil, bind_ok, if_true]
    have e3 : ((env.set 4 (some (W.str p.1))).set 5 (some (.lst (p.2.map W.str))))[4]? = some (some (.str p.1)) := by
      rw [List.getElem?_set_ne (by omega), List.getElem?_set_self (by omega)]
    rw [e_var, e3]
    rfl)]
  rw [bind_ok, mkL_f _ (by rw [List.length_map]; exact zl)]
  congr 2
  unfold licW
  rw [List.map_map, List.map_map]
  rfl
theorem subs_mem {α : Type} : ∀ (w : Nat) (l : List α), ∀ x ∈ subsP w l, ∀ y ∈ x, y ∈ l
  | 0, l, x, h, y, hy => by simp [subsP] at h; subst h; simp at hy
  | w + 1, l, x, h, y, hy => by
    obtain ⟨k, hk, hx⟩ := List.mem_flatMap.mp h
    obtain ⟨z, hz, rfl⟩ := List.mem_map.mp hx
    rcases List.mem_append.mp hy with q | q
    · cases e : l[k]? with
      | none => rw [e] at q; simp at q
      | some v =>
        rw [e] at q
        have : y = v := by simpa using q
        rw [this]
        exact List.mem_of_getElem? e
    · exact List.mem_of_mem_drop (subs_mem w _ z hz y q)
theorem datL_tups (n : Nat) : ∀ l : List (List Nm), (∀ x ∈ l, ∀ s ∈ x, plainS s = true) → datL (n + 1) (l.map tupW) = true
  | [], _ => by simp [datL]
  | x :: l, h => by
    rw [List.map_cons]
    simp only [datL]
    rw [datL_tups n l fun y hy => h y (List.mem_cons_of_mem _ hy)]
    have : dat (n + 1) (tupW x) = true := by
      show datL n (x.map W.str) = true
      have q : ∀ (r : List Nm), (∀ s ∈ r, plainS s = true) → datL n (r.map W.str) = true := by
        intro r
        induction r with
        | nil => intro _; simp [datL]
        | cons a r ih =>
          intro hr
          rw [List.map_cons]
          simp only [datL]
          rw [ih fun s hs => hr s (List.mem_cons_of_mem _ hs)]
          have : dat n (.str a) = true := by
            cases n <;> exact hr a (List.mem_cons_self ..)
          rw [this]
          rfl
      exact q x (h x (List.mem_cons_self ..))
    rw [this]
    rfl
theorem eqvL_strs : ∀ l : List Nm, eqvL (l.map W.str) (l.map W.str) = true
  | [] => by simp [eqvL]
  | x :: l => by
    rw [List.map_cons]
    simp only [eqvL]
    rw [eqvL_strs l]
    simp [eqv]
theorem eqvL_tups : ∀ l : List (List Nm), eqvL (l.map tupW) (l.map tupW) = true
  | [] => by simp [eqvL]
  | x :: l => by
    rw [List.map_cons]
    simp only [eqvL]
    rw [eqvL_tups l]
    have : eqv (tupW x) (tupW x) = true := by
      show eqvL _ _ = true
      exact eqvL_strs x
    rw [this]
    rfl
theorem eq_told (l : List (List Nm)) (hl : ∀ x ∈ l, ∀ s ∈ x, plainS s = true) (c : Nat) (S : Sto) (h : S[c]? = some (.lst (l.map tupW))) : cmpop .eq (.ref c) (.lst (l.map tupW)) S = .ok true S ∧ cmpop .ne (.ref c) (.lst (l.map tupW)) S = .ok false S := by
  have e1 : deref S (.ref c) = .lst (l.map tupW) := by unfold deref; simp only [h]
  have e2 : deref S (.lst (l.map tupW)) = .lst (l.map tupW) := rfl
  have e3 : dat 60 (.lst (l.map tupW)) = true := datL_tups 58 l hl
  have e4 : eqv (.lst (l.map tupW)) (.lst (l.map tupW)) = true := eqvL_tups l
  constructor
  · show (if dat 60 (deref S (.ref c)) && dat 60 (deref S (.lst (l.map tupW))) then Res.ok (eqv (deref S (.ref c)) (deref S (.lst (l.map tupW)))) S else .stuck) = _
    rw [e1, e2, e3, e4]
    rfl
  · show (if dat 60 (deref S (.ref c)) && dat 60 (deref S (.lst (l.map tupW))) then Res.ok (!eqv (deref S (.ref c)) (deref S (.lst (l.map tupW)))) S else .stuck) = _
    rw [e1, e2, e3, e4]
    rfl
theorem state_ok (cf : CF) (ns : List Int) (hn : ns.length ≤ 63) (env : Env) (h0 : env[0]? = some (some (.scr (ns.map W.int)))) : ∃ a b S, evE G cf (.lst true (.cons (.or (.blt .list true (.cons (.var 0) .nil)) (.lst true (.cons (.int 0) .nil))) (.cons (.int 0) .nil))) env [] = .ok (.ref a) S ∧ Stt 0 a b S := by
  have z : (ns.map W.int).length ≤ SZ := by rw [List.length_map]; unfold SZ; omega
  have e1 : bltin .list true [.scr (ns.map W.int)] [] = .ok (.ref 0) [.lst (ns.map W.int)] := mkL_t _ z
  cases ns with
  | nil =>
    refine ⟨2, 1, [.lst [], .lst [.int 0], .lst [.ref 1, .int 0]], ?_, ⟨by omega, 0, [0], by omega, by simp, by simp, rfl, rfl⟩⟩
    rw [e_lst, es_cons, e_or, e_blt, es_cons, e_var, h0, lk_ok, bind_ok, es_nil, bind_ok, bind_ok, e1, bind_ok, tr_ref 0 (([] : List Int).map W.int) _ rfl]
    rfl
  | cons n r =>
    refine ⟨1, 0, [.lst ((n :: r).map W.int), .lst [.ref 0, .int 0]], ?_, ⟨by omega, 0, n :: r, by omega, by simp, by omega, rfl, rfl⟩⟩
    rw [e_lst, es_cons, e_or, e_blt, es_cons, e_var, h0, lk_ok, bind_ok, es_nil, bind_ok, bind_ok, e1, bind_ok, tr_ref 0 ((n :: r).map W.int) _ rfl]
    rfl
end KL


set_option linter.all false
set_option autoImplicit false
set_option maxRecDepth 100000
set_option maxHeartbeats 2000000
namespace KL
open KF
local macro_rules | `(tactic| walk_at "ev") => `(tactic| simp -implicitDefEqProofs only [s_nil, s_cons, s_set, s_asub, s_expr, s_ret, e_var, e_int, e_str, e_bl, e_non, e_tup, e_lst, e_bin, e_cmp, e_or, e_and, e_not, e_sub, e_slc, e_call, e_blt, e_frz, es_nil, es_cons, eo_none, eo_some, bind_ok, thenS_ok, nxt_nx, nxt_rt, lk_ok, List.getElem?_cons_zero, List.getElem?_cons_succ, List.set_cons_zero, List.set_cons_succ, o_add, o_sub, o_mod, o_lt, o_le, o_gt, o_ge, b_int, b_len_lst, b_len_tup, ifK_t, ifK_f, tr_bl, tr_lst, fin_ret, orK_t, orK_f, andK_t, andK_f, notK_s, lsR_l, seq_lst, lst_lst, sub_lst, sub_tup, List.map_cons, List.map_nil, List.replicate, List.cons_append, List.nil_append, Nat.reduceSub])
theorem law_true (ns : List Int) (hn : ns.length ≤ 63) : ∃ S', callD G WF 14 6 [.scr (ns.map W.int)] [] = .ok (.bl true) S' := by
  rw [show (14 : Nat) = 13 + 1 from rfl, run_def ⟨1, 9, b_law⟩ rfl rfl]
  unfold b_law
  rw [s_cons, s_set]
  obtain ⟨a, b, S, e1, st⟩ := state_ok (callD G WF 13) ns hn ([W.scr (ns.map W.int)].map some ++ List.replicate (9 - 1) none) rfl
  rw [e1]
  obtain ⟨lic, S1, e2, ok, st1⟩ := licences_ok 10 0 a b S st (by omega)
  obtain ⟨v, S2, e3, l3, u3, st2, k2⟩ := draw_ok 12 (0 + 1000) a b 6 S1 (by omega) (by omega) (by omega) st1
  obtain ⟨w, rfl⟩ : ∃ w : Nat, v = w := ⟨v.toNat, by omega⟩
  obtain ⟨names, hN⟩ : ∃ l : List Nm, l = lic.map fun p => p.1 := ⟨_, rfl⟩
  have nlen : names.length = lic.length := by rw [hN, List.length_map]
  have n5 : names.length ≤ 5 := by rw [nlen]; exact ok.len
  have ln := law_names (callD G WF 13) lic ok
  rw [← hN] at ln
  let q : Nat := min (1 + w) lic.length
  have q5 : q ≤ 5 := Nat.le_trans (Nat.min_le_right _ _) ok.len
  have e4 := subsets_ok q (12 - q) names S2 n5 (by omega)
  rw [show 12 - q + q + 1 = 13 by omega] at e4
  obtain ⟨x, e5⟩ := crowds_ok 11 (1 + w) lic ok S2
  rw [← hN] at e5
  have pl : ∀ y ∈ subsP q names, ∀ s ∈ y, plainS s = true := fun y hy s hs => by
    have hm := subs_mem q names y hy s hs
    rw [hN] at hm
    obtain ⟨p, hp, rfl⟩ := List.mem_map.mp hm
    exact ok.pl p hp
  let R : List W := (subsP q names).map tupW
  let S3 : Sto := S2 ++ [x] ++ [.lst R]
  have at3 : S3[S2.length + 1]? = some (.lst R) := by
    show (S2 ++ [x] ++ [Ob.lst R])[S2.length + 1]? = _
    rw [List.getElem?_append_right (by simp)]
    simp
  have zR : R.length < SZ := by
    show ((subsP q names).map tupW).length < SZ
    rw [List.length_map]
    have h1 := subs_len q names n5
    have h2 : (5 : Nat) ^ q ≤ 5 ^ 5 := Nat.pow_le_pow_right (by omega) q5
    unfold SZ
    omega
  let S4 : Sto := S3.set (S2.length + 1) (.lst (R ++ [.non]))
  obtain ⟨x2, e6⟩ := crowds_ok 11 (1 + w) lic ok S4
  rw [← hN] at e6
  let S5 : Sto := S4 ++ [x2] ++ [.lst R]
  have at5 : S5[S4.length + 1]? = some (.lst R) := by
    show (S4 ++ [x2] ++ [Ob.lst R])[S4.length + 1]? = _
    rw [List.getElem?_append_right (by simp)]
    simp
  have ew : (1 : Int) + (w : Int) = ((1 + w : Nat) : Int) := by omega
  have emin : (if (lic.length : Int) < ((1 + w : Nat) : Int) then (lic.length : Int) else ((1 + w : Nat) : Int)) = (q : Nat) := by
    show _ = ((min (1 + w) lic.length : Nat) : Int)
    split <;> omega
  refine ⟨S5, ?_⟩
  walk_at "ev"
  rw [e2]
  walk_at "ev"
  rw [ln _ _ S1 _ (i_val _ (w := .lst (licW lic)) (by walk_at "ev") rfl) rfl]
  walk_at "ev"
  rw [e3]
  walk_at "ev"
  rw [ew, show bltin .min2 false [.int ((1 + w : Nat) : Int), .int ((names.map W.str).length : Nat)] S2 = .ok (.int (q : Nat)) S2 from by
    rw [List.length_map, nlen]
    show Res.ok (W.int (if (lic.length : Int) < ((1 + w : Nat) : Int) then (lic.length : Int) else ((1 + w : Nat) : Int))) S2 = _
    rw [emin]]
  walk_at "ev"
  rw [e4]
  walk_at "ev"
  rw [e5]
  walk_at "ev"
  rw [s_ite (w := .bl false) (S1 := S3) (h := by
    walk_at "ev"
    rw [(eq_told (subsP q names) pl (S2.length + 1) S3 at3).2]
    walk_at "ev"
    rw [show bltin .isList false [.ref (S2.length + 1)] S3 = .ok (.bl true) S3 from by
      unfold bltin
      have e : lstOf S3 (.ref (S2.length + 1)) = some R := by show lsR S3[S2.length + 1]? = _; rw [at3]; rfl
      simp only [e]]
    walk_at "ev"
    rfl)]
  walk_at "ev"
  rw [e_bm_app (i := S2.length + 1) (l := R) (x := .non) (S1 := S3) (S2 := S3) (h := by walk_at "ev") (hl := at3) (hl2 := at3) (hz := zR) (he := by walk_at "ev")]
  walk_at "ev"
  rw [show S3.set (S2.length + 1) (.lst (R ++ [.non])) = S4 from rfl, e6]
  walk_at "ev"
  rw [(eq_told (subsP q names) pl (S4.length + 1) S5 at5).1]
  walk_at "ev"
theorem k66 : row.Holds := holds_row law_true
end KL


theorem PySem.Challenge.cw_keysfewest_k66_crowds_of_a_size_holds : PySem.Challenge.rw_keysfewest_k66_crowds_of_a_size.Holds := by
  exact KL.k66
