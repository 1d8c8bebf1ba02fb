import PyProof.Rows.All
import Wide.All
import OpenK.AllK
import Wide.FinOn
import HandS.ForMost
import HandS.More
import HandS.Conv
import HandS.Iter
import HandS.TupAny
import HandS.TupMul
import HandS.ForExc
import HandS.ExcOwn
import HandS.IsInst
import HandS.Wide
import HandS.Style
import KE.DataEq
import HandS.Text
import KE.IntTextLaws
import KE.GoesEnum
import HandS.TryOnly
import HandS.Strs
import KE.KExcSuper
import KE.KExcInit
import KE.KSuper
import HandS.Ends
import HandS.Exc
import HandS.ExcIs
import PyProof.RulesMatch
import HandS.CallSlots
import HandS.Property
import OpenK.KOps
import OpenK.KMeth
import HandS.TupSets
import KE.KeyNested
import HandS.SetKeys
import KE.KStateDown
import HandS.Words
import HandS.WordsExc
import HandS.Defaults
import HandS.Head0
import HandS.Head1
import HandS.Head2
import HandS.HeadEnd
import HandS.HeadHook1
import HandS.HeadHook2
import HandS.Base
import PySem.Challenge.RW_finestcuts_k04_kinds_that_are_refused
set_option linter.all false
/-! The evaluator without a heap: data are plain values; what a name owns (a list, a dict, an object that may change) is a
    tree beside its name; a def may be lent what its caller owns, and hands it back changed. -/
namespace FM

/-! ### values -/
inductive W where
  | non | bl (b : Bool) | int (i : Int) | str (s : List Nat) | tup (ws : List W) | lis (ws : List W) | dic (ks vs : List W) | obj (c : Nat) (ks : List Nat) (ws : List W) | scr (ws : List W)
/-- what a name owns: data, or a thing that it may change -/
inductive U where
  | d (w : W) | l (us : List U) | c (ks : List W) (us : List U) | o (c : Nat) (ks : List Nat) (us : List U)
/-- a name: nothing, one's own, lent by the caller, a caught exception -/
inductive En where
  | no | m (u : U) | t (u : U) | x (c : Nat) (ks : List Nat) (ws : List W)
abbrev Env := List En

mutual
def fz : U → W
  | .d w => w
  | .l us => .lis (fzs us)
  | .c ks us => .dic ks (fzs us)
  | .o c ks us => .obj c ks (fzs us)
def fzs : List U → List W
  | [] => []
  | u :: us => fz u :: fzs us
end
/-- items that are data -/
def dats : List U → Option (List W)
  | [] => some []
  | .d w :: us => (dats us).map (w :: ·)
  | _ :: _ => none
/-- a thing as it is read -/
def vwU : U → Option W
  | .d w => some w
  | .l us => (dats us).map W.lis
  | .c ks us => (dats us).map (W.dic ks)
  | .o c ks us => (dats us).map (W.obj c ks)

def nth {α : Type} : List α → Nat → Option α
  | [], _ => none
  | a :: _, 0 => some a
  | _ :: as, n + 1 => nth as n

/-- equality of texts -/
def eqS : List Nat → List Nat → Bool
  | [], [] => true
  | a :: as, b :: bs => Nat.beq a b && eqS as bs
  | _, _ => false
theorem eqS_iff : ∀ {a b : List Nat}, eqS a b = true ↔ a = b
  | [], [] => by simp [eqS]
  | [], _ :: _ => by simp [eqS]
  | _ :: _, [] => by simp [eqS]
  | a :: as, b :: bs => by simp only [eqS, Bool.and_eq_true, Nat.beq_eq, List.cons.injEq]; rw [eqS_iff (a := as) (b := bs)]
/-- the order of texts -/
def ltS : List Nat → List Nat → Bool
  | _, [] => false
  | [], _ :: _ => true
  | a :: as, b :: bs => if Nat.blt a b then true else if Nat.beq a b then ltS as bs else false

/-! the very same value -/
mutual
def beqW : W → W → Bool
  | .non, .non => true
  | .bl a, .bl b => a == b
  | .int a, .int b => decide (a = b)
  | .str a, .str b => eqS a b
  | .tup a, .tup b => beqWs a b
  | .lis a, .lis b => beqWs a b
  | .dic a b, .dic c d => beqWs a c && beqWs b d
  | .obj c k a, .obj d l b => Nat.beq c d && eqS k l && beqWs a b
  | .scr a, .scr b => beqWs a b
  | _, _ => false
def beqWs : List W → List W → Bool
  | [], [] => true
  | a :: as, b :: bs => beqW a b && beqWs as bs
  | _, _ => false
end
mutual
theorem beqW_iff : ∀ {a b : W}, beqW a b = true → a = b
  | .non, b, h => by cases b <;> first | rfl | cases h
  | .bl a, b, h => by
    cases b <;> first | cases h | (simp only [beqW, beq_iff_eq] at h; rw [h])
  | .int a, b, h => by
    cases b <;> first | cases h | (simp only [beqW, decide_eq_true_eq] at h; rw [h])
  | .str a, b, h => by
    cases b <;> first | cases h | (simp only [beqW] at h; rw [eqS_iff.mp h])
  | .tup a, b, h => by
    cases b <;> first | cases h | (simp only [beqW] at h; rw [beqWs_iff h])
  | .lis a, b, h => by
    cases b <;> first | cases h | (simp only [beqW] at h; rw [beqWs_iff h])
  | .scr a, b, h => by
    cases b <;> first | cases h | (simp only [beqW] at h; rw [beqWs_iff h])
  | .dic a b, c, h => by
    cases c <;> first | cases h | (simp only [beqW, Bool.and_eq_true] at h; rw [beqWs_iff h.1, beqWs_iff h.2])
  | .obj a b d, c, h => by
    cases c <;> first | cases h | (simp only [beqW, Bool.and_eq_true, Nat.beq_eq] at h; rw [h.1.1, eqS_iff.mp h.1.2, beqWs_iff h.2])
theorem beqWs_iff : ∀ {a b : List W}, beqWs a b = true → a = b
  | [], b, h => by cases b <;> first | rfl | cases h
  | a :: as, b, h => by
    cases b with
    | nil => cases h
    | cons b bs =>
      simp only [beqWs, Bool.and_eq_true] at h
      rw [beqW_iff h.1, beqWs_iff h.2]
end
mutual
theorem beqW_self : ∀ a : W, beqW a a = true
  | .non => rfl
  | .bl a => by simp [beqW]
  | .int a => by simp [beqW]
  | .str a => by simp [beqW, eqS_iff]
  | .tup a => by simp only [beqW]; exact beqWs_self a
  | .lis a => by simp only [beqW]; exact beqWs_self a
  | .scr a => by simp only [beqW]; exact beqWs_self a
  | .dic a b => by simp only [beqW, Bool.and_eq_true]; exact ⟨beqWs_self a, beqWs_self b⟩
  | .obj a b c => by simp only [beqW, Bool.and_eq_true, Nat.beq_eq, eqS_iff]; exact ⟨⟨trivial, trivial⟩, beqWs_self c⟩
theorem beqWs_self : ∀ a : List W, beqWs a a = true
  | [] => rfl
  | a :: as => by simp only [beqWs, Bool.and_eq_true]; exact ⟨beqW_self a, beqWs_self as⟩
end

/-! data that are compared by parts: no dict, no object, nested at most n deep -/
mutual
def okW : Nat → W → Bool
  | _, .dic _ _ => false
  | _, .obj _ _ _ => false
  | _, .scr _ => false
  | 0, .tup _ => false
  | n + 1, .tup ws => okWs n ws
  | 0, .lis _ => false
  | n + 1, .lis ws => okWs n ws
  | _, _ => true
def okWs : Nat → List W → Bool
  | _, [] => true
  | n, w :: ws => okW n w && okWs n ws
end
/-! Python's == of data -/
mutual
def eqP : W → W → Bool
  | .non, .non => true
  | .bl a, .bl b => a == b
  | .int a, .int b => decide (a = b)
  | .bl a, .int b => decide ((if a then 1 else 0 : Int) = b)
  | .int a, .bl b => decide (a = (if b then 1 else 0 : Int))
  | .str a, .str b => eqS a b
  | .tup a, .tup b => eqPs a b
  | .lis a, .lis b => eqPs a b
  | _, _ => false
def eqPs : List W → List W → Bool
  | [], [] => true
  | a :: as, b :: bs => eqP a b && eqPs as bs
  | _, _ => false
end
def eqW (a b : W) : Option Bool := if okW 60 a && okW 60 b then some (eqP a b) else none

/-! ### results -/
/-- an exception: its class, its fields -/
structure Xn where
  c : Nat
  ks : List Nat
  ws : List W
inductive Res (α : Type) where
  | ok (a : α) (r : Env) | ex (x : Xn) (r : Env) | bad
def Res.bind {α β : Type} (m : Res α) (f : α → Env → Res β) : Res β := match m with
  | .ok a r => f a r
  | .ex x r => .ex x r
  | .bad => .bad
def Res.of {α : Type} (o : Option α) (r : Env) : Res α := match o with
  | some a => .ok a r
  | none => .bad
inductive SRes where
  | nx (r : Env) | rt (u : U) (r : Env) | bk (r : Env) | ct (r : Env) | ex (x : Xn) (r : Env) | bad
/-- what a call gives: its value, and what was lent, as it is then -/
inductive CRes where
  | ok (u : U) (os : List U) | ex (x : Xn) (os : List U) | bad

/-- an operand: a value, a thing just made, a name -/
inductive Arg where
  | w (w : W) | fr (u : U) | sl (i : Nat)
def cont : En → Option U
  | .m u => some u
  | .t u => some u
  | _ => none
def lookU (r : Env) (i : Nat) : Option U := (nth r i).bind cont
def vw (r : Env) : Arg → Option W
  | .w w => some w
  | .fr u => vwU u
  | .sl i => (lookU r i).bind vwU
def vws (r : Env) : List Arg → Option (List W)
  | [] => some []
  | a :: as => (vw r a).bind fun w => (vws r as).map (w :: ·)
/-- the items of a list or a tuple -/
def seqW : W → Option (List W)
  | .tup ws => some ws
  | .lis ws => some ws
  | .scr ws => some ws
  | _ => none
def extW : W → Option (List W)
  | .tup ws => some ws
  | .lis ws => some ws
  | _ => none
def lstW : W → Option (List W)
  | .lis ws => some ws
  | _ => none

/-! ### the form of programs -/
inductive B2 where
  | add | sub | mul | fdiv | mod | pow
  deriving DecidableEq
inductive C2 where
  | eq | ne | lt | le | gt | ge | is | isn | inn | nin
  deriving DecidableEq
inductive Ty where
  | int | bool | str | tuple | list | dict
  deriving DecidableEq
inductive Bt where
  | len | abs | int | max | min | all | any | sum | tuple
  deriving DecidableEq

inductive IG where
  | nm (i : Nat) | tp (gs : List IG)
mutual
/-- data -/
inductive IE where
  | var (i : Nat)
  | cst (w : W)
  | tup (es : List IE)
  | frz (u : IU)
  | bin (op : B2) (a b : IV)
  | neg (a : IE)
  | cmp (op : C2) (a b : IV)
  | chn (op op' : C2) (a b c : IV)
  | and (es : List IE)
  | or (es : List IE)
  | not (a : IE)
  | ite (t : IT) (a b : IE)
  | idx (a : IV) (i : IE)
  | slc (a : IV) (lo hi : Option IE)
  | didx (a : IV) (i : IE)
  | dget (i : Nat) (k x : IE)
  | isi (e : IV) (t : Ty)
  | blt (f : Bt) (vs : List IV)
  | app (i : Nat) (e : IE)
  | ext (i : Nat) (e : IV)
  | xfl (i : Nat) (k : Nat)
  | xis (i : Nat) (cs no : List Nat)
  | fld (c : Nat) (a : IV) (k : Nat)
  | isc (a : IV) (c : Nat)
  | lset (a : IV)
  | tix (a x : IE)
  | oln (c f : Nat) (o : IA)
  | unk
/-- an operand -/
inductive IV where
  | e (e : IE)
  | s (i : Nat)
  | u (x : IU)
inductive IT where
  | val (e : IE)
  | cmp (op : C2) (a b : IV)
  | chn (op op' : C2) (a b c : IV)
  | and (ts : List IT)
  | or (ts : List IT)
  | not (t : IT)
/-- a thing just made -/
inductive IU where
  | d (e : IE)
  | mv (i : Nat)
  | lst (es : List IE)
  | comp (elt : IE) (g : IG) (own : List Nat) (it : II) (t : Option IT)
  | cat (a b : IV)
  | rep (a : IV) (n : IE)
  | slc (a : IV) (lo hi : Option IE)
  | lof (a : IV)
  | srt (a : IV)
  | ndic
  | dlt (ps : List (IE × IE))
  | call (f : Nat) (as : List IA)
  | callK (f : Nat) (as : List IA)
  | callD (f : Nat) (as : List IA) (ds : List W)
  | make (c f : Nat) (as : List IA) (ds : List W)
  | mth (c m f : Nat) (o : IA) (as : List IA) (ds : List W)
  | prp (c f : Nat) (o : IA)
  | comp2 (elt : IE) (g : IG) (it : II) (t : Option IT) (g1 : IG) (e1 : IE) (t1 : Option IT) (own own1 : List Nat)
inductive II where
  | v (a : IV)
  | rng (a : IE)
  | rng2 (a b : IE)
  | zip (a b : IV)
  | enm (a : IV)
/-- an argument: data, lent, given away -/
inductive IA where
  | d (e : IE)
  | r (i : Nat)
  | u (x : IU)
end
inductive IS where
  | exp (e : IE)
  | asg (g : IG) (e : IE)
  | own (i : Nat) (u : IU)
  | fset (c i k : Nat) (u : IU)
  | par (i j : Nat) (a b : IE)
  | par2 (i j : Nat) (a b : IU)
  | sub (i : Nat) (k e : IE)
  | dsub (i : Nat) (k e : IE)
  | ret (e : IU)
  | ifs (t : IT) (a b : List IS)
  | for (g : IG) (it : II) (body : List IS)
  | whl (t : IT) (body : List IS)
  | lc (b : Bool) (i : Nat) (elt : IE) (g : IG) (own : List Nat) (it : II) (t : Option IT)
  | rse (c : Nat) (k : Option Nat) (e : Option IE)
  | try (body : List IS) (cs no : List Nat) (i : Nat) (h : List IS)
  | mat (e : IE) (cs : List (W × List IS))
  | pass | brk | cont | unk

/-! ### operations -/
/-- below a million bits together, or one of them small -/
def mulOk (i j : Int) : Bool := Nat.blt i.natAbs (2 ^ 64) || Nat.blt j.natAbs (2 ^ 64) || Nat.blt (i.natAbs.log2 + j.natAbs.log2) 1000000
def size : Nat := 1000000
def reps {α : Type} (a : List α) : Nat → List α
  | 0 => []
  | n + 1 => a ++ reps a n
def arith : B2 → W → W → Option W
  | .add, .int i, .int j => some (.int (i + j))
  | .add, .str a, .str b => if Nat.ble (a.length + b.length) size then some (.str (a ++ b)) else none
  | .add, .tup a, .tup b => if Nat.ble (a.length + b.length) size then some (.tup (a ++ b)) else none
  | .mul, .str a, .int j => if decide (0 ≤ j) && Nat.ble (a.length * j.toNat) size && decide (j ≤ 1000000) then some (.str (reps a j.toNat)) else none
  | .mul, .tup a, .int j => if decide (2 ≤ j) && decide (j ≤ 1000) && Nat.blt 0 a.length && Nat.ble a.length 1000 then some (.tup (reps a j.toNat)) else none
  | .sub, .int i, .int j => some (.int (i - j))
  | .mul, .int i, .int j => if mulOk i j then some (.int (i * j)) else none
  | .fdiv, .int i, .int j => if decide (0 < j) && Nat.blt j.natAbs.log2 9000 then some (.int (i / j)) else none
  | .mod, .int i, .int j => if decide (0 < j) then some (.int (i % j)) else none
  | .pow, .int i, .int j => if decide (0 ≤ j) && decide (j ≤ 1000) && Nat.blt i.natAbs (2 ^ 64) then some (.int (i ^ j.toNat)) else none
  | _, _, _ => none

def inW (x : W) (ws : List W) : Bool := ws.any fun y => eqP y x
/-- keys of dicts -/
def keyOk : W → Bool
  | .int _ => true
  | .str _ => true
  | _ => false
def dfind (k : W) : List W → List W → Option W
  | l :: ks, v :: vs => if beqW l k then some v else dfind k ks vs
  | _, _ => none
def dhas (k : W) : List W → Bool
  | l :: ks => beqW l k || dhas k ks
  | _ => false
def dset {α : Type} (k : W) (v : α) : List W → List α → List α
  | l :: ks, u :: vs => (if beqW l k then v else u) :: dset k v ks vs
  | _, _ => []
def dput {α : Type} (k : W) (v : α) (ks : List W) (vs : List α) : List W × List α := if dhas k ks then (ks, dset k v ks vs) else (ks ++ [k], vs ++ [v])
/-- pairs put in, one after another -/
def dall (ks vs : List W) : List (W × W) → List W × List W
  | [] => (ks, vs)
  | q :: qs => dall (dput q.1 q.2 ks vs).1 (dput q.1 q.2 ks vs).2 qs
def inV (x b : W) : Option Bool := match b with
  | .dic ks _ => if keyOk x then some (dhas x ks) else none
  | b => if okW 60 x then (seqW b).bind fun ws => if okWs 60 ws then some (inW x ws) else none else none
def cmpW : C2 → W → W → Option Bool
  | .eq, a, b => eqW a b
  | .ne, a, b => (eqW a b).map (!·)
  | .lt, .int i, .int j => some (decide (i < j))
  | .le, .int i, .int j => some (decide (i ≤ j))
  | .gt, .int i, .int j => some (decide (j < i))
  | .ge, .int i, .int j => some (decide (j ≤ i))
  | .lt, .str a, .str b => some (ltS a b)
  | .le, .str a, .str b => some (!ltS b a)
  | .gt, .str a, .str b => some (ltS b a)
  | .ge, .str a, .str b => some (!ltS a b)
  | .is, a, .non => some (match a with | .non => true | _ => false)
  | .isn, a, .non => some (match a with | .non => false | _ => true)
  | .is, .bl a, .bl b => some (a == b)
  | .isn, .bl a, .bl b => some (!(a == b))
  | .inn, x, b => inV x b
  | .nin, x, b => (inV x b).map (!·)
  | _, _, _ => none

/-- a place of a sequence -/
def ix (n : Nat) (i : Int) : Option Nat := match i with
  | .ofNat k => if Nat.blt k n then some k else none
  | .negSucc k => if Nat.blt k n then some (n - (k + 1)) else none
def idxW (a : W) (i : W) : Option W := match i with
  | .int k => (match a with
    | .str s => if Nat.ble s.length size then (ix s.length k).bind fun j => (nth s j).map fun c => .str [c] else none
    | a => (seqW a).bind fun ws => (ix ws.length k).bind fun j => nth ws j)
  | _ => none
/-- the bound of a slice -/
def bnd (n d : Nat) : Option Int → Nat
  | none => d
  | some (.ofNat k) => min k n
  | some (.negSucc k) => n - (k + 1)
def cut {α : Type} (ws : List α) (lo hi : Option Int) : List α := (ws.drop (bnd ws.length 0 lo)).take (bnd ws.length ws.length hi - bnd ws.length 0 lo)
/-- a slice that is data: of a text, of a tuple -/
def cutD (a : W) (lo hi : Option Int) : Option W := match a with
  | .str s => if Nat.ble s.length size then some (.str (cut s lo hi)) else none
  | .tup ws => some (.tup (cut ws lo hi))
  | _ => none

/-- a field of an object -/
def fget {α : Type} (k : Nat) : List Nat → List α → Option α
  | l :: ks, v :: vs => if Nat.beq l k then some v else fget k ks vs
  | _, _ => none
def fput (k : Nat) (v : U) : List Nat → List U → List Nat × List U
  | l :: ks, u :: us => if Nat.beq l k then (l :: ks, v :: us) else (l :: (fput k v ks us).1, u :: (fput k v ks us).2)
  | _, _ => ([k], [v])
def fldU (c k : Nat) : U → Option W
  | .d (.obj d ks ws) => if Nat.beq d c then fget k ks ws else none
  | .o d ks us => if Nat.beq d c then (fget k ks us).bind fun u => match u with
    | .d w => some w
    | _ => none
    else none
  | _ => none
/-- what may stand in a set: ints, texts, tuples of such -/
def hshD : W → Bool
  | .int _ => true
  | .str _ => true
  | _ => false
def hshW : W → Bool
  | .tup ws => ws.all hshD
  | w => hshD w
/-- how many different ones -/
def distN : List W → List W → Nat
  | [], _ => 0
  | w :: ws, seen => if seen.any (fun x => beqW x w) then distN ws seen else distN ws (w :: seen) + 1
/-- all texts and ints, or all tuples of such -/
def setN (ws : List W) : Option W := if (ws.all hshD || ws.all fun w => match w with | .tup us => us.all hshD | _ => false) && Nat.blt ws.length 50 then some (.int (distN ws [])) else none
def findS (x : List Nat) : List (List Nat) → Option Nat
  | [] => none
  | w :: ws => if eqS w x then some 0 else (findS x ws).map (· + 1)
def tyIs : Ty → W → Bool
  | .int, .int _ => true
  | .int, .bl _ => true
  | .bool, .bl _ => true
  | .str, .str _ => true
  | .tuple, .tup _ => true
  | .list, .lis _ => true
  | .list, .scr _ => true
  | .dict, .dic _ _ => true
  | _, _ => false

def tyIsO (t : Ty) (w : W) : Option W := match w with
  | .obj _ _ _ => none
  | w => some (.bl (tyIs t w))

def bls : List W → Option (List Bool)
  | [] => some []
  | .bl b :: r => (bls r).map (b :: ·)
  | _ => none
def nums : List W → Option (List Int)
  | [] => some []
  | .int b :: r => (nums r).map (b :: ·)
  | _ => none
def txts : List W → Option (List (List Nat))
  | [] => some []
  | .str b :: r => (txts r).map (b :: ·)
  | _ => none
/-- a.index(x): a tuple of texts, x there -/
def indexW (a x : W) : Option W := match a, x with
  | .tup ws, .str z => (txts ws).bind fun ss => (findS z ss).map fun (n : Nat) => .int (n : Int)
  | _, _ => none
def digs (s : List Nat) : Bool := s.all fun c => Nat.ble 48 c && Nat.ble c 57
def dval (s : List Nat) : Nat := s.foldl (fun acc c => acc * 10 + (c - 48)) 0
def bltF : Bt → List W → Option W
  | .len, [.str s] => if Nat.ble s.length size then some (.int s.length) else none
  | .len, [.dic ks _] => some (.int ks.length)
  | .len, [a] => (seqW a).map fun ws => .int ws.length
  | .abs, [.int i] => some (.int (if i < 0 then -i else i))
  | .int, [.int i] => some (.int i)
  | .int, [.bl b] => some (.int (if b then 1 else 0))
  | .int, [.str s] => if digs s && Nat.blt 0 s.length && Nat.ble s.length 640 then some (.int (dval s : Nat)) else none
  | .max, [.int i, .int j] => some (.int (if j > i then j else i))
  | .min, [.int i, .int j] => some (.int (if j < i then j else i))
  | .all, [a] => (lstW a).bind fun ws => (bls ws).map fun bs => .bl (bs.all id)
  | .any, [a] => (lstW a).bind fun ws => (bls ws).map fun bs => .bl (bs.any id)
  | .sum, [a] => (lstW a).bind fun ws => (nums ws).map fun ns => .int ns.sum
  | .tuple, [a] => (seqW a).map fun ws => .tup ws
  | _, _ => none

def insS (a : List Nat) : List (List Nat) → List (List Nat)
  | [] => [a]
  | b :: r => if ltS b a then b :: insS a r else a :: b :: r
def sortS : List (List Nat) → List (List Nat)
  | [] => []
  | a :: r => insS a (sortS r)
/-- sorted: of texts -/
def sortF (a : W) : Option (List W) := match a with
  | .dic ks _ => (txts ks).bind fun ss => if Nat.blt ss.length 64 then some ((sortS ss).map W.str) else none
  | a => (lstW a).bind fun ws => (txts ws).bind fun ss => if Nat.blt ss.length 64 then some ((sortS ss).map W.str) else none

/-! ### names -/
/-- the value of a name; what it owned is data from then on -/
def rdV (r : Env) (i : Nat) : Option (W × Env) := match nth r i with
  | some (.m (.d w)) => some (w, r)
  | some (.m u) => some (fz u, r.set i (.m (.d (fz u))))
  | some (.t (.d w)) => some (w, r)
  | _ => none
def mvV (r : Env) (i : Nat) : Option (U × Env) := match nth r i with
  | some (.m u) => some (u, r.set i .no)
  | _ => none
/-- a name is bound anew -/
def setV (r : Env) (i : Nat) (u : U) : Option Env := match nth r i with
  | some (.t _) => none
  | some (.x _ _ _) => none
  | some _ => some (r.set i (.m u))
  | none => none
/-- what a name has is changed -/
def putV (r : Env) (i : Nat) (u : U) : Option Env := match nth r i with
  | some (.t _) => some (r.set i (.t u))
  | some (.m _) => some (r.set i (.m u))
  | _ => none
mutual
def bindG : IG → W → Env → Option Env
  | .nm i, w, r => setV r i (.d w)
  | .tp gs, .tup ws, r => bindGs gs ws r
  | .tp gs, .lis ws, r => bindGs gs ws r
  | _, _, _ => none
def bindGs : List IG → List W → Env → Option Env
  | [], [], r => some r
  | g :: gs, w :: ws, r => (bindG g w r).bind fun r1 => bindGs gs ws r1
  | _, _, _ => none
end
def wipe (r : Env) : List Nat → Env
  | [] => r
  | v :: vs => (wipe r vs).set v .no
/-- names of a comprehension: nothing or data stand there outside -/
def plainE : En → Bool
  | .no => true
  | .m (.d _) => true
  | _ => false
def ownOk (r : Env) : List Nat → Bool
  | [] => true
  | v :: vs => (match nth r v with | some e => plainE e | none => false) && ownOk r vs
def back (r r1 : Env) : List Nat → Env
  | [] => r1
  | v :: vs => (match nth r v with | some e => (back r r1 vs).set v e | none => back r r1 vs)

/-! ### evaluation, one level over another -/
structure SF where
  E : IE → Env → Res W
  V : IV → Env → Res Arg
  T : IT → Env → Res Bool
  U : IU → Env → Res U
  S : List IS → Env → SRes
  Wh : IT → List IS → Env → SRes
def SF.bot : SF := ⟨fun _ _ => .bad, fun _ _ => .bad, fun _ _ => .bad, fun _ _ => .bad, fun _ _ => .bad, fun _ _ _ => .bad⟩

def evs {α β : Type} (f : α → Env → Res β) : List α → Env → Res (List β)
  | [], r => .ok [] r
  | e :: es, r => (f e r).bind fun w r1 => (evs f es r1).bind fun ws r2 => .ok (w :: ws) r2

def iota (lo : Int) : Nat → List W
  | 0 => []
  | n + 1 => .int lo :: iota (lo + 1) n
def zipW : List W → List W → List W
  | a :: as, b :: bs => .tup [a, b] :: zipW as bs
  | _, _ => []
def enmW (k : Int) : List W → List W
  | [] => []
  | a :: as => .tup [.int k, a] :: enmW (k + 1) as
/-- what is walked: the items, and the operands that must stay as they are -/
structure Wk where
  ws : List W
  ks : List (Nat × W)
def stillI (w : W) (r : Env) (i : Nat) : Bool := match vw r (.sl i) with
  | some u => beqW u w
  | none => false
def Wk.still (k : Wk) (r : Env) : Bool := k.ks.all fun q => stillI q.2 r q.1
def keep (a : Arg) (w : W) : List (Nat × W) := match a with
  | .sl i => [(i, w)]
  | _ => []
def walkA (r : Env) (a : Arg) : Option Wk := match vw r a with
  | some (.str s) => (match a with
    | .w _ => some ⟨s.map fun c => .str [c], []⟩
    | _ => none)
  | some w => (seqW w).map fun ws => ⟨ws, keep a w⟩
  | none => none

def stepI (s : SF) : II → Env → Res Wk
  | .v a, r => (s.V a r).bind fun x r1 => Res.of (walkA r1 x) r1
  | .rng a, r => (s.E a r).bind fun x r1 => match x with
    | .int n => if decide (n ≤ 1000000) && decide (-1000000 ≤ n) then .ok ⟨iota 0 n.toNat, []⟩ r1 else .bad
    | _ => .bad
  | .rng2 a b, r => (s.E a r).bind fun x r1 => (s.E b r1).bind fun y r2 => match x, y with
    | .int m, .int n => if decide (n ≤ 1000000) && decide (-1000000 ≤ n) && decide (m ≤ 1000000) && decide (-1000000 ≤ m) then .ok ⟨iota m (n - m).toNat, []⟩ r2 else .bad
    | _, _ => .bad
  | .zip a b, r => (s.V a r).bind fun x r1 => (s.V b r1).bind fun y r2 => Res.of ((vw r2 x).bind fun u => (lstW u).bind fun us => (vw r2 y).bind fun w => (lstW w).map fun ws => ⟨zipW us ws, keep x u ++ keep y w⟩) r2
  | .enm a, r => (s.V a r).bind fun x r1 => Res.of ((vw r1 x).bind fun u => (extW u).map fun ws => ⟨enmW 0 ws, keep x u⟩) r1

def compL (k : Wk) (own : List Nat) (f : W → Env → Res (Option W)) : List W → Env → Res (List W)
  | [], r => if k.still r then .ok [] r else .bad
  | w :: ws, r => if k.still r then (match f w r with
    | .ok o r1 => (match compL k own f ws (wipe r1 own) with
      | .ok us r2 => (match o with
        | some u => .ok (u :: us) r2
        | none => .ok us r2)
      | _ => .bad)
    | _ => .bad)
    else .bad
def optE (s : SF) (e : Option IE) (r : Env) : Res (Option Int) := match e with
  | none => .ok none r
  | some e => (s.E e r).bind fun x r1 => match x with
    | .int i => .ok (some i) r1
    | _ => .bad
def turnL (s : SF) (elt : IE) (g : IG) (t : Option IT) (w : W) (r : Env) : Res (Option W) := match bindG g w r with
  | none => .bad
  | some r1 => match t with
    | none => (s.E elt r1).bind fun u r2 => .ok (some u) r2
    | some t => (s.T t r1).bind fun b r2 => if b then (s.E elt r2).bind fun u r3 => .ok (some u) r3 else .ok none r2
def compM (s : SF) (elt : IE) (g : IG) (own : List Nat) (it : II) (t : Option IT) (r : Env) : Res (List W) := (stepI s it r).bind fun k r1 => if Nat.ble k.ws.length size && ownOk r1 own && k.ks.all (fun q => !own.any (Nat.beq q.1)) then (match compL k own (turnL s elt g t) k.ws (wipe r1 own) with
    | .ok ws r2 => .ok ws (back r1 r2 own)
    | _ => .bad) else .bad
/-- the arguments of a call -/
inductive AV where
  | d (w : W) | r (i : Nat) | u (u : U)
def stepA (s : SF) : IA → Env → Res AV
  | .d e, r => (s.E e r).bind fun w r1 => .ok (.d w) r1
  | .r i, r => (match lookU r i with
    | some _ => .ok (.r i) r
    | none => .bad)
  | .u x, r => (s.U x r).bind fun u r1 => .ok (.u u) r1
/-- what the callee's names are bound to; where what is lent stands -/
def args (r : Env) : List AV → Option (List En × List Nat)
  | [] => some ([], [])
  | .d w :: as => (args r as).map fun q => (.m (.d w) :: q.1, q.2)
  | .u u :: as => (args r as).map fun q => (.m u :: q.1, q.2)
  | .r i :: as => (lookU r i).bind fun u => (args r as).bind fun q => if q.2.any (Nat.beq i) then none else some (.t u :: q.1, i :: q.2)
/-- what was lent comes back -/
def puts (r : Env) : List Nat → List U → Option Env
  | [], [] => some r
  | i :: is, u :: us => (putV r i u).bind fun r1 => puts r1 is us
  | _, _ => none
abbrev CF := Nat → List En → CRes
def runC (c : CF) (f : Nat) (as : List AV) (r : Env) : Res U := match args r as with
  | none => .bad
  | some (es, is) => match c f es with
    | .ok u os => (match puts r is os with
      | some r1 => .ok u r1
      | none => .bad)
    | .ex x os => (match puts r is os with
      | some r1 => .ex x r1
      | none => .bad)
    | .bad => .bad

/-- nothing may be raised here -/
def noX {α : Type} : Res α → Res α
  | .ok a r => .ok a r
  | _ => .bad
/-- an instance is made: its __init__ gets it lent -/
def runM (c : CF) (cl f : Nat) (as : List AV) (r : Env) : Res U := match args r as with
  | none => .bad
  | some (es, is) => match c f (.t (.o cl [] []) :: es) with
    | .ok (.d .non) (u :: os) => (match puts r is os with
      | some r1 => .ok u r1
      | none => .bad)
    | .ex x (_ :: os) => (match puts r is os with
      | some r1 => .ex x r1
      | none => .bad)
    | _ => .bad
/-- the class of a receiver, and that it has no field m -/
def clsA (r : Env) (cl m : Nat) : AV → Bool
  | .d (.obj c ks _) => Nat.beq c cl && !ks.any (Nat.beq m)
  | .r i => (match lookU r i with
    | some (.o c ks _) => Nat.beq c cl && !ks.any (Nat.beq m)
    | some (.d (.obj c ks _)) => Nat.beq c cl && !ks.any (Nat.beq m)
    | _ => false)
  | _ => false
def compL2 (k : Wk) (own : List Nat) (f : W → Env → Res (List W)) : List W → Env → Res (List W)
  | [], r => if k.still r then .ok [] r else .bad
  | w :: ws, r => if k.still r then (match f w r with
    | .ok us r1 => (match compL2 k own f ws (wipe r1 own) with
      | .ok vs r2 => .ok (us ++ vs) r2
      | _ => .bad)
    | _ => .bad)
    else .bad
/-- a turn of the first clause: the second one, over data, whole -/
def turnL2 (s : SF) (elt : IE) (g : IG) (t : Option IT) (g1 : IG) (e1 : IE) (t1 : Option IT) (own1 : List Nat) (w : W) (r : Env) : Res (List W) := match bindG g w r with
  | none => .bad
  | some r1 => (match t with
    | none => Res.ok true r1
    | some t => s.T t r1).bind fun b r2 => if b then (s.E e1 r2).bind fun u r3 => (match extW u with
      | some ws => compL ⟨ws, []⟩ own1 (turnL s elt g1 t1) ws (wipe r3 own1)
      | none => .bad) else .ok [] r2
def compM2 (s : SF) (elt : IE) (g : IG) (it : II) (t : Option IT) (g1 : IG) (e1 : IE) (t1 : Option IT) (own own1 : List Nat) (r : Env) : Res (List W) := (stepI s it r).bind fun k r1 => if Nat.ble k.ws.length size && ownOk r1 own && k.ks.all (fun q => !own.any (Nat.beq q.1)) then (match compL2 k own (turnL2 s elt g t g1 e1 t1 own1) k.ws (wipe r1 own) with
    | .ok ws r2 => if Nat.ble ws.length size then .ok ws (back r1 r2 own) else .bad
    | _ => .bad) else .bad
def stepU (c : CF) (s : SF) : IU → Env → Res U
  | .d e, r => (s.E e r).bind fun w r1 => .ok (.d w) r1
  | .mv i, r => (match mvV r i with
    | some (u, r1) => .ok u r1
    | none => .bad)
  | .lst es, r => (evs s.E es r).bind fun ws r1 => .ok (.l (ws.map U.d)) r1
  | .comp elt g own it t, r => (compM s elt g own it t r).bind fun ws r1 => .ok (.l (ws.map U.d)) r1
  | .cat a b, r => (s.V a r).bind fun x r1 => (s.V b r1).bind fun y r2 => Res.of ((vw r2 x).bind fun u => (lstW u).bind fun us => (vw r2 y).bind fun w => (lstW w).bind fun ws => if Nat.ble (us.length + ws.length) size then some (.l ((us ++ ws).map U.d)) else none) r2
  | .rep a n, r => (s.V a r).bind fun x r1 => (s.E n r1).bind fun y r2 => match y with
    | .int j => Res.of ((vw r2 x).bind fun u => (lstW u).bind fun us => if decide (-1000000 ≤ j) && Nat.ble (us.length * j.toNat) size && decide (j ≤ 1000000) then some (.l ((reps us j.toNat).map U.d)) else none) r2
    | _ => .bad
  | .slc a lo hi, r => (s.V a r).bind fun x r1 => (optE s lo r1).bind fun l r2 => (optE s hi r2).bind fun h r3 => Res.of ((vw r3 x).bind fun u => (lstW u).map fun ws => .l ((cut ws l h).map U.d)) r3
  | .lof a, r => (s.V a r).bind fun x r1 => Res.of ((vw r1 x).bind fun u => (seqW u).map fun ws => .l (ws.map U.d)) r1
  | .srt a, r => (s.V a r).bind fun x r1 => Res.of ((vw r1 x).bind fun u => (sortF u).map fun ws => .l (ws.map U.d)) r1
  | .ndic, r => .ok (.c [] []) r
  | .dlt ps, r => (evs (fun p r => (s.E p.1 r).bind fun k r1 => (s.E p.2 r1).bind fun v r2 => .ok (k, v) r2) ps r).bind fun qs r1 => if (qs.all fun q => keyOk q.1) && Nat.ble qs.length 15 && Nat.blt 0 qs.length then .ok (.c (dall [] [] qs).1 ((dall [] [] qs).2.map U.d)) r1 else .bad
  | .call f as, r => (evs (stepA s) as r).bind fun vs r1 => runC c f vs r1
  | .callK f as, r => (evs (stepA s) as r).bind fun vs r1 => runC c f vs r1
  | .callD f as ds, r => (evs (stepA s) as r).bind fun vs r1 => runC c f (vs ++ ds.map AV.d) r1
  | .make cl f as ds, r => (evs (stepA s) as r).bind fun vs r1 => runM c cl f (vs ++ ds.map AV.d) r1
  | .mth cl m f o as ds, r => (stepA s o r).bind fun x r1 => if clsA r1 cl m x then (evs (stepA s) as r1).bind fun vs r2 => runC c f (x :: (vs ++ ds.map AV.d)) r2 else .bad
  | .prp cl f o, r => (stepA s o r).bind fun x r1 => if clsA r1 cl 0 x then noX (runC c f [x] r1) else .bad
  | .comp2 elt g it t g1 e1 t1 own own1, r => (compM2 s elt g it t g1 e1 t1 own own1 r).bind fun ws r1 => .ok (.l (ws.map U.d)) r1
def stepV (s : SF) : IV → Env → Res Arg
  | .e e, r => (s.E e r).bind fun w r1 => .ok (.w w) r1
  | .s i, r => (match lookU r i with
    | some _ => .ok (.sl i) r
    | none => .bad)
  | .u x, r => (s.U x r).bind fun u r1 => .ok (.fr u) r1
def andE (s : SF) : List IE → Env → Res W
  | [], _ => .bad
  | [e], r => s.E e r
  | e :: es, r => (s.E e r).bind fun w r1 => match w with
    | .bl true => andE s es r1
    | .bl false => .ok (.bl false) r1
    | _ => .bad
def orE (s : SF) : List IE → Env → Res W
  | [], _ => .bad
  | [e], r => s.E e r
  | e :: es, r => (s.E e r).bind fun w r1 => match w with
    | .bl true => .ok (.bl true) r1
    | .bl false => orE s es r1
    | _ => .bad
def andT (s : SF) : List IT → Env → Res Bool
  | [], _ => .bad
  | [e], r => s.T e r
  | e :: es, r => (s.T e r).bind fun b r1 => if b then andT s es r1 else .ok false r1
def orT (s : SF) : List IT → Env → Res Bool
  | [], _ => .bad
  | [e], r => s.T e r
  | e :: es, r => (s.T e r).bind fun b r1 => if b then .ok true r1 else orT s es r1
def cmp2 (op : C2) (x y : Arg) (r : Env) : Option Bool := (vw r x).bind fun a => (vw r y).bind fun b => cmpW op a b
def cmpS (s : SF) (op : C2) (a b : IV) (r : Env) : Res Bool := (s.V a r).bind fun x r1 => (s.V b r1).bind fun y r2 => Res.of (cmp2 op x y r2) r2
def chnS (s : SF) (op op' : C2) (a b d : IV) (r : Env) : Res Bool := (s.V a r).bind fun x r1 => (s.V b r1).bind fun y r2 => match cmp2 op x y r2 with
    | some true => (s.V d r2).bind fun z r3 => Res.of (cmp2 op' y z r3) r3
    | some false => .ok false r2
    | none => .bad
def stepT (s : SF) : IT → Env → Res Bool
  | .val e, r => (s.E e r).bind fun w r1 => match w with
    | .bl b => .ok b r1
    | _ => .bad
  | .cmp op a b, r => cmpS s op a b r
  | .chn op op' a b d, r => chnS s op op' a b d r
  | .and ts, r => andT s ts r
  | .or ts, r => orT s ts r
  | .not t, r => (s.T t r).bind fun b r1 => .ok (!b) r1

def appS (i : Nat) (y : W) (r : Env) : Res W := match lookU r i with
  | some (.l us) => if Nat.blt us.length size then (match putV r i (.l (us ++ [.d y])) with
    | some r2 => .ok .non r2
    | none => .bad) else .bad
  | _ => .bad
def extS (i : Nat) (x : Arg) (r : Env) : Res W := match lookU r i, (vw r x).bind extW with
  | some (.l us), some ws => if Nat.ble (us.length + ws.length) size then (match putV r i (.l (us ++ ws.map U.d)) with
    | some r2 => .ok .non r2
    | none => .bad) else .bad
  | _, _ => .bad
def dgetV (i : Nat) (k d : W) (r : Env) : Option W := (vw r (.sl i)).bind fun u => match u with
  | .dic ks vs => if keyOk k then some ((dfind k ks vs).getD d) else none
  | _ => none
def fldV (r : Env) (c k : Nat) : Arg → Option W
  | .w w => fldU c k (.d w)
  | .fr u => fldU c k u
  | .sl i => (lookU r i).bind (fldU c k)
def iscW (c : Nat) (w : W) : W := match w with
  | .obj d _ _ => .bl (Nat.beq d c)
  | _ => .bl false
/-- len by an own __len__ -/
def lenU : U → Option W
  | .d (.int i) => if decide (0 ≤ i) && decide (i < 1000000) then some (.int i) else none
  | _ => none
def stepE (c : CF) (s : SF) : IE → Env → Res W
  | .var i, r => (match rdV r i with
    | some (w, r1) => .ok w r1
    | none => .bad)
  | .cst w, r => .ok w r
  | .tup es, r => (evs s.E es r).bind fun ws r1 => .ok (.tup ws) r1
  | .frz x, r => (s.U x r).bind fun u r1 => .ok (fz u) r1
  | .bin op a b, r => (s.V a r).bind fun x r1 => (s.V b r1).bind fun y r2 => Res.of ((vw r2 x).bind fun u => (vw r2 y).bind fun w => arith op u w) r2
  | .neg a, r => (s.E a r).bind fun x r1 => match x with
    | .int i => .ok (.int (-i)) r1
    | _ => .bad
  | .cmp op a b, r => (cmpS s op a b r).bind fun c r1 => .ok (.bl c) r1
  | .chn op op' a b d, r => (chnS s op op' a b d r).bind fun c r1 => .ok (.bl c) r1
  | .and es, r => andE s es r
  | .or es, r => orE s es r
  | .not a, r => (s.E a r).bind fun x r1 => match x with
    | .bl b => .ok (.bl (!b)) r1
    | _ => .bad
  | .ite t a b, r => (s.T t r).bind fun x r1 => if x then s.E a r1 else s.E b r1
  | .idx a i, r => (s.V a r).bind fun x r1 => (s.E i r1).bind fun k r2 => Res.of ((vw r2 x).bind fun u => idxW u k) r2
  | .slc a lo hi, r => (s.V a r).bind fun x r1 => (optE s lo r1).bind fun l r2 => (optE s hi r2).bind fun h r3 => Res.of ((vw r3 x).bind fun u => cutD u l h) r3
  | .didx a i, r => (s.V a r).bind fun x r1 => (s.E i r1).bind fun k r2 => Res.of ((vw r2 x).bind fun u => match u with
    | .dic ks vs => if keyOk k then dfind k ks vs else none
    | _ => none) r2
  | .dget i k d, r => (match lookU r i with
    | some (.c _ _) => (s.E k r).bind fun k r1 => (s.E d r1).bind fun d r2 => Res.of (dgetV i k d r2) r2
    | _ => .bad)
  | .isi e t, r => (s.V e r).bind fun x r1 => Res.of ((vw r1 x).bind fun w => tyIsO t w) r1
  | .blt f vs, r => (evs s.V vs r).bind fun xs r1 => Res.of ((vws r1 xs).bind fun ws => bltF f ws) r1
  | .app i e, r => (match lookU r i with
    | some (.l _) => (s.E e r).bind fun y r1 => appS i y r1
    | _ => .bad)
  | .ext i e, r => (match lookU r i with
    | some (.l _) => (s.V e r).bind fun x r1 => extS i x r1
    | _ => .bad)
  | .xfl i k, r => (match nth r i with
    | some (.x _ [l] [w]) => if Nat.beq l k then .ok w r else .bad
    | _ => .bad)
  | .xis i cs no, r => (match nth r i with
    | some (.x c [_] [_]) => if cs.any (Nat.beq c) then .ok (.bl true) r else if no.any (Nat.beq c) then .ok (.bl false) r else .bad
    | _ => .bad)
  | .fld cl a k, r => (s.V a r).bind fun x r1 => Res.of (fldV r1 cl k x) r1
  | .isc a cl, r => (s.V a r).bind fun x r1 => Res.of ((vw r1 x).map fun w => iscW cl w) r1
  | .lset a, r => (s.V a r).bind fun x r1 => Res.of ((vw r1 x).bind fun w => (extW w).bind setN) r1
  | .tix a e, r => (s.E a r).bind fun x r1 => (match x with
    | .tup _ => (s.E e r1).bind fun y r2 => Res.of (indexW x y) r2
    | _ => .bad)
  | .oln cl f o, r => (stepA s o r).bind fun x r1 => if clsA r1 cl 0 x then (noX (runC c f [x] r1)).bind fun u r2 => Res.of (lenU u) r2 else .bad
  | .unk, _ => .bad

def forL (f : W → Env → SRes) : List W → Env → SRes
  | [], r => .nx r
  | w :: ws, r => match f w r with
    | .nx r1 => forL f ws r1
    | .ct r1 => forL f ws r1
    | .bk r1 => .nx r1
    | x => x
def Res.toS {α : Type} (m : Res α) (f : α → Env → SRes) : SRes := match m with
  | .ok w r => f w r
  | .ex x r => .ex x r
  | .bad => .bad
/-- behind a suite the exception's name is gone -/
def unX (i : Nat) : SRes → SRes
  | .nx r => .nx (r.set i .no)
  | .bk r => .bk (r.set i .no)
  | .ct r => .ct (r.set i .no)
  | .rt u r => .rt u (r.set i .no)
  | _ => .bad
def handle (s : SF) (x : Xn) (r : Env) (cs no : List Nat) (i : Nat) (h : List IS) : SRes := if cs.any (Nat.beq x.c) then (match nth r i with
    | some e => if plainE e then unX i (s.S h (r.set i (.x x.c x.ks x.ws))) else .bad
    | none => .bad) else if no.any (Nat.beq x.c) then .ex x r else .bad
def pick (s : SF) (w : W) (r : Env) : List (W × List IS) → SRes
  | [] => .nx r
  | (k, b) :: cs => match eqW w k with
    | some true => s.S b r
    | some false => pick s w r cs
    | none => .bad
def putS (i : Nat) (v n : W) (r : Env) : SRes := match lookU r i, n with
  | some (.l us), .int n => (match ix us.length n, dats us with
    | some j, some _ => (match putV r i (.l (us.set j (.d v))) with
      | some r3 => .nx r3
      | none => .bad)
    | _, _ => .bad)
  | _, _ => .bad
def dputS (i : Nat) (v n : W) (r : Env) : SRes := match lookU r i with
  | some (.c ks us) => (match dats us with
    | some ws => if keyOk n && Nat.blt ks.length size then (match putV r i (.c (dput n v ks ws).1 ((dput n v ks ws).2.map U.d)) with
      | some r3 => .nx r3
      | none => .bad) else .bad
    | none => .bad)
  | _ => .bad
def stepS (s : SF) : IS → Env → SRes
  | .exp e, r => (s.E e r).toS fun _ r1 => .nx r1
  | .asg g e, r => (s.E e r).toS fun w r1 => match bindG g w r1 with
    | some r2 => .nx r2
    | none => .bad
  | .own i x, r => (s.U x r).toS fun u r1 => match setV r1 i u with
    | some r2 => .nx r2
    | none => .bad
  | .fset c i k x, r => (s.U x r).toS fun u r1 => (match lookU r1 i with
    | some (.o cl ks us) => if Nat.beq cl c && Nat.blt ks.length 900 then (match putV r1 i (.o cl (fput k u ks us).1 (fput k u ks us).2) with
      | some r2 => .nx r2
      | none => .bad) else .bad
    | _ => .bad)
  | .par i j a b, r => (s.E a r).toS fun x r1 => (s.E b r1).toS fun y r2 => match (setV r2 i (.d x)).bind fun r3 => setV r3 j (.d y) with
    | some r4 => .nx r4
    | none => .bad
  | .par2 i j a b, r => (s.U a r).toS fun x r1 => (s.U b r1).toS fun y r2 => match (setV r2 i x).bind fun r3 => setV r3 j y with
    | some r4 => .nx r4
    | none => .bad
  | .sub i k e, r => (s.E e r).toS fun v r1 => (match lookU r1 i with
    | some (.l _) => (s.E k r1).toS fun n r2 => putS i v n r2
    | _ => .bad)
  | .dsub i k e, r => (s.E e r).toS fun v r1 => (match lookU r1 i with
    | some (.c _ _) => (s.E k r1).toS fun n r2 => dputS i v n r2
    | _ => .bad)
  | .ret x, r => (s.U x r).toS fun u r1 => .rt u r1
  | .ifs t a b, r => (s.T t r).toS fun c r1 => if c then s.S a r1 else s.S b r1
  | .for g it body, r => (stepI s it r).toS fun k r1 => if k.ks.isEmpty then forL (fun w r2 => match bindG g w r2 with
      | some r3 => s.S body r3
      | none => .bad) k.ws r1 else .bad
  | .whl t body, r => s.Wh t body r
  | .lc b i elt g own it t, r => (compM s elt g own it t r).toS fun ws r1 => match setV r1 i (if b then .l (ws.map U.d) else .d (.lis ws)) with
    | some r2 => .nx r2
    | none => .bad
  | .rse c k e, r => (match k, e with
    | some k, some e => (s.E e r).toS fun w r1 => .ex ⟨c, [k], [w]⟩ r1
    | none, none => .ex ⟨c, [], []⟩ r
    | _, _ => .bad)
  | .try body cs no i h, r => (match s.S body r with
    | .ex x r1 => handle s x r1 cs no i h
    | y => y)
  | .mat e cs, r => (s.E e r).toS fun w r1 => pick s w r1 cs
  | .pass, r => .nx r
  | .brk, r => .bk r
  | .cont, r => .ct r
  | .unk, _ => .bad
def stepSs (s : SF) : List IS → Env → SRes
  | [], r => .nx r
  | st :: sts, r => match stepS s st r with
    | .nx r1 => stepSs s sts r1
    | x => x
def stepWh (s : SF) (t : IT) (body : List IS) (r : Env) : SRes := (s.T t r).toS fun b r1 => if b then (match s.S body r1 with
    | .nx r2 => s.Wh t body r2
    | .ct r2 => s.Wh t body r2
    | .bk r2 => .nx r2
    | x => x) else .nx r1
def lvl (c : CF) : Nat → SF
  | 0 => SF.bot
  | n + 1 => ⟨stepE c (lvl c n), stepV (lvl c n), stepT (lvl c n), stepU c (lvl c n), stepSs (lvl c n), stepWh (lvl c n)⟩

/-- a def: how many parameters, how many names in all, its body -/
structure FD where
  ar : Nat
  sl : Nat
  body : List IS
def pad : Nat → Env
  | 0 => []
  | n + 1 => .no :: pad n
/-- what was lent, as it is at the end -/
def outs : List En → Env → Option (List U)
  | [], _ => some []
  | .t _ :: es, .t u :: r => (outs es r).map (u :: ·)
  | .t _ :: _, _ => none
  | _ :: es, _ :: r => outs es r
  | _ :: _, [] => none
def SRes.val (es : List En) : SRes → CRes
  | .nx r => (match outs es r with
    | some os => .ok (.d .non) os
    | none => .bad)
  | .rt u r => (match outs es r with
    | some os => .ok u os
    | none => .bad)
  | .ex x r => (match outs es r with
    | some os => .ex x os
    | none => .bad)
  | _ => .bad
/-- a def called, d calls deep at most; F the fuel of a body -/
def callF (P : List FD) (F : Nat) : Nat → CF
  | 0 => fun _ _ => .bad
  | d + 1 => fun f es => match nth P f with
    | none => .bad
    | some fd => if Nat.beq es.length fd.ar then ((lvl (callF P F d) F).S fd.body (es ++ pad (fd.sl - fd.ar))).val es else .bad
end FM


set_option Elab.async false
set_option linter.all false
set_option maxRecDepth 100000
set_option maxHeartbeats 2000000
/-! New tuples are kept whole: the very object is known, and that it has no dict. -/
namespace FM
open PySem L2 PySem.Spec PyProof.Rows
/-- laid by its object -/
theorem laidT {X : Cx} {pins : List (Addr × Obj)} {σ : L2.St} {H : Hp} {s : Shared} {h' : Heap} {tk : Nat} {p : Addr} {ob : Obj} {xs : List V} {us : List Value} (I : Inv X pins σ H s) (kp : ∀ b u, s.heap.get? b = some u → h'.get? b = some u) (hp : s.heap.objs.size ≤ p)
    (e : h'.get? p = some ob) (hc : ob.cls = .type "tuple") (hd : ∃ n, ob.data = .seq us.toArray n) (r : Vals xs us) (z : xs.length ≤ sizeLine) : Inv X pins σ (upd H p (.frz ob (.tup xs))) { s with heap := h', toks := tk } := by
  obtain ⟨n, hd⟩ := hd
  exact I.laid (t' := tk) kp hp ⟨e, z, us, r, ob, e, hc, n, hd⟩
/-- what is wanted where a new tuple is made -/
def NT (H : Hp) (xs : List V) (Q : VK) : Prop := ∀ p ob, H p = none → ob.dict = none → Q (.ref p) (upd H p (.frz ob (.tup xs)))
def tTupD (t : TA) : TE := fun σ H Q => t σ H fun xs H1 => xs.length ≤ sizeLine ∧ NT H1 xs Q
section
variable {X : Cx} {es : List Expr} {pos : Pos}
theorem pe_tupD {t : TA} {x1} (h : PA X es t) : PE X (.Tuple es x1 pos) (tTupD t) := by
  constructor
  intro pins s σ H Q I hq
  refine wpAny_Tuple_spliced (thn (h.run pos pins s σ H _ I hq) ?_)
  rintro us s1 ⟨xs, H1, I1, r, z, q⟩
  refine ⟨by rw [← r.length]; exact z, .ref s1.heap.objs.size, _, laidT (tk := s1.toks) I1 (fun b u e => Heap.get?_push_of_some _ e) (Nat.le_refl _) (Heap.get?_push_size _ rfl) rfl ⟨_, rfl⟩ r z, rfl, q _ _ (I1.hok.fresh (Nat.le_refl _)) rfl⟩
def rCatD (K : PySem.W.Frag) : R2 := fun x y H Q => ∃ a b xs ys, x = .ref a ∧ y = .ref b ∧ SqT K H a xs ∧ SqT K H b ys ∧ xs.length + ys.length ≤ sizeLine ∧ (xs = [] → Q (.ref b) H) ∧ (xs ≠ [] → ys = [] → Q (.ref a) H) ∧ (xs ≠ [] → ys ≠ [] → NT H (xs ++ ys) Q)
theorem op_catD : OpR X (binaryOp .Add) (rCatD X.K) := by
  intro pins s σ H x y v u Q I rx ry hyp
  obtain ⟨a, b, xs, ys, rfl, rfl, ha, hb, hz, q0, q1, q2⟩ := hyp
  cases rx
  cases ry
  obtain ⟨u1, r1, p1, _⟩ := I.tuple ha
  obtain ⟨u2, r2, p2, _⟩ := I.tuple hb
  by_cases hx : xs = []
  · subst hx
    cases r1
    exact cat_tup0 p1 p2 ⟨.ref b, H, I, rfl, q0 rfl⟩
  · refine HT.cat_tup p1 p2 (fun z => hx (r1.nil_iff.mp z)) (fun z => ⟨.ref a, H, I, rfl, q1 hx (r2.nil_iff.mp z)⟩) (fun z => ⟨.ref s.heap.objs.size, _, laidT (tk := s.toks) I (fun b ob q => Heap.get?_push_of_some _ q) (Nat.le_refl _) (Heap.get?_push_size _ rfl) rfl ⟨_, rfl⟩ (r1.append r2) (by rw [List.length_append]; exact hz), rfl, ?_⟩) (by rw [← r1.length, ← r2.length]; exact hz)
    exact q2 hx (fun z' => z (r2.nil_iff.mpr z')) _ _ (I.hok.fresh (Nat.le_refl _)) rfl
def rSlD (K : PySem.W.Frag) : V → Option Int → Option Int → Hp → VK → Prop := fun x lo hi H Q => ∃ a xs, x = .ref a ∧ SqT K H a xs ∧ (HT.sIx xs.length 0 lo = 0 ∧ HT.sIx xs.length xs.length hi = xs.length → Q (.ref a) H) ∧
  (¬ (HT.sIx xs.length 0 lo = 0 ∧ HT.sIx xs.length xs.length hi = xs.length) → NT H (cutV xs lo hi) Q)
theorem sl_tupD : SlR X (rSlD X.K) := by
  intro pins s σ H x v vl vu lo hi sl Q I rx hs pl pu hyp
  obtain ⟨a, xs, rfl, hx, q1, q2⟩ := hyp
  cases rx
  obtain ⟨us, r, ht, hz⟩ := I.tuple hx
  have len : us.toArray.size = xs.length := by rw [List.size_toArray]; exact r.length.symm
  refine ⟨"tuple", _, PyProof.Rows.slot_tuple_getitem.lookup, ht.typeIs, ?_⟩
  by_cases hw : HT.sIx xs.length 0 lo = 0 ∧ HT.sIx xs.length xs.length hi = xs.length
  · exact getItem_tuple_whole ht hs pl pu (by rw [len]; exact hw) ⟨.ref a, H, I, rfl, q1 hw⟩
  · refine HT.getItem_tuple_cut ht hs pl pu (by rw [len]; exact hw) ?_ (by rw [len]; exact hz)
    rw [len]
    refine ⟨.ref s.heap.objs.size, _, laidT (xs := cutV xs lo hi) (tk := s.toks) I (fun b ob q => Heap.get?_push_of_some _ q) (Nat.le_refl _) (Heap.get?_push_size _ rfl) rfl ⟨_, rfl⟩ ((r.drop (HT.sIx xs.length 0 lo)).take _) (Nat.le_trans (cutV_length xs lo hi) hz), rfl, q2 hw _ _ (I.hok.fresh (Nat.le_refl _)) rfl⟩
def rTupD (K : PySem.W.Frag) : List V → Hp → VK → Prop := fun vs H Q => ∃ p xs, vs = [.ref p] ∧ ((SqL K H p xs ∧ NT H xs Q) ∨ (SqT K H p xs ∧ Q (.ref p) H))
theorem cr_tupD : CallR X (.type "tuple") (rTupD X.K) := by
  intro pins s σ H vs us Q I r hyp
  obtain ⟨p, xs, rfl, hyp⟩ := hyp
  obtain ⟨v, rfl, rv⟩ := vals1 r
  cases rv
  rcases hyp with ⟨hs, q⟩ | ⟨hs, q⟩
  · obtain ⟨us, rv, pl, hz⟩ := I.list hs
    refine call_tuple_list pl.isList (fun h' hk => ?_) (by rw [List.size_toArray, ← rv.length]; exact hz)
    have I3 : Inv X pins σ H { s with heap := h' } := I.kept (t' := s.toks) hk
    have I4 := laidT (s := { s with heap := h' }) (tk := s.toks) I3 (h' := h'.push { cls := .type "tuple", data := .seq us.toArray }) (fun b o e => Heap.get?_push_of_some _ e) (Nat.le_refl _) (Heap.get?_push_size _ rfl) rfl ⟨_, rfl⟩ rv hz
    exact ⟨.ref h'.objs.size, _, I4, rfl, q _ _ (I3.hok.fresh (Nat.le_refl _)) rfl⟩
  · obtain ⟨us, rv, pl, hz⟩ := I.tuple hs
    exact call_tuple_tup pl ⟨.ref p, H, I, rfl, q⟩
def rRepD (K : PySem.W.Frag) : R2 := fun x y H Q => ∃ l k xs, x = .ref l ∧ y = .int k ∧ SqT K H l xs ∧ xs ≠ [] ∧ 2 ≤ k ∧ k ≤ 1000 ∧ xs.length ≤ 1000 ∧ NT H (List.replicate k.toNat xs).flatten Q
theorem op_repD : OpR X (binaryOp .Mult) (rRepD X.K) := by
  intro pins s σ H x y v u Q I rx ry hyp
  obtain ⟨l, k, xs, rfl, rfl, hT, hne, k1, k2, hz, q⟩ := hyp
  cases rx
  obtain ⟨t, rfl⟩ := ry
  obtain ⟨us, r, ⟨⟨cl, dd, da, sl⟩, ho, hc, n, hd⟩, hs⟩ := I.tuple hT
  simp only at hc hd
  subst hc hd
  have le := r.length
  have em : us.toArray.isEmpty = false := by
    cases us with
    | nil => exact absurd (List.eq_nil_of_length_eq_zero le) hne
    | cons _ _ => rfl
  have sz0 : us.toArray.size = xs.length := by rw [List.size_toArray, le]
  have prod : k.toNat * xs.length ≤ 1000 * 1000 := Nat.mul_le_mul (by omega) hz
  have prodI : ((us.toArray.size : Nat) : Int) * k ≤ 1000000 := by
    rw [sz0]
    have := Int.mul_le_mul_of_nonneg_right (show ((xs.length : Nat) : Int) ≤ 1000 by omega) (show 0 ≤ k by omega)
    omega
  have fl : (List.replicate k.toNat us).flatten.length ≤ sizeLine := by
    rw [PyProof.Rows.lm_len_rep_flat, ← le, sizeLine_eq]; omega
  have d0 : (decide (k < -(2 ^ 63)) || decide (k ≥ 2 ^ 63)) = false := by simp; omega
  have d1 : (us.toArray.isEmpty || k == 1) = false := by rw [em]; simp; omega
  have d2 : (decide (k ≤ 0) || us.toArray.isEmpty) = false := by rw [em]; simp; omega
  have d4 : Builtin.Tuple.tupleTooMany (((us.toArray.size : Nat) : Int) * k) = false := by
    unfold Builtin.Tuple.tupleTooMany
    rw [sizeLine_eq]
    exact decide_eq_false (by omega)
  have mulM := tuple_mulW l us.toArray n dd sl k t d0 d1 d2 (by omega) d4 (by rw [size_rep, List.size_toArray]; exact fl)
  refine wpAny_binaryOp_repeat_ref (T := "tuple") (U := "int") (by decide) ⟨_, ho, rfl⟩ (fun s' => typeIs_int s' k t) noFill_tuple_mul F.fills_int_mul F.slot_int_rmul repeat_tuple F.slot_int_index.lookup (call_meets F.slot_int_rmul (typeIs_int s k t) F.entry_int_rmul (F.args_int_rmul_2 _ _) (int_rmul_tuple k t l us.toArray n dd sl) ⟨ho, rfl, ⟨_, ho, rfl⟩, ?_⟩)
  refine call_meets F.slot_tuple_mul ⟨_, ho, rfl⟩ F.entry_tuple_mul (F.args_tuple_mul_2 _ _) mulM ⟨ho, ?_⟩
  rw [size_rep]
  exact ⟨.ref s.heap.objs.size, _, laidT (tk := s.toks) I (fun b ob q => Heap.get?_push_of_some _ q) (Nat.le_refl _) (Heap.get?_push_size _ rfl) rfl ⟨_, rfl⟩ (r.rep k.toNat) (by rw [PyProof.Rows.lm_len_rep_flat, sizeLine_eq]; omega), rfl, q _ _ (I.hok.fresh (Nat.le_refl _)) rfl⟩
/-- .. and records of ours have turned -/
theorem turnedT {pins : List (Addr × Obj)} {σ : L2.St} {H : Hp} {s : Shared} {h' : Heap} {tk : Nat} {ch : List Addr} {p : Addr} {ob : Obj} {xs : List V} {us : List Value} (I : Inv X pins σ H s) (kp : ∀ b o, b ∉ ch → s.heap.get? b = some o → h'.get? b = some o) (hf : ∀ b ∈ ch, FpOk X pins H b) (hp : s.heap.objs.size ≤ p)
    (e : h'.get? p = some ob) (hc : ob.cls = .type "tuple") (hd : ∃ n, ob.data = .seq us.toArray n) (r : Vals xs us) (z : xs.length ≤ sizeLine) : Inv X pins σ (upd H p (.frz ob (.tup xs))) { s with heap := h', toks := tk } := by
  obtain ⟨n, hd⟩ := hd
  exact I.turnedNew (t' := tk) kp hf hp ⟨e, z, us, r, ob, e, hc, n, hd⟩
end
/-- a pair that is new -/
def NewP (H : Hp) (v : V) (H' : Hp) (x y : V) : Prop := ∃ T ob, v = .ref T ∧ H T = none ∧ ob.dict = none ∧ H' = upd H T (.frz ob (.tup [x, y]))
/-- enumerate of the list at a, as it stands at each turn -/
def IelD (K : PySem.W.Frag) (a : Addr) : It :=
  ⟨fun i H => ∃ (xs : List V) (x : V), SqL K H a xs ∧ xs[i]? = some x, fun i H v H' => ∃ x, NewP H v H' (.int (i : Nat)) x ∧ ∀ xs, SqL K H a xs → xs[i]? = some x, fun i H => ∃ xs : List V, SqL K H a xs ∧ xs.length ≤ i⟩
theorem two_len : (2 : Nat) ≤ sizeLine := by rw [sizeLine_eq]; omega
theorem turn_enmL {P : Program} {w : World} {K : PySem.W.Frag} {elts : List Expr} {kk : Nat} {tpos : Pos} (a e it : Addr) (nei : e ≠ it) :
    Turn P w K (.Tuple elts kk tpos) (IelD K a) [e, it] e (fun i h => (∃ old, IsEnum h e it ((i : Nat) : Int) old) ∧ h.IsListIter it a i) where
  mem := List.mem_cons_self
  obj := fun i h st b hb => by
    obtain ⟨⟨old, he⟩, o, ho, hc, hd⟩ := st
    rcases List.mem_cons.mp hb with z | z
    · subst z; exact ⟨_, he, fun v q => nomatch q⟩
    · rw [List.mem_singleton.mp z]; exact ⟨o, ho, fun v q => by rw [hd] at q; cases q⟩
  keep := fun i h h' st k => by
    obtain ⟨⟨old, he⟩, hi⟩ := st
    exact ⟨⟨old, k e List.mem_cons_self _ he⟩, hi.at fun o q => k it (List.mem_cons_of_mem _ List.mem_cons_self) o q⟩
  item := by
    intro X hP hw hK hc i pins s σ H E I hf st hg
    subst hP hw hK
    obtain ⟨⟨old, he⟩, hit⟩ := st
    obtain ⟨xs, x, hq, hx⟩ := hg
    obtain ⟨its, rv, tp, hz⟩ := I.list hq
    obtain ⟨u, hu, ru⟩ := rv.get hx
    have el : e < s.heap.objs.size := Heap.lt_size he
    have il : it < s.heap.objs.size := by obtain ⟨_, q, _⟩ := hit; exact Heap.lt_size q
    have hu' : its.toArray[i]? = some u := by simpa using hu
    refine wpAny_pyNext_enum_item he hit tp.isList hu' nei fun h1 ho ht hT hsz hk => ?_
    refine ⟨_, rfl, wpAny_letOwnedTupleGo_enum (s := { s with heap := h1, toks := s.toks + 1 }) ho fun h2 he2 sb => ?_⟩
    have hT2 := (sb.2 _ (Nat.ne_of_gt el)).trans hT
    have I1 := turnedT (tk := s.toks + 1) (h' := h2) (xs := [.int (i : Nat), x]) (us := [.int i s.toks, u]) I (ch := [e, it]) (fun b ob hb q => by
      have nb : b ≠ e ∧ b ≠ it := ⟨fun z => hb (by rw [z]; exact List.mem_cons_self), fun z => hb (by rw [z]; exact List.mem_cons_of_mem _ List.mem_cons_self)⟩
      exact (sb.2 b nb.1).trans (hk b ob nb.1 nb.2 q)) hf (Nat.le_refl _) hT2 rfl ⟨_, rfl⟩ (.cons ⟨_, rfl⟩ (.cons ru .nil)) two_len
    refine ⟨.ref s.heap.objs.size, _, I1, rfl, ⟨x, ⟨_, _, rfl, I.hok.fresh (Nat.le_refl _), rfl, rfl⟩, fun ys hy => by rw [I.list_inj hy hq]; exact hx⟩, ⟨⟨u, ?_⟩, ht.at fun o q => (sb.2 it (Ne.symm nei)).trans q⟩, fun b hb => ?_⟩
    · have e1 : ((i + 1 : Nat) : Int) = (i : Int) + 1 := Int.natCast_succ i
      rw [e1]; exact he2
    · have bl : b < s.heap.objs.size := by
        rcases List.mem_cons.mp hb with z | z
        · rw [z]; exact el
        · rw [List.mem_singleton.mp z]; exact il
      rw [upd_ne (Nat.ne_of_lt bl)]
      exact (hf b hb).1
  done := by
    intro X hP hw hK hc i pins s σ H E I hf st hg
    subst hP hw hK
    obtain ⟨⟨old, he⟩, hit⟩ := st
    obtain ⟨xs, hq, hx⟩ := hg
    obtain ⟨its, rv, tp, hz⟩ := I.list hq
    obtain ⟨f0, f1, f2, f3, f4, f5⟩ := hf it (List.mem_cons_of_mem _ List.mem_cons_self)
    have hl := rv.length
    refine wpAny_pyNext_enum_end (I.ok.hd hc) he hit tp.isList (by simp; omega) fun h1 eb => ?_
    exact ⟨rfl, I.turned (t' := s.toks) (fun b o hb q => eb b o hb q) f0 f1 f3 f4 f5⟩
  self := fun A i s Q E st h => by
    obtain ⟨⟨_, he⟩, _⟩ := st
    exact wpAny_pyIter_enum he h
def iEnmL (K : PySem.W.Frag) (ta : TA) : TI := fun σ H R => ta σ H fun vs H1 => ∃ a xs, vs = [.ref a] ∧ SqL K H1 a xs ∧ R (IelD K a) H1
theorem pi_enmL {X : Cx} {e : Expr} {ta : TA} {p pos tpos : Pos} {elts : List Expr} {kk : Nat} (hg : Gl X "enumerate") (hm : X.mg "enumerate" = none) (ha : PA X [e] ta) (hs : starEach [e] X.env = [(false, eval e X.env)]) :
    PI X (.Tuple elts kk tpos) (.Call (.Name "enumerate" p) [e] [] pos) (iEnmL X.K ta) := by
  refine ⟨fun pins s σ H R I h => Call_ (ld_blt I hg hm boot_enumerate (PyProof.Rows.callWith_type1 (thn (ha.run pos pins s σ H _ I h) fun us s1 ⟨vs, H1, I1, r1, q1⟩ => ?_) hs rfl))⟩
  obtain ⟨a, xs, rfl, hq, q⟩ := q1
  cases r1 with
  | cons r rr =>
    cases rr
    cases r
    obtain ⟨its, rv, tp, hz⟩ := I1.list hq
    refine call_enumerate_list tp.isList fun h1 he hit hsz hk => wpAny_pyIter_enum he ?_
    have I2 : Inv X pins σ H1 { s1 with heap := h1 } := I1.kept (t' := s1.toks) hk
    refine ⟨s1.heap.objs.size + 1, [s1.heap.objs.size + 1, s1.heap.objs.size], _, _, H1, rfl, I2, turn_enmL a (s1.heap.objs.size + 1) s1.heap.objs.size (Nat.succ_ne_self _), ⟨⟨.none, he⟩, hit⟩, fun b hb => ?_, q⟩
    have hle : s1.heap.objs.size ≤ b := by
      rcases List.mem_cons.mp hb with z | z
      · rw [z]; exact Nat.le_succ _
      · rw [List.mem_singleton.mp z]; exact Nat.le_refl _
    exact I1.fpOk hle (I1.hok.fresh hle)
/-- zip of the lists at a and b -/
def IzD (K : PySem.W.Frag) (a b : Addr) : It :=
  ⟨fun i H => ∃ (xs ys : List V) (x y : V), SqL K H a xs ∧ SqL K H b ys ∧ xs[i]? = some x ∧ ys[i]? = some y,
    fun i H v H' => ∃ x y, NewP H v H' x y ∧ (∀ xs, SqL K H a xs → xs[i]? = some x) ∧ ∀ ys, SqL K H b ys → ys[i]? = some y,
    fun i H => ∃ xs ys : List V, SqL K H a xs ∧ SqL K H b ys ∧ (xs.length ≤ i ∨ ys.length ≤ i)⟩
theorem turn_zipD {P : Program} {w : World} {K : PySem.W.Frag} {elts : List Expr} {kk : Nat} {tpos : Pos} {a b z TI TO i1 i2 : Addr} (D : ZipApart z TI TO i1 i2 a b) :
    Turn P w K (.Tuple elts kk tpos) (IzD K a b) [z, TI, TO, i1, i2] z (fun i h => IsZip h z TI TO .none ∧ IsPair h TI (.ref i1) (.ref i2) ∧ (∃ x y, IsPair h TO x y) ∧ h.IsListIter i1 a i ∧ h.IsListIter i2 b i) where
  mem := List.mem_cons_self
  obj := (turn_zip (P := P) (w := w) (K := K) (elts := elts) (kk := kk) (tpos := tpos) D).obj
  keep := (turn_zip (P := P) (w := w) (K := K) (elts := elts) (kk := kk) (tpos := tpos) D).keep
  item := by
    intro X hP hw hK hc i pins s σ H E I hf st hg
    have lives := fun c hcm => Heap.lt_size ((turn_zip (P := P) (w := w) (K := K) (elts := elts) (kk := kk) (tpos := tpos) D).obj i s.heap st c hcm).choose_spec.1
    subst hP hw hK
    obtain ⟨hz, hTI, ⟨x0, y0, hTO⟩, l1, l2⟩ := st
    obtain ⟨xs, ys, x, y, hqx, hqy, hx, hy⟩ := hg
    obtain ⟨us, rv, tp, _⟩ := I.list hqx
    obtain ⟨us2, rv2, tp2, _⟩ := I.list hqy
    obtain ⟨u, hu, ru⟩ := rv.get hx
    obtain ⟨u2, hu2, ru2⟩ := rv2.get hy
    refine wpAny_pyNext_zip_item D hz hTI hTO l1 l2 tp.isList tp2.isList (x := u) (y := u2) (by simpa using hu) (by simpa using hu2) fun h1 z' TO' l1' l2' hT hsz hk => ?_
    refine ⟨_, rfl, wpAny_letOwnedTupleGo_zip (s := { s with heap := h1 }) z' fun h2 z2 sb => ?_⟩
    have hT2 := (sb.2 _ (Nat.ne_of_gt (Heap.lt_size hz))).trans hT
    have I1 := turnedT (tk := s.toks) (h' := h2) (xs := [x, y]) (us := [u, u2]) I (ch := [z, TI, TO, i1, i2]) (fun c o hb q => by
      have n0 : ∀ d ∈ [z, TI, TO, i1, i2], c ≠ d := fun d hd e => hb (by rw [e]; exact hd)
      exact (sb.2 c (n0 z (by simp))).trans (hk c o (n0 _ (by simp)) (n0 _ (by simp)) (n0 _ (by simp)) (n0 _ (by simp)) q)) hf (Nat.le_refl _) hT2 rfl ⟨_, rfl⟩ (.cons ru (.cons ru2 .nil)) two_len
    refine ⟨.ref s.heap.objs.size, _, I1, rfl, ⟨x, y, ⟨_, _, rfl, I.hok.fresh (Nat.le_refl _), rfl, rfl⟩, fun l hl => by rw [I.list_inj hl hqx]; exact hx, fun l hl => by rw [I.list_inj hl hqy]; exact hy⟩, ⟨z2, (sb.2 _ D.TIz).trans (hk _ _ D.TIz D.TITO D.TIi1 D.TIi2 hTI), ⟨u, u2, (sb.2 _ D.TOz).trans TO'⟩, l1'.at fun o q => (sb.2 _ D.i1z).trans q, l2'.at fun o q => (sb.2 _ D.i2z).trans q⟩, fun c hcm => ?_⟩
    rw [upd_ne (Nat.ne_of_lt (lives c hcm))]
    exact (hf c hcm).1
  done := (turn_zip (P := P) (w := w) (K := K) (elts := elts) (kk := kk) (tpos := tpos) D).done
  self := (turn_zip (P := P) (w := w) (K := K) (elts := elts) (kk := kk) (tpos := tpos) D).self
def iZipD (K : PySem.W.Frag) (ta : TA) : TI := fun σ H R => ta σ H fun vs H1 => ∃ a b xs ys, vs = [.ref a, .ref b] ∧ SqL K H1 a xs ∧ SqL K H1 b ys ∧ R (IzD K a b) H1
theorem pi_zipD {X : Cx} {e e2 : Expr} {ta : TA} {p pos tpos : Pos} {elts : List Expr} {kk : Nat} (hg : Gl X "zip") (hm : X.mg "zip" = none) (ha : PA X [e, e2] ta) (hs : starEach [e, e2] X.env = (false, eval e X.env) :: starEach [e2] X.env) (hpl : (backTo pos (starEach [e2] X.env)).any (·.1) = false) :
    PI X (.Tuple elts kk tpos) (.Call (.Name "zip" p) [e, e2] [] pos) (iZipD X.K ta) := by
  refine ⟨fun pins s σ H R I h => Call_ (ld_blt I hg hm PyProof.Rows.boot_zip (PyProof.Rows.callWith_type1 (thn (ha.run pos pins s σ H _ I h) fun us s1 ⟨vs, H1, I1, r1, q1⟩ => ?_) hs hpl))⟩
  obtain ⟨a, b, xs, ys, rfl, hqx, hqy, q⟩ := q1
  cases r1 with
  | cons r rr =>
    cases rr with
    | cons r' rr =>
      cases rr
      cases r
      cases r'
      obtain ⟨its, rv, p1, _⟩ := I1.list hqx
      obtain ⟨its2, rv2, p2, _⟩ := I1.list hqy
      refine call_zip_2 p1.isList p2.isList fun h1 hz hTI hTO l1 l2 hsz hk => wpAny_pyIter_zip hz ?_
      have I2 : Inv X pins σ H1 { s1 with heap := h1 } := I1.kept (t' := s1.toks) hk
      refine ⟨s1.heap.objs.size + 4, [s1.heap.objs.size + 4, s1.heap.objs.size + 2, s1.heap.objs.size + 3, s1.heap.objs.size, s1.heap.objs.size + 1], _, _, H1, rfl, I2, turn_zipD (PySem.W.ktu_apart s1.heap.objs.size a b p1.lt p2.lt), ⟨hz, hTI, ⟨_, _, hTO⟩, l1, l2⟩, fun c hcm => ?_, q⟩
      have hle : s1.heap.objs.size ≤ c := by
        simp only [List.mem_cons, List.not_mem_nil, or_false] at hcm
        rcases hcm with z | z | z | z | z <;> rw [z] <;> first | exact Nat.le_add_right _ _ | exact Nat.le_refl _
      exact I1.fpOk hle (I1.hok.fresh hle)
end FM


set_option Elab.async false
set_option linter.all false
set_option maxRecDepth 100000
set_option maxHeartbeats 2000000
/-! What values and names stand for in the layer's heap, and how both go on together. -/
namespace FM
open PySem L2

def sv (s : List Nat) : Str := ⟨s.toArray⟩
theorem sv_list (s : List Nat) : (sv s).cps.toList = s := by simp [sv]
theorem sv_inj {a b : List Nat} (h : sv a = sv b) : a = b := by
  have := congrArg (fun x : Str => x.cps.toList) h
  simpa [sv] using this
theorem sv_len (s : List Nat) : (sv s).length = s.length := by simp [sv, Str.length]
theorem sv_of (x : Str) : x = sv x.cps.toList := by
  obtain ⟨c⟩ := x
  simp [sv]
/-! names of fields as numbers: their codes, by 256, the first one the least -/
def digF : Nat → Nat → List Nat
  | 0, _ => []
  | f + 1, n => if Nat.beq n 0 then [] else n % 256 :: digF f (n / 256)
def nmS (n : Nat) : Str := sv (digF 64 n)

def ofD : List Nat → Nat
  | [] => 0
  | d :: r => d + 256 * ofD r
theorem ofD_digF : ∀ (f n : Nat), n < 256 ^ f → ofD (digF f n) = n
  | 0, n, h => by
    have : n = 0 := by simpa using h
    subst this; rfl
  | f + 1, n, h => by
    unfold digF
    split
    · rename_i h0
      have := Nat.eq_of_beq_eq_true h0
      subst this; rfl
    · show n % 256 + 256 * ofD (digF f (n / 256)) = n
      rw [ofD_digF f (n / 256) (by rw [Nat.pow_succ] at h; omega)]
      omega
theorem nmS_inj {a b : Nat} (ha : a < 2 ^ 512) (hb : b < 2 ^ 512) (h : nmS a = nmS b) : a = b := by
  have h := congrArg ofD (sv_inj h)
  have e : (2 : Nat) ^ 512 = 256 ^ 64 := by decide +kernel
  rw [e] at ha hb
  rwa [ofD_digF 64 a ha, ofD_digF 64 b hb] at h
/-- the layer's heap; the addresses whose things nobody changes any more -/
structure Sg where
  H : Hp
  L : Addr → Prop
/-- the written part; where the classes stand -/
structure Kx where
  K : PySem.W.Frag
  ca : Nat → Addr
def KLst (K : PySem.W.Frag) (a : Addr) (xs : List V) : Prop := ∃ (o : Obj) (its : Array Value) (n : Nat), K.lookup a = some o ∧ o.cls = .type "list" ∧ o.dict = none ∧ o.data = .seq its n ∧ its.size ≤ sizeLine ∧ Vals xs its.toList
def keyR : W → Key → Prop
  | .int i, k => k = Sum.inl i
  | .str s, k => k = Sum.inr (sv s)
  | _, _ => False
def KeysR : List W → List Key → Prop
  | [], ks => ks = []
  | w :: ws, ks => ∃ k r, ks = k :: r ∧ keyR w k ∧ KeysR ws r
section
variable (Z : Kx) (g : Sg)
/-- a list of items at a, as it is -/
def DicR (a : Addr) (ks : List W) (xs : List V) : Prop := ∃ ys : List (Key × V), g.H a = some (.dK ys) ∧ KeysR ks (ys.map (·.1)) ∧ ys.map (·.2) = xs
def ObjR (a : Addr) (c : Nat) (ks : List Nat) (xs : List V) : Prop := ∃ dx fs, g.H a = some (.ins (Z.ca c) dx fs) ∧ fs.map (·.1) = ks.map nmS ∧ fs.map (·.2) = xs ∧ ∀ k ∈ ks, k < 2 ^ 512
/-- a list from outside -/
def ScrR (a : Addr) (xs : List V) : Prop := (∃ o, g.H a = some (.frz o (.lst xs))) ∨ KLst Z.K a xs
/-- a tuple whose object has no dict -/
def TupD (K : PySem.W.Frag) (H : Hp) (a : Addr) : Prop := (∃ o xs, H a = some (.frz o (.tup xs)) ∧ o.dict = none) ∨ ∃ o, K.lookup a = some o ∧ o.dict = none
def SqD (K : PySem.W.Frag) (H : Hp) (a : Addr) (xs : List V) : Prop := SqT K H a xs ∧ TupD K H a
mutual
def RW : W → V → Prop
  | .non, v => v = .non
  | .bl b, v => v = .bl b
  | .int i, v => v = .int i
  | .str s, v => v = .str (sv s)
  | .tup ws, v => ∃ a xs, v = .ref a ∧ SqD Z.K g.H a xs ∧ RWs ws xs
  | .lis ws, v => ∃ a xs, v = .ref a ∧ g.L a ∧ g.H a = some (.lst xs) ∧ RWs ws xs
  | .dic ks ws, v => ∃ a xs, v = .ref a ∧ g.L a ∧ DicR g a ks xs ∧ RWs ws xs
  | .obj c ks ws, v => ∃ a xs, v = .ref a ∧ g.L a ∧ ObjR Z g a c ks xs ∧ RWs ws xs
  | .scr ws, v => ∃ a xs, v = .ref a ∧ ScrR Z g a xs ∧ RWs ws xs
def RWs : List W → List V → Prop
  | [], xs => xs = []
  | w :: ws, xs => ∃ x r, xs = x :: r ∧ RW w x ∧ RWs ws r
end
mutual
/-- a thing that is owned, and all its addresses -/
def OU : U → V → List Addr → Prop
  | .d w, v, fp => fp = [] ∧ RW Z g w v
  | .l us, v, fp => ∃ a xs fs, v = .ref a ∧ g.H a = some (.lst xs) ∧ OUs us xs fs ∧ fp = a :: fs
  | .c ks us, v, fp => ∃ a xs fs, v = .ref a ∧ DicR g a ks xs ∧ OUs us xs fs ∧ fp = a :: fs
  | .o c ks us, v, fp => ∃ a xs fs, v = .ref a ∧ ObjR Z g a c ks xs ∧ OUs us xs fs ∧ fp = a :: fs
def OUs : List U → List V → List Addr → Prop
  | [], xs, fp => xs = [] ∧ fp = []
  | u :: us, xs, fp => ∃ x r f1 f2, xs = x :: r ∧ OU u x f1 ∧ OUs us r f2 ∧ fp = f1 ++ f2
end
end
abbrev Fp := Nat → List Addr
/-- from g, where the names own F, to g', where they own F' -/
structure Go (g : Sg) (F : Fp) (g' : Sg) (F' : Fp) : Prop where
  l : ∀ a, g.L a → g'.L a
  k : ∀ b o, g.H b = some o → (∀ i, b ∉ F i) → g'.H b = some o
  a : ∀ b, g'.H b = none → g.H b = none
  n : ∀ b, g'.L b → g.L b ∨ g.H b = none ∨ ∃ i, b ∈ F i
  s : ∀ i b, b ∈ F' i → g.H b = none ∨ ∃ j, b ∈ F j
theorem Go.refl (g : Sg) (F : Fp) : Go g F g F := ⟨fun _ h => h, fun _ _ h _ => h, fun _ h => h, fun _ h => .inl h, fun i b h => .inr ⟨i, h⟩⟩
theorem Go.trans {g g1 g2 : Sg} {F F1 F2 : Fp} (x : Go g F g1 F1) (y : Go g1 F1 g2 F2) : Go g F g2 F2 where
  l := fun a h => y.l a (x.l a h)
  k := fun b o h n => y.k b o (x.k b o h n) fun i hi => by
    rcases x.s i b hi with e | ⟨j, hj⟩
    · rw [h] at e; cases e
    · exact n j hj
  a := fun b h => x.a b (y.a b h)
  n := fun b h => by
    rcases y.n b h with h | h | ⟨i, h⟩
    · exact x.n b h
    · exact .inr (.inl (x.a b h))
    · rcases x.s i b h with e | e
      · exact .inr (.inl e)
      · exact .inr (.inr e)
  s := fun i b h => by
    rcases y.s i b h with h | ⟨j, h⟩
    · exact .inl (x.a b h)
    · exact x.s j b h

/-- data stay -/
structure Kp (Z : Kx) (g g' : Sg) : Prop where
  tup : ∀ {a xs}, SqT Z.K g.H a xs → SqT Z.K g'.H a xs
  li : ∀ a o, g.L a → g.H a = some o → g'.L a ∧ g'.H a = some o
  fr : ∀ a o u, g.H a = some (.frz o u) → g'.H a = some (.frz o u)
theorem Kp.refl {Z : Kx} {g : Sg} : Kp Z g g := ⟨fun h => h, fun _ _ h e => ⟨h, e⟩, fun _ _ _ e => e⟩
theorem Kp.trans {Z : Kx} {g g1 g2 : Sg} (a : Kp Z g g1) (b : Kp Z g1 g2) : Kp Z g g2 := ⟨fun h => b.tup (a.tup h), fun c o l e => let ⟨l1, e1⟩ := a.li c o l e; b.li c o l1 e1, fun c o u e => b.fr c o u (a.fr c o u e)⟩
section
variable {Z : Kx} {g g' : Sg}
theorem ScrR.kp (t : Kp Z g g') {a : Addr} {xs : List V} (h : ScrR Z g a xs) : ScrR Z g' a xs := by
  rcases h with ⟨o, h⟩ | h
  · exact .inl ⟨o, t.fr a _ _ h⟩
  · exact .inr h
theorem SqD.kp (t : Kp Z g g') {a : Addr} {xs : List V} (h : SqD Z.K g.H a xs) : SqD Z.K g'.H a xs := by
  refine ⟨t.tup h.1, ?_⟩
  rcases h.2 with ⟨o, ys, h, hd⟩ | h
  · exact .inl ⟨o, ys, t.fr a _ _ h, hd⟩
  · exact .inr h
mutual
theorem RW.kp (t : Kp Z g g') : ∀ {w : W} {v : V}, RW Z g w v → RW Z g' w v
  | .non, _, h => h
  | .bl _, _, h => h
  | .int _, _, h => h
  | .str _, _, h => h
  | .tup ws, _, h => by
    obtain ⟨a, xs, e, h1, h2⟩ := h
    exact ⟨a, xs, e, h1.kp t, RWs.kp t h2⟩
  | .lis ws, _, h => by
    obtain ⟨a, xs, e, l, h1, h2⟩ := h
    obtain ⟨l1, h1⟩ := t.li a _ l h1
    exact ⟨a, xs, e, l1, h1, RWs.kp t h2⟩
  | .scr ws, _, h => by
    obtain ⟨a, xs, e, h1, h2⟩ := h
    exact ⟨a, xs, e, h1.kp t, RWs.kp t h2⟩
  | .dic ks ws, _, h => by
    obtain ⟨a, xs, e, l, ⟨ys, h1, h3, h4⟩, h2⟩ := h
    obtain ⟨l1, h1⟩ := t.li a _ l h1
    exact ⟨a, xs, e, l1, ⟨ys, h1, h3, h4⟩, RWs.kp t h2⟩
  | .obj c ks ws, _, h => by
    obtain ⟨a, xs, e, l, ⟨dx, fs, h1, h3, h4⟩, h2⟩ := h
    obtain ⟨l1, h1⟩ := t.li a _ l h1
    exact ⟨a, xs, e, l1, ⟨dx, fs, h1, h3, h4⟩, RWs.kp t h2⟩
theorem RWs.kp (t : Kp Z g g') : ∀ {ws : List W} {vs : List V}, RWs Z g ws vs → RWs Z g' ws vs
  | [], _, h => h
  | w :: ws, _, h => by
    obtain ⟨x, r, e, h1, h2⟩ := h
    exact ⟨x, r, e, RW.kp t h1, RWs.kp t h2⟩
end
/-- a thing that may change -/
def mutO : HO → Bool
  | .lst _ => true
  | .dK _ => true
  | .ins _ _ _ => true
  | _ => false
mutual
theorem OU.mu : ∀ {u : U} {v : V} {fp : List Addr} {a : Addr}, OU Z g u v fp → a ∈ fp → ∃ o, g.H a = some o ∧ mutO o = true
  | .d w, _, _, _, h, m => by rw [h.1] at m; cases m
  | .l us, _, _, a, h, m => by
    obtain ⟨b, xs, fs, _, h1, h2, rfl⟩ := h
    rcases List.mem_cons.mp m with rfl | m
    · exact ⟨_, h1, rfl⟩
    · exact OUs.mu h2 m
  | .c ks us, _, _, a, h, m => by
    obtain ⟨b, xs, fs, _, ⟨ys, h1, _⟩, h2, rfl⟩ := h
    rcases List.mem_cons.mp m with rfl | m
    · exact ⟨_, h1, rfl⟩
    · exact OUs.mu h2 m
  | .o c ks us, _, _, a, h, m => by
    obtain ⟨b, xs, fs, _, ⟨dx, gs, h1, _⟩, h2, rfl⟩ := h
    rcases List.mem_cons.mp m with rfl | m
    · exact ⟨_, h1, rfl⟩
    · exact OUs.mu h2 m
theorem OUs.mu : ∀ {u : List U} {v : List V} {fp : List Addr} {a : Addr}, OUs Z g u v fp → a ∈ fp → ∃ o, g.H a = some o ∧ mutO o = true
  | [], _, _, _, h, m => by rw [h.2] at m; cases m
  | u :: us, _, _, a, h, m => by
    obtain ⟨x, r, f1, f2, _, h1, h2, rfl⟩ := h
    rcases List.mem_append.mp m with m | m
    · exact OU.mu h1 m
    · exact OUs.mu h2 m
end
mutual
theorem OU.kp (t : Kp Z g g') : ∀ {u : U} {v : V} {fp : List Addr}, (∀ a ∈ fp, g'.H a = g.H a) → OU Z g u v fp → OU Z g' u v fp
  | .d w, _, _, _, h => ⟨h.1, h.2.kp t⟩
  | .l us, _, _, k, h => by
    obtain ⟨b, xs, fs, e, h1, h2, rfl⟩ := h
    exact ⟨b, xs, fs, e, (k b List.mem_cons_self).trans h1, OUs.kp t (fun a m => k a (List.mem_cons_of_mem _ m)) h2, rfl⟩
  | .c ks us, _, _, k, h => by
    obtain ⟨b, xs, fs, e, ⟨ys, h1, h3⟩, h2, rfl⟩ := h
    exact ⟨b, xs, fs, e, ⟨ys, (k b List.mem_cons_self).trans h1, h3⟩, OUs.kp t (fun a m => k a (List.mem_cons_of_mem _ m)) h2, rfl⟩
  | .o c ks us, _, _, k, h => by
    obtain ⟨b, xs, fs, e, ⟨dx, gs, h1, h3⟩, h2, rfl⟩ := h
    exact ⟨b, xs, fs, e, ⟨dx, gs, (k b List.mem_cons_self).trans h1, h3⟩, OUs.kp t (fun a m => k a (List.mem_cons_of_mem _ m)) h2, rfl⟩
theorem OUs.kp (t : Kp Z g g') : ∀ {u : List U} {v : List V} {fp : List Addr}, (∀ a ∈ fp, g'.H a = g.H a) → OUs Z g u v fp → OUs Z g' u v fp
  | [], _, _, _, h => h
  | u :: us, _, _, k, h => by
    obtain ⟨x, r, f1, f2, e, h1, h2, rfl⟩ := h
    exact ⟨x, r, f1, f2, e, OU.kp t (fun a m => k a (List.mem_append_left _ m)) h1, OUs.kp t (fun a m => k a (List.mem_append_right _ m)) h2, rfl⟩
end
/-! what is owned becomes data -/
mutual
theorem OU.fz (t : Kp Z g g') : ∀ {u : U} {v : V} {fp : List Addr}, (∀ a ∈ fp, g'.L a ∧ g'.H a = g.H a) → OU Z g u v fp → RW Z g' (FM.fz u) v
  | .d w, _, _, _, h => h.2.kp t
  | .l us, _, _, k, h => by
    obtain ⟨b, xs, fs, e, h1, h2, rfl⟩ := h
    obtain ⟨l, q⟩ := k b List.mem_cons_self
    exact ⟨b, xs, e, l, q.trans h1, OUs.fz t (fun a m => k a (List.mem_cons_of_mem _ m)) h2⟩
  | .c ks us, _, _, k, h => by
    obtain ⟨b, xs, fs, e, ⟨ys, h1, h3⟩, h2, rfl⟩ := h
    obtain ⟨l, q⟩ := k b List.mem_cons_self
    exact ⟨b, xs, e, l, ⟨ys, q.trans h1, h3⟩, OUs.fz t (fun a m => k a (List.mem_cons_of_mem _ m)) h2⟩
  | .o c ks us, _, _, k, h => by
    obtain ⟨b, xs, fs, e, ⟨dx, gs, h1, h3⟩, h2, rfl⟩ := h
    obtain ⟨l, q⟩ := k b List.mem_cons_self
    exact ⟨b, xs, e, l, ⟨dx, gs, q.trans h1, h3⟩, OUs.fz t (fun a m => k a (List.mem_cons_of_mem _ m)) h2⟩
theorem OUs.fz (t : Kp Z g g') : ∀ {u : List U} {v : List V} {fp : List Addr}, (∀ a ∈ fp, g'.L a ∧ g'.H a = g.H a) → OUs Z g u v fp → RWs Z g' (FM.fzs u) v
  | [], _, _, _, h => h.1
  | u :: us, _, _, k, h => by
    obtain ⟨x, r, f1, f2, e, h1, h2, rfl⟩ := h
    exact ⟨x, r, e, OU.fz t (fun a m => k a (List.mem_append_left _ m)) h1, OUs.fz t (fun a m => k a (List.mem_append_right _ m)) h2⟩
end

/-! ### names -/
theorem nth_iff {α : Type} : ∀ {l : List α} {i : Nat}, nth l i = l[i]?
  | [], i => by simp [nth]
  | o :: r, 0 => by simp [nth]
  | o :: r, i + 1 => by simp only [nth, List.getElem?_cons_succ]; exact nth_iff

/-- an exception's dict: its fields -/
def XD (g : Sg) (ks : List Nat) (xs : List V) (d : Addr) : Prop := ∃ fs, g.H d = some (.xd fs) ∧ fs.map (·.1) = ks.map nmS ∧ fs.map (·.2) = xs
/-- what is known of a caught exception: where its name is, its address, its class, its dict -/
structure Ct where
  i : Nat
  a : Addr
  c : Nat
  d : Addr
/-- a name and what it stands for. B: the lent things; T: the exception that is handled -/
def RN (Z : Kx) (g : Sg) (B : Nat → Option V) (T : Option Ct) (i : Nat) (o : Option V) (fp : List Addr) : En → Prop
  | .no => fp = []
  | .m u => ∃ v, o = some v ∧ OU Z g u v fp
  | .t u => ∃ v, B i = some v ∧ o = some v ∧ OU Z g u v fp
  | .x c ks ws => fp = [] ∧ ∃ t, T = some t ∧ t.i = i ∧ t.c = c ∧ o = some (.ref t.a) ∧ ∃ xs, XD g ks xs t.d ∧ g.L t.d ∧ RWs Z g ws xs
structure RE (Z : Kx) (B : Nat → Option V) (T : Option Ct) (g : Sg) (r : Env) (σ : L2.St) (F : Fp) : Prop where
  len : r.length = σ.length
  at_ : ∀ i e, r[i]? = some e → ∃ o, σ[i]? = some o ∧ RN Z g B T i o (F i) e
  out : ∀ i, r.length ≤ i → F i = []
  nod : ∀ i, (F i).Nodup
  dis : ∀ i j a, a ∈ F i → a ∈ F j → i = j
  nl : ∀ i a, a ∈ F i → ¬ g.L a
  la : ∀ a, g.L a → ∃ o, g.H a = some o
variable {B : Nat → Option V} {T : Option Ct} {r : Env} {σ : L2.St} {F F' : Fp}
theorem RE.mu (e : RE Z B T g r σ F) {i : Nat} {a : Addr} (m : a ∈ F i) : ∃ o, g.H a = some o ∧ mutO o = true := by
  cases h : r[i]? with
  | none =>
    rw [e.out i (List.getElem?_eq_none_iff.mp h)] at m
    cases m
  | some x =>
    obtain ⟨o, _, h⟩ := e.at_ i x h
    cases x with
    | no => rw [show F i = [] from h] at m; cases m
    | m u => obtain ⟨v, _, h⟩ := h; exact h.mu m
    | t u => obtain ⟨v, _, _, h⟩ := h; exact h.mu m
    | x c ks ws => rw [h.1] at m; cases m
theorem Go.kp (e : RE Z B T g r σ F) (t : Go g F g' F') : Kp Z g g' where
  tup := fun {a xs} h => by
    rcases h with (h | ⟨o, h⟩) | h
    · refine .inl (.inl (t.k a _ h fun i m => ?_))
      obtain ⟨o, q, z⟩ := e.mu m
      rw [h] at q; cases q; cases z
    · refine .inl (.inr ⟨o, t.k a _ h fun i m => ?_⟩)
      obtain ⟨o, q, z⟩ := e.mu m
      rw [h] at q; cases q; cases z
    · exact .inr h
  li := fun a o l h => ⟨t.l a l, t.k a o h fun i m => e.nl i a m l⟩
  fr := fun a o u h => t.k a _ h fun i m => by
    obtain ⟨o, q, z⟩ := e.mu m
    rw [h] at q; cases q; cases z
/-- addresses that no name owns, and that may still change -/
structure Tmp (g : Sg) (F : Fp) (fp : List Addr) : Prop where
  nod : fp.Nodup
  nl : ∀ a ∈ fp, ¬ g.L a
  nf : ∀ a ∈ fp, ∀ i, a ∉ F i
theorem OU.go {u : U} {v : V} {fp : List Addr} (e : RE Z B T g r σ F) (t : Go g F g' F') (x : Tmp g F fp) (h : OU Z g u v fp) : OU Z g' u v fp ∧ Tmp g' F' fp := by
  have al : ∀ a ∈ fp, ∃ o, g.H a = some o := fun a m => let ⟨o, q, _⟩ := h.mu m; ⟨o, q⟩
  refine ⟨h.kp (t.kp e) fun a m => ?_, x.nod, fun a m l => ?_, fun a m i hi => ?_⟩
  · obtain ⟨o, q⟩ := al a m
    rw [q]
    exact t.k a o q (x.nf a m)
  · obtain ⟨o, q⟩ := al a m
    rcases t.n a l with l | l | ⟨i, l⟩
    · exact x.nl a m l
    · rw [q] at l; cases l
    · exact x.nf a m i l
  · obtain ⟨o, q⟩ := al a m
    rcases t.s i a hi with l | ⟨j, l⟩
    · rw [q] at l; cases l
    · exact x.nf a m j l
theorem RWs.length : ∀ {ws : List W} {vs : List V}, RWs Z g ws vs → ws.length = vs.length
  | [], _, h => by cases h; rfl
  | w :: ws, _, h => by
    obtain ⟨x, r, rfl, _, h2⟩ := h
    simp [RWs.length h2]
theorem OUs.length : ∀ {ws : List U} {vs : List V} {fp : List Addr}, OUs Z g ws vs fp → ws.length = vs.length
  | [], _, _, h => by rw [h.1]; rfl
  | w :: ws, _, _, h => by
    obtain ⟨x, r, _, _, rfl, _, h2, _⟩ := h
    simp [OUs.length h2]
theorem RWs.get : ∀ {ws : List W} {vs : List V} {i : Nat} {w : W}, RWs Z g ws vs → ws[i]? = some w → ∃ v, vs[i]? = some v ∧ RW Z g w v
  | [], _, _, _, _, e => by simp at e
  | w :: ws, _, 0, _, h, e => by
    obtain ⟨x, r, rfl, h1, h2⟩ := h
    simp at e
    subst e
    exact ⟨x, by simp, h1⟩
  | w :: ws, _, i + 1, _, h, e => by
    obtain ⟨x, r, rfl, h1, h2⟩ := h
    simp at e
    obtain ⟨v, a, b⟩ := RWs.get h2 e
    exact ⟨v, by simpa using a, b⟩
theorem RWs.append : ∀ {ws us : List W} {vs xs : List V}, RWs Z g ws vs → RWs Z g us xs → RWs Z g (ws ++ us) (vs ++ xs)
  | [], _, _, _, h, h' => by cases h; exact h'
  | w :: ws, _, _, _, h, h' => by
    obtain ⟨x, r, rfl, h1, h2⟩ := h
    exact ⟨x, _, rfl, h1, RWs.append h2 h'⟩
theorem RWs.drop : ∀ {ws : List W} {vs : List V} (n : Nat), RWs Z g ws vs → RWs Z g (ws.drop n) (vs.drop n)
  | _, _, 0, h => h
  | [], _, n + 1, h => by cases h; rfl
  | w :: ws, _, n + 1, h => by
    obtain ⟨x, r, rfl, h1, h2⟩ := h
    exact RWs.drop n h2
theorem RWs.take : ∀ {ws : List W} {vs : List V} (n : Nat), RWs Z g ws vs → RWs Z g (ws.take n) (vs.take n)
  | _, _, 0, h => rfl
  | [], _, n + 1, h => by cases h; rfl
  | w :: ws, _, n + 1, h => by
    obtain ⟨x, r, rfl, h1, h2⟩ := h
    exact ⟨x, _, rfl, h1, RWs.take n h2⟩
theorem OUs.append : ∀ {a b : List U} {x y : List V} {f h : List Addr}, OUs Z g a x f → OUs Z g b y h → OUs Z g (a ++ b) (x ++ y) (f ++ h)
  | [], _, _, _, _, _, p, q => by
    obtain ⟨rfl, rfl⟩ := p
    exact q
  | u :: us, _, _, _, _, _, p, q => by
    obtain ⟨x, r, f1, f2, rfl, h1, h2, rfl⟩ := p
    exact ⟨x, _, f1, _, rfl, h1, OUs.append h2 q, by rw [List.append_assoc]⟩
/-- data as a thing that is owned -/
theorem OUs.dat : ∀ {ws : List W} {xs : List V}, RWs Z g ws xs → OUs Z g (ws.map U.d) xs []
  | [], _, h => ⟨h, rfl⟩
  | w :: ws, _, h => by
    obtain ⟨x, r, rfl, h1, h2⟩ := h
    exact ⟨x, r, [], [], rfl, ⟨rfl, h1⟩, OUs.dat h2, rfl⟩
theorem OUs.of_dats : ∀ {us : List U} {ws : List W} {xs : List V} {fp : List Addr}, dats us = some ws → OUs Z g us xs fp → fp = [] ∧ RWs Z g ws xs
  | [], _, _, _, e, h => by cases e; exact ⟨h.2, h.1⟩
  | .d w :: us, _, _, _, e, h => by
    obtain ⟨vs, e2, rfl⟩ := Option.map_eq_some_iff.mp e
    obtain ⟨x, r, f1, f2, rfl, ⟨rfl, h1⟩, h2, rfl⟩ := h
    obtain ⟨rfl, h3⟩ := OUs.of_dats e2 h2
    exact ⟨rfl, x, r, rfl, h1, h3⟩
  | .l _ :: _, _, _, _, e, _ => by cases e
  | .c _ _ :: _, _, _, _, e, _ => by cases e
  | .o _ _ _ :: _, _, _, _, e, _ => by cases e
end

/-! ### steps of names -/
section
variable {Z : Kx} {g g' : Sg} {B : Nat → Option V} {T : Option Ct} {r : Env} {σ : L2.St} {F F' : Fp}
theorem RN.kp (t : Kp Z g g') {i : Nat} {o : Option V} {fp : List Addr} {e : En} (k : ∀ a ∈ fp, g'.H a = g.H a) (h : RN Z g B T i o fp e) : RN Z g' B T i o fp e := by
  cases e with
  | no => exact h
  | m u => obtain ⟨v, e, h⟩ := h; exact ⟨v, e, h.kp t k⟩
  | t u => obtain ⟨v, b, e, h⟩ := h; exact ⟨v, b, e, h.kp t k⟩
  | x c ks ws =>
    obtain ⟨z, q, h1, h2, h3, h4, xs, ⟨fs, h5, h6⟩, h7, h8⟩ := h
    obtain ⟨l, h5⟩ := t.li _ _ h7 h5
    exact ⟨z, q, h1, h2, h3, h4, xs, ⟨fs, h5, h6⟩, l, h8.kp t⟩
def Fp.set (F : Fp) (i : Nat) (fp : List Addr) : Fp := fun j => if j = i then fp else F j
theorem Fp.set_same {F : Fp} {i : Nat} {fp : List Addr} : F.set i fp i = fp := if_pos rfl
theorem Fp.set_ne {F : Fp} {i j : Nat} {fp : List Addr} (h : j ≠ i) : F.set i fp j = F j := if_neg h
/-- one name gets another thing; the others stay. fp: its addresses -/
theorem RE.put (e : RE Z B T g r σ F) {i : Nat} {o : Option V} {fp : List Addr} {x : En} (t : Kp Z g g') (hk : ∀ j, j ≠ i → ∀ a ∈ F j, g'.H a = g.H a) (hi : i < r.length) (h : RN Z g' B T i o fp x)
    (nod : fp.Nodup) (nl : ∀ a ∈ fp, ¬ g'.L a) (nf : ∀ j, j ≠ i → ∀ a ∈ fp, a ∉ F j) (lk : ∀ j, j ≠ i → ∀ a ∈ F j, ¬ g'.L a) (la : ∀ a, g'.L a → ∃ o, g'.H a = some o) :
    RE Z B T g' (r.set i x) (σ.set i o) (F.set i fp) where
  len := by simp [e.len]
  at_ := fun j y hj => by
    by_cases hji : i = j
    · subst hji
      rw [List.getElem?_set_self hi] at hj
      cases hj
      exact ⟨o, by rw [List.getElem?_set_self (by rw [← e.len]; exact hi)], by rw [Fp.set_same]; exact h⟩
    · rw [List.getElem?_set_ne hji] at hj
      obtain ⟨p, h1, h2⟩ := e.at_ j y hj
      exact ⟨p, by rw [List.getElem?_set_ne hji]; exact h1, by rw [Fp.set_ne (Ne.symm hji)]; exact h2.kp t (hk j (Ne.symm hji))⟩
  out := fun j hj => by
    rw [List.length_set] at hj
    rw [Fp.set_ne (by omega)]
    exact e.out j hj
  nod := fun j => by
    by_cases hj : j = i
    · subst hj; rw [Fp.set_same]; exact nod
    · rw [Fp.set_ne hj]; exact e.nod j
  dis := fun j k a hj hk' => by
    by_cases h1 : j = i
    · by_cases h2 : k = i
      · rw [h1, h2]
      · subst h1
        rw [Fp.set_same] at hj
        rw [Fp.set_ne h2] at hk'
        exact absurd hk' (nf k h2 a hj)
    · rw [Fp.set_ne h1] at hj
      by_cases h2 : k = i
      · subst h2
        rw [Fp.set_same] at hk'
        exact absurd hj (nf j h1 a hk')
      · rw [Fp.set_ne h2] at hk'
        exact e.dis j k a hj hk'
  nl := fun j a hj => by
    by_cases h1 : j = i
    · subst h1; rw [Fp.set_same] at hj; exact nl a hj
    · rw [Fp.set_ne h1] at hj; exact lk j h1 a hj
  la := la
theorem set_self {α : Type} {l : List α} {i : Nat} {o : α} (h : l[i]? = some o) : l.set i o = l := by
  apply List.ext_getElem?
  intro j
  by_cases e : i = j
  · subst e
    rw [List.getElem?_set_self (by
      rcases Nat.lt_or_ge i l.length with h' | h'
      · exact h'
      · rw [List.getElem?_eq_none h'] at h; cases h), h]
  · rw [List.getElem?_set_ne e]
theorem lt_of_get {α : Type} {l : List α} {i : Nat} {o : α} (h : l[i]? = some o) : i < l.length := by
  rcases Nat.lt_or_ge i l.length with h' | h'
  · exact h'
  · rw [List.getElem?_eq_none h'] at h; cases h
/-- what a name owned is dropped, it gets data -/
theorem RE.bind (e : RE Z B T g r σ F) {i : Nat} {u : U} {v : V} {fp : List Addr} (hi : i < r.length) (h : OU Z g u v fp) (x : Tmp g F fp) : RE Z B T g (r.set i (.m u)) (σ.set i (some v)) (F.set i fp) :=
  e.put .refl (fun _ _ _ _ => rfl) hi ⟨v, rfl, h⟩ x.nod x.nl (fun j _ a m => x.nf a m j) (fun j _ a m => e.nl j a m) e.la
theorem Go.bind (e : RE Z B T g r σ F) {g0 : Sg} {F0 : Fp} (t : Go g0 F0 g F) {i : Nat} {fp : List Addr} (hs : ∀ a ∈ fp, g0.H a = none ∨ ∃ j, a ∈ F0 j) : Go g0 F0 g (F.set i fp) :=
  ⟨t.l, t.k, t.a, t.n, fun j b h => by
    by_cases hj : j = i
    · subst hj; rw [Fp.set_same] at h; exact hs b h
    · rw [Fp.set_ne hj] at h; exact t.s j b h⟩
theorem tmp_nil : Tmp g F [] := ⟨List.nodup_nil, fun _ h => (nomatch h), fun _ h => (nomatch h)⟩
/-- a name is emptied -/
theorem RE.drop (e : RE Z B T g r σ F) {i : Nat} {o : Option V} (hi : i < r.length) : RE Z B T g (r.set i .no) (σ.set i o) (F.set i []) :=
  e.put .refl (fun _ _ _ _ => rfl) hi rfl List.nodup_nil (fun _ h => (nomatch h)) (fun _ _ _ h => (nomatch h)) (fun j _ a m => e.nl j a m) e.la
/-- a new thing is laid that is nobody's -/
theorem lay_kp {a : Addr} {o : HO} (n : g.H a = none) : Kp Z g { g with H := upd g.H a o } := by
  have keep : ∀ b u, g.H b = some u → (upd g.H a o) b = some u := fun b u e => by rw [upd_ne (ne_of_none e n)]; exact e
  refine ⟨fun {b xs} h => ?_, fun b u l e => ⟨l, keep b u e⟩, fun b u w e => keep b _ e⟩
  rcases h with (h | ⟨ob, h⟩) | h
  · exact .inl (.inl (keep _ _ h))
  · exact .inl (.inr ⟨ob, keep _ _ h⟩)
  · exact .inr h
theorem RE.lay (e : RE Z B T g r σ F) {a : Addr} {o : HO} (n : g.H a = none) : RE Z B T { g with H := upd g.H a o } r σ F ∧ Go g F { g with H := upd g.H a o } F := by
  have keep : ∀ b u, g.H b = some u → (upd g.H a o) b = some u := fun b u q => by rw [upd_ne (ne_of_none q n)]; exact q
  have ks : ∀ j, ∀ b ∈ F j, (upd g.H a o) b = g.H b := fun j b m => by
    obtain ⟨u, q, _⟩ := e.mu m
    rw [keep b u q, q]
  refine ⟨⟨e.len, fun i x h => ?_, e.out, e.nod, e.dis, e.nl, fun b l => ?_⟩, ⟨fun _ l => l, fun b u q _ => keep b u q, fun b q => ?_, fun b l => .inl l, fun i b m => .inr ⟨i, m⟩⟩⟩
  · obtain ⟨p, h1, h2⟩ := e.at_ i x h
    exact ⟨p, h1, h2.kp (lay_kp n) (ks i)⟩
  · obtain ⟨u, q⟩ := e.la b l
    exact ⟨u, keep b u q⟩
  · cases h : g.H b with
    | none => rfl
    | some u =>
      have q : (upd g.H a o) b = none := q
      rw [keep b u h] at q
      cases q
theorem tmp_new (e : RE Z B T g r σ F) {a : Addr} (n : g.H a = none) : Tmp g F [a] := by
  refine ⟨by simp, fun b m l => ?_, fun b m i hi => ?_⟩
  · rw [List.mem_singleton.mp m] at l
    obtain ⟨u, q⟩ := e.la a l
    rw [n] at q; cases q
  · rw [List.mem_singleton.mp m] at hi
    obtain ⟨u, q, _⟩ := e.mu hi
    rw [n] at q; cases q
/-- what nobody owns becomes data -/
theorem RE.frz (e : RE Z B T g r σ F) {fp : List Addr} (x : Tmp g F fp) (al : ∀ a ∈ fp, ∃ o, g.H a = some o) :
    RE Z B T ⟨g.H, fun a => g.L a ∨ a ∈ fp⟩ r σ F ∧ Kp Z g ⟨g.H, fun a => g.L a ∨ a ∈ fp⟩ := by
  have k : Kp Z g ⟨g.H, fun a => g.L a ∨ a ∈ fp⟩ := ⟨fun h => h, fun a o l e => ⟨.inl l, e⟩, fun _ _ _ e => e⟩
  refine ⟨⟨e.len, fun i y h => ?_, e.out, e.nod, e.dis, fun i a m l => ?_, fun a l => ?_⟩, k⟩
  · obtain ⟨p, h1, h2⟩ := e.at_ i y h
    exact ⟨p, h1, h2.kp k fun _ _ => rfl⟩
  · rcases l with l | l
    · exact e.nl i a m l
    · exact x.nf a l i m
  · rcases l with l | l
    · exact e.la a l
    · exact al a l
theorem Go.frz {g0 : Sg} {F0 : Fp} (t : Go g0 F0 g F) {fp : List Addr} (hs : ∀ a ∈ fp, g0.H a = none ∨ ∃ j, a ∈ F0 j) : Go g0 F0 ⟨g.H, fun a => g.L a ∨ a ∈ fp⟩ F :=
  ⟨fun a l => .inl (t.l a l), t.k, t.a, fun b l => by
    rcases l with l | l
    · exact t.n b l
    · rcases hs b l with h | h
      · exact .inr (.inl h)
      · exact .inr (.inr h), t.s⟩
/-- a thing of a name's own is changed at its root address -/
theorem RE.chg (e : RE Z B T g r σ F) {i : Nat} {a : Addr} {o : HO} {fs : List Addr} (hF : F i = a :: fs) : Kp Z g { g with H := upd g.H a o } ∧ (∀ j, j ≠ i → ∀ b ∈ F j, upd g.H a o b = g.H b) ∧ (∀ b ∈ fs, upd g.H a o b = g.H b) := by
  have am : a ∈ F i := by rw [hF]; exact List.mem_cons_self
  obtain ⟨u, hu, mu⟩ := e.mu am
  have nd := e.nod i
  rw [hF, List.nodup_cons] at nd
  refine ⟨⟨fun {b xs} h => ?_, fun b o' l q => ⟨l, ?_⟩, fun b ob w h => (upd_ne (fun z => by rw [z, hu] at h; cases h; cases mu)).trans h⟩, fun j hj b m => upd_ne fun z => hj (e.dis j i b m (z ▸ am)), fun b m => upd_ne fun z => nd.1 (z ▸ m)⟩
  · rcases h with (h | ⟨ob, h⟩) | h
    · exact .inl (.inl ((upd_ne (fun z => by rw [z, hu] at h; cases h; cases mu)).trans h))
    · exact .inl (.inr ⟨ob, (upd_ne (fun z => by rw [z, hu] at h; cases h; cases mu)).trans h⟩)
    · exact .inr h
  · exact (upd_ne (fun z => e.nl i a am (by rw [← z]; exact l))).trans q
end
end FM


set_option Elab.async false
set_option linter.all false
set_option maxRecDepth 100000
set_option maxHeartbeats 2000000
/-! The judgements: a piece of the text and its evaluation. -/
namespace FM
open PySem L2

/-- the context: the layer's, the classes, what is wanted of an exception, what is lent, what is handled -/
structure Cz where
  X : Cx
  ca : Nat → Addr
  W : WX
  B : Nat → Option V
  T : Option Ct
abbrev Cz.Z (C : Cz) : Kx := ⟨C.X.K, C.ca⟩
section
variable (C : Cz)
/-- what is wanted of an exception -/
def XOk (g : Sg) (F : Fp) (σ : L2.St) (x : Xn) (r : Env) : Prop := ∀ g' F' d xs, Go g F g' F' → RE C.Z C.B C.T g' r σ F' → XD g' x.ks xs d → g'.L d → RWs C.Z g' x.ws xs → C.W (.ref (C.ca x.c)) (some d) σ g'.H
def POk (g : Sg) (F : Fp) (σ : L2.St) {α : Type} (Q : α → Sg → Fp → Prop) : Res α → Prop
  | .ok a r => ∀ g' F', Go g F g' F' → RE C.Z C.B C.T g' r σ F' → Q a g' F'
  | .ex x r => XOk C g F σ x r
  | .bad => False
def Src (g : Sg) (F : Fp) (fp : List Addr) : Prop := ∀ a ∈ fp, g.H a = none ∨ ∃ j, a ∈ F j
/-- an operand -/
def ArgR (g : Sg) (F : Fp) (σ : L2.St) : Arg → V → Prop
  | .w w, v => RW C.Z g w v
  | .fr u, v => ∃ fp, OU C.Z g u v fp ∧ Tmp g F fp
  | .sl i, v => σ[i]? = some (some v)
def ArgsR (g : Sg) (F : Fp) (σ : L2.St) : List Arg → List V → Prop
  | [], vs => vs = []
  | a :: as, vs => ∃ v r, vs = v :: r ∧ ArgR C g F σ a v ∧ ArgsR g F σ as r
/-- data -/
def SE (e : Expr) (m : Env → Res W) : Prop := ∃ t : TE, PE C.X e t ∧ ∀ (g : Sg) (r : Env) (σ : L2.St) (F : Fp) (Q : VK), RE C.Z C.B C.T g r σ F →
  POk C g F σ (fun w g' _ => ∀ v, RW C.Z g' w v → Q v g'.H) (m r) → t σ g.H Q
/-- an operand -/
def SV (e : Expr) (m : Env → Res Arg) : Prop := ∃ t : TE, PE C.X e t ∧ ∀ (g : Sg) (r : Env) (σ : L2.St) (F : Fp) (Q : VK), RE C.Z C.B C.T g r σ F →
  POk C g F σ (fun a g' F' => ∀ v, ArgR C g' F' σ a v → Q v g'.H) (m r) → t σ g.H Q
/-- a thing just made -/
def SU (e : Expr) (m : Env → Res U) : Prop := ∃ t : TE, PE C.X e t ∧ ∀ (g : Sg) (r : Env) (σ : L2.St) (F : Fp) (Q : VK), RE C.Z C.B C.T g r σ F →
  POk C g F σ (fun u g' F' => ∀ v fp, OU C.Z g' u v fp → Tmp g' F' fp → Src g F fp → Q v g'.H) (m r) → t σ g.H Q
/-- a test -/
def STt (e : Expr) (m : Env → Res Bool) : Prop := ∃ t : TT, PT C.X e t ∧ ∀ (g : Sg) (r : Env) (σ : L2.St) (F : Fp) (Q : Bool → Hp → Prop), RE C.Z C.B C.T g r σ F →
  POk C g F σ (fun b g' _ => Q b g'.H) (m r) → t σ g.H Q
/-- values; operands -/
def SA (es : List Expr) (m : Env → Res (List W)) : Prop := ∃ t : TA, PA C.X es t ∧ ∀ (g : Sg) (r : Env) (σ : L2.St) (F : Fp) (Q : List V → Hp → Prop), RE C.Z C.B C.T g r σ F →
  POk C g F σ (fun ws g' _ => ∀ vs, RWs C.Z g' ws vs → Q vs g'.H) (m r) → t σ g.H Q
def SAV (es : List Expr) (m : Env → Res (List Arg)) : Prop := ∃ t : TA, PA C.X es t ∧ ∀ (g : Sg) (r : Env) (σ : L2.St) (F : Fp) (Q : List V → Hp → Prop), RE C.Z C.B C.T g r σ F →
  POk C g F σ (fun as g' F' => ∀ vs, ArgsR C g' F' σ as vs → Q vs g'.H) (m r) → t σ g.H Q
/-- what is wanted behind a statement -/
def DOk (D : Ends) (g : Sg) (F : Fp) : SRes → Prop
  | .nx r => ∀ g' F' σ, Go g F g' F' → RE C.Z C.B C.T g' r σ F' → D.nx σ g'.H
  | .rt u r => ∀ g' F' σ v fp, Go g F g' F' → RE C.Z C.B C.T g' r σ F' → OU C.Z g' u v fp → Tmp g' F' fp → Src g F fp → D.rt v g'.H
  | .bk r => ∀ g' F' σ, Go g F g' F' → RE C.Z C.B C.T g' r σ F' → D.bk σ g'.H
  | .ct r => ∀ g' F' σ, Go g F g' F' → RE C.Z C.B C.T g' r σ F' → D.ct σ g'.H
  | .ex x r => ∀ σ, XOk C g F σ x r
  | .bad => False
def SS (st : Stmt) (m : Env → SRes) : Prop := ∃ t : TS, PS C.X st t ∧ ∀ (g : Sg) (r : Env) (σ : L2.St) (F : Fp) (D : Ends), RE C.Z C.B C.T g r σ F → DOk C D g F (m r) → t D σ g.H
def SSs (sts : List Stmt) (m : Env → SRes) : Prop := ∃ t : TS, PSs C.X sts t ∧ ∀ (g : Sg) (r : Env) (σ : L2.St) (F : Fp) (D : Ends), RE C.Z C.B C.T g r σ F → DOk C D g F (m r) → t D σ g.H
end

section
variable {C : Cz} {g g1 : Sg} {F F1 : Fp} {σ : L2.St} {r : Env}
theorem Src.mono {fp : List Addr} (t : Go g F g1 F1) (h : Src g1 F1 fp) : Src g F fp := fun a m => by
  rcases h a m with h | ⟨j, h⟩
  · exact .inl (t.a a h)
  · exact t.s j a h
theorem XOk.mono {x : Xn} (t : Go g F g1 F1) (h : XOk C g F σ x r) : XOk C g1 F1 σ x r := fun g' F' d xs t' => h g' F' d xs (t.trans t')
theorem POk.mono {α : Type} {Q : α → Sg → Fp → Prop} (t : Go g F g1 F1) : ∀ {x : Res α}, POk C g F σ Q x → POk C g1 F1 σ Q x
  | .ok a r, h => fun g' F' t' => h g' F' (t.trans t')
  | .ex x r, h => XOk.mono t h
  | .bad, h => h
theorem POk.imp {α : Type} {Q P : α → Sg → Fp → Prop} (hk : ∀ a g1 F1, Go g F g1 F1 → Q a g1 F1 → P a g1 F1) : ∀ {x : Res α}, POk C g F σ Q x → POk C g F σ P x
  | .ok a r, h => fun g' F' t' e => hk a g' F' t' (h g' F' t' e)
  | .ex x r, h => h
  | .bad, h => h
theorem POk.seq {α β : Type} {Q : β → Sg → Fp → Prop} {P : α → Sg → Fp → Prop} {f : α → Env → Res β} : ∀ {x : Res α}, POk C g F σ Q (x.bind f) →
    (∀ a r1 g1 F1, Go g F g1 F1 → RE C.Z C.B C.T g1 r1 σ F1 → POk C g1 F1 σ Q (f a r1) → P a g1 F1) → POk C g F σ P x
  | .ok a r, h, hk => fun g' F' t' e => hk a r g' F' t' e (POk.mono (x := f a r) t' h)
  | .ex x r, h, _ => h
  | .bad, h, _ => h
theorem POk.of {α : Type} {Q : α → Sg → Fp → Prop} {o : Option α} (e : RE C.Z C.B C.T g r σ F) (h : POk C g F σ Q (Res.of o r)) : ∃ a, o = some a ∧ Q a g F := by
  cases o with
  | none => exact False.elim h
  | some a => exact ⟨a, rfl, h g F (.refl g F) e⟩
theorem POk.now {α : Type} {Q : α → Sg → Fp → Prop} {a : α} (e : RE C.Z C.B C.T g r σ F) (h : POk C g F σ Q (.ok a r)) : Q a g F := h g F (.refl g F) e
theorem DOk.mono {D : Ends} (t : Go g F g1 F1) : ∀ {x : SRes}, DOk C D g F x → DOk C D g1 F1 x
  | .nx r, h => fun g' F' σ t' => h g' F' σ (t.trans t')
  | .rt u r, h => fun g' F' σ v fp t' e o x s => h g' F' σ v fp (t.trans t') e o x (s.mono t)
  | .bk r, h => fun g' F' σ t' => h g' F' σ (t.trans t')
  | .ct r, h => fun g' F' σ t' => h g' F' σ (t.trans t')
  | .ex x r, h => fun σ => XOk.mono t (h σ)
  | .bad, h => h
theorem DOk.seq {α : Type} {D : Ends} {P : α → Sg → Fp → Prop} {f : α → Env → SRes} : ∀ {x : Res α}, DOk C D g F (x.toS f) →
    (∀ a r1 g1 F1, Go g F g1 F1 → RE C.Z C.B C.T g1 r1 σ F1 → DOk C D g1 F1 (f a r1) → P a g1 F1) → POk C g F σ P x
  | .ok a r, h, hk => fun g' F' t' e => hk a r g' F' t' e (DOk.mono (x := f a r) t' h)
  | .ex x r, h, _ => h σ
  | .bad, h, _ => h
theorem ArgR.go (e : RE C.Z C.B C.T g r σ F) (t : Go g F g1 F1) : ∀ {a : Arg} {v : V}, ArgR C g F σ a v → ArgR C g1 F1 σ a v
  | .w w, v, h => RW.kp (t.kp e) h
  | .fr u, v, h => by
    obtain ⟨fp, h1, h2⟩ := h
    obtain ⟨h3, h4⟩ := h1.go e t h2
    exact ⟨fp, h3, h4⟩
  | .sl i, v, h => h
theorem ArgsR.go (e : RE C.Z C.B C.T g r σ F) (t : Go g F g1 F1) : ∀ {as : List Arg} {vs : List V}, ArgsR C g F σ as vs → ArgsR C g1 F1 σ as vs
  | [], _, h => h
  | a :: as, _, h => by
    obtain ⟨v, r, q, h1, h2⟩ := h
    exact ⟨v, r, q, h1.go e t, ArgsR.go e t h2⟩
/-- a thing as it is read -/
def BR (Z : Kx) (g : Sg) : W → V → Prop
  | .lis ws, v => ∃ a xs, v = .ref a ∧ g.H a = some (.lst xs) ∧ RWs Z g ws xs
  | .dic ks ws, v => ∃ a xs, v = .ref a ∧ DicR g a ks xs ∧ RWs Z g ws xs
  | .obj c ks ws, v => ∃ a xs, v = .ref a ∧ ObjR Z g a c ks xs ∧ RWs Z g ws xs
  | w, v => RW Z g w v
theorem RW.br {Z : Kx} {g : Sg} {w : W} {v : V} (h : RW Z g w v) : BR Z g w v := by
  cases w with
  | lis ws => obtain ⟨a, xs, e, _, h1, h2⟩ := h; exact ⟨a, xs, e, h1, h2⟩
  | dic ks ws => obtain ⟨a, xs, e, _, h1, h2⟩ := h; exact ⟨a, xs, e, h1, h2⟩
  | obj c ks ws => obtain ⟨a, xs, e, _, h1, h2⟩ := h; exact ⟨a, xs, e, h1, h2⟩
  | _ => exact h
theorem OU.br {Z : Kx} {g : Sg} {u : U} {w : W} {v : V} {fp : List Addr} (h : OU Z g u v fp) (e : vwU u = some w) : BR Z g w v := by
  cases u with
  | d x => cases e; exact h.2.br
  | l us =>
    obtain ⟨ws, e1, rfl⟩ := Option.map_eq_some_iff.mp e
    obtain ⟨a, xs, fs, e2, h1, h2, _⟩ := h
    exact ⟨a, xs, e2, h1, (OUs.of_dats e1 h2).2⟩
  | c ks us =>
    obtain ⟨ws, e1, rfl⟩ := Option.map_eq_some_iff.mp e
    obtain ⟨a, xs, fs, e2, h1, h2, _⟩ := h
    exact ⟨a, xs, e2, h1, (OUs.of_dats e1 h2).2⟩
  | o c ks us =>
    obtain ⟨ws, e1, rfl⟩ := Option.map_eq_some_iff.mp e
    obtain ⟨a, xs, fs, e2, h1, h2, _⟩ := h
    exact ⟨a, xs, e2, h1, (OUs.of_dats e1 h2).2⟩
theorem RE.look {Z : Kx} {B : Nat → Option V} {T : Option Ct} (e : RE Z B T g r σ F) {i : Nat} {u : U} (h : lookU r i = some u) : ∃ v x, r[i]? = some x ∧ cont x = some u ∧ σ[i]? = some (some v) ∧ OU Z g u v (F i) := by
  unfold lookU at h
  rw [nth_iff] at h
  obtain ⟨x, h1, h2⟩ := Option.bind_eq_some_iff.mp h
  obtain ⟨o, h3, h4⟩ := e.at_ i x h1
  cases x with
  | no => cases h2
  | m w => cases h2; obtain ⟨v, rfl, h5⟩ := h4; exact ⟨v, _, h1, rfl, h3, h5⟩
  | t w => cases h2; obtain ⟨v, _, rfl, h5⟩ := h4; exact ⟨v, _, h1, rfl, h3, h5⟩
  | x c ks ws => cases h2
theorem ArgR.vw (e : RE C.Z C.B C.T g r σ F) {a : Arg} {v : V} {w : W} (h : ArgR C g F σ a v) (q : FM.vw r a = some w) : BR C.Z g w v := by
  cases a with
  | w x => cases q; exact RW.br h
  | fr u => obtain ⟨fp, h1, _⟩ := h; exact h1.br q
  | sl i =>
    obtain ⟨u, q1, q2⟩ := Option.bind_eq_some_iff.mp q
    obtain ⟨v', x, _, _, h3, h4⟩ := e.look q1
    have h : σ[i]? = some (some v) := h
    rw [h] at h3
    cases h3
    exact h4.br q2
/-- what is read as a sequence -/
theorem BR.seq {Z : Kx} {g : Sg} {w : W} {v : V} {ws : List W} (h : BR Z g w v) (q : seqW w = some ws) : ∃ p xs, v = .ref p ∧ (SqL Z.K g.H p xs ∨ SqT Z.K g.H p xs) ∧ RWs Z g ws xs := by
  cases w with
  | tup us => cases q; obtain ⟨a, xs, e, h1, h2⟩ := h; exact ⟨a, xs, e, .inr h1.1, h2⟩
  | lis us => cases q; obtain ⟨a, xs, e, h1, h2⟩ := h; exact ⟨a, xs, e, .inl (.inl (.inl h1)), h2⟩
  | scr us =>
    cases q
    obtain ⟨a, xs, e, h1, h2⟩ := h
    refine ⟨a, xs, e, .inl ?_, h2⟩
    rcases h1 with ⟨o, h1⟩ | h1
    · exact .inl (.inr ⟨o, h1⟩)
    · exact .inr h1
  | _ => cases q
theorem BR.lst {Z : Kx} {g : Sg} {w : W} {v : V} {ws : List W} (h : BR Z g w v) (q : lstW w = some ws) : ∃ p xs, v = .ref p ∧ g.H p = some (.lst xs) ∧ RWs Z g ws xs := by
  cases w with
  | lis us => cases q; exact h
  | _ => cases q

theorem PE.or {X : Cx} {e : Expr} {t u : TE} (a : PE X e t) (b : PE X e u) : PE X e (fun σ H Q => t σ H Q ∨ u σ H Q) := ⟨fun pins s σ H Q I h => by
  rcases h with h | h
  · exact a.run pins s σ H Q I h
  · exact b.run pins s σ H Q I h⟩
end

section
variable {C : Cz}
theorem SV.e {e : Expr} {m : Env → Res W} (h : SE C e m) : SV C e (fun r => (m r).bind fun w r1 => .ok (.w w) r1) := by
  obtain ⟨t, p, i⟩ := h
  refine ⟨t, p, fun g r σ F Q re k => i g r σ F Q re (k.seq fun w r1 g1 F1 t1 re1 k1 v rv => k1.now re1 v rv)⟩
theorem SV.u {e : Expr} {m : Env → Res U} (h : SU C e m) : SV C e (fun r => (m r).bind fun w r1 => .ok (.fr w) r1) := by
  obtain ⟨t, p, i⟩ := h
  refine ⟨t, p, fun g r σ F Q re k => i g r σ F Q re (k.seq fun w r1 g1 F1 t1 re1 k1 v fp o x _ => k1.now re1 v ⟨fp, o, x⟩)⟩
theorem SU.d {e : Expr} {m : Env → Res W} (h : SE C e m) : SU C e (fun r => (m r).bind fun w r1 => .ok (.d w) r1) := by
  obtain ⟨t, p, i⟩ := h
  refine ⟨t, p, fun g r σ F Q re k => i g r σ F Q re (k.seq fun w r1 g1 F1 t1 re1 k1 v rv => k1.now re1 v [] ⟨rfl, rv⟩ tmp_nil (fun _ m => nomatch m))⟩
/-- what was just made becomes data -/
theorem SE.frz {e : Expr} {m : Env → Res U} (h : SU C e m) : SE C e (fun r => (m r).bind fun u r1 => .ok (fz u) r1) := by
  obtain ⟨t, p, i⟩ := h
  refine ⟨t, p, fun g r σ F Q re k => ?_⟩
  dsimp only at k
  cases em : m r with
  | bad => rw [em] at k; exact False.elim k
  | ex x r1 =>
    rw [em] at k
    refine i g r σ F Q re ?_
    rw [em]
    exact k
  | ok u r1 =>
    rw [em] at k
    refine i g r σ F Q re ?_
    rw [em]
    intro g1 F1 t1 re1 v fp o x s
    have al : ∀ a ∈ fp, ∃ o, g1.H a = some o := fun a ma => let ⟨o, q, _⟩ := o.mu ma; ⟨o, q⟩
    obtain ⟨re2, kp⟩ := re1.frz x al
    exact k ⟨g1.H, fun a => g1.L a ∨ a ∈ fp⟩ F1 (t1.frz s) re2 v (o.fz kp fun a ma => ⟨.inr ma, rfl⟩)

/-! ### names, constants -/
theorem se_var {i : Nat} {x : Str} {pos : Pos} (hN : C.X.N[i]? = some x) (hv : Vis C.X.env.scope x) (hd : (x == ("__debug__" : Str)) = false) (hcd : (x == ("__classdict__" : Str)) = false) :
    SE C (.Name x pos) (fun r => match rdV r i with | some (w, r1) => .ok w r1 | none => .bad) := by
  refine ⟨_, pe_var hN hv hd hcd, fun g r σ F Q re k => ?_⟩
  dsimp only at k
  cases hr : rdV r i with
  | none => rw [hr] at k; exact False.elim k
  | some q =>
    obtain ⟨w, r1⟩ := q
    rw [hr] at k
    unfold rdV at hr
    rw [nth_iff] at hr
    cases he : r[i]? with
    | none => rw [he] at hr; cases hr
    | some e =>
      rw [he] at hr
      obtain ⟨o, h1, h2⟩ := re.at_ i e he
      cases e with
      | no => cases hr
      | x c ks ws => cases hr
      | t u =>
        cases u with
        | d w' =>
          cases hr
          obtain ⟨v, _, rfl, _, h3⟩ := h2
          exact ⟨v, h1, k g F (.refl g F) re v h3⟩
        | _ => cases hr
      | m u =>
        obtain ⟨v, rfl, h3⟩ := h2
        have own : r1 = r.set i (.m (.d (fz u))) → w = fz u → ∃ v, σ[i]? = some (some v) ∧ Q v g.H := by
          rintro rfl rfl
          refine ⟨v, h1, ?_⟩
          have hi := lt_of_get he
          have al : ∀ a ∈ F i, ∃ o, g.H a = some o := fun a ma => let ⟨o, q, _⟩ := h3.mu ma; ⟨o, q⟩
          have re1 := re.drop (i := i) (o := some v) hi
          rw [set_self h1] at re1
          have x : Tmp g (F.set i []) (F i) := ⟨re.nod i, re.nl i, fun a m j mj => by
            by_cases hj : j = i
            · subst hj; rw [Fp.set_same] at mj; cases mj
            · rw [Fp.set_ne hj] at mj; exact hj (re.dis j i a mj m)⟩
          obtain ⟨re2, kp⟩ := re1.frz x al
          have rw := h3.fz kp fun a ma => ⟨.inr ma, rfl⟩
          have re3 := re2.bind (i := i) (u := .d (fz u)) (v := v) (fp := []) (by simpa using hi) ⟨rfl, rw⟩ tmp_nil
          rw [List.set_set, set_self h1] at re3
          have go : Go g F ⟨g.H, fun a => g.L a ∨ a ∈ F i⟩ ((F.set i []).set i []) := ⟨fun _ l => .inl l, fun _ _ h _ => h, fun _ h => h, fun b l => by
            rcases l with l | l
            · exact .inl l
            · exact .inr (.inr ⟨i, l⟩), fun j b m => by
            by_cases hj : j = i
            · subst hj; rw [Fp.set_same] at m; cases m
            · rw [Fp.set_ne hj, Fp.set_ne hj] at m; exact .inr ⟨j, m⟩⟩
          exact k ⟨g.H, fun a => g.L a ∨ a ∈ F i⟩ _ go re3 v rw
        cases u with
        | d w' =>
          cases hr
          exact ⟨v, h1, k g F (.refl g F) re v h3.2⟩
        | l us => cases hr; exact own rfl rfl
        | c ks us => cases hr; exact own rfl rfl
        | o c ks us => cases hr; exact own rfl rfl
theorem sv_var {i : Nat} {x : Str} {pos : Pos} (hN : C.X.N[i]? = some x) (hv : Vis C.X.env.scope x) (hd : (x == ("__debug__" : Str)) = false) (hcd : (x == ("__classdict__" : Str)) = false) :
    SV C (.Name x pos) (fun r => match lookU r i with | some _ => .ok (.sl i) r | none => .bad) := by
  refine ⟨_, pe_var hN hv hd hcd, fun g r σ F Q re k => ?_⟩
  dsimp only at k
  cases hr : lookU r i with
  | none => rw [hr] at k; exact False.elim k
  | some u =>
    rw [hr] at k
    obtain ⟨v, x, _, _, h3, _⟩ := re.look hr
    exact ⟨v, h3, k g F (.refl g F) re v h3⟩
/-- a name's own thing is moved -/
theorem su_mv {i : Nat} {x : Str} {pos : Pos} (hN : C.X.N[i]? = some x) (hv : Vis C.X.env.scope x) (hd : (x == ("__debug__" : Str)) = false) (hcd : (x == ("__classdict__" : Str)) = false) :
    SU C (.Name x pos) (fun r => match mvV r i with | some (u, r1) => .ok u r1 | none => .bad) := by
  refine ⟨_, pe_var hN hv hd hcd, fun g r σ F Q re k => ?_⟩
  dsimp only at k
  cases hr : mvV r i with
  | none => rw [hr] at k; exact False.elim k
  | some q =>
    obtain ⟨u, r1⟩ := q
    rw [hr] at k
    unfold mvV at hr
    rw [nth_iff] at hr
    cases he : r[i]? with
    | none => rw [he] at hr; cases hr
    | some e =>
      rw [he] at hr
      cases e with
      | m w =>
        cases hr
        obtain ⟨o, h1, v, rfl, h3⟩ := re.at_ i _ he
        refine ⟨v, h1, ?_⟩
        have hi := lt_of_get he
        have re1 := re.drop (i := i) (o := some v) hi
        rw [set_self h1] at re1
        have x : Tmp g (F.set i []) (F i) := ⟨re.nod i, re.nl i, fun a m j mj => by
          by_cases hj : j = i
          · subst hj; rw [Fp.set_same] at mj; cases mj
          · rw [Fp.set_ne hj] at mj; exact hj (re.dis j i a mj m)⟩
        have go : Go g F g (F.set i []) := ⟨fun _ l => l, fun _ _ h _ => h, fun _ h => h, fun b l => .inl l, fun j b m => by
            by_cases hj : j = i
            · subst hj; rw [Fp.set_same] at m; cases m
            · rw [Fp.set_ne hj] at m; exact .inr ⟨j, m⟩⟩
        exact k g _ go re1 v (F i) h3 x (fun a m => .inr ⟨i, m⟩)
      | _ => cases hr
theorem se_const {e : Expr} {w : W} {v : V} (p : PE C.X e (tC v)) (h : ∀ g, RW C.Z g w v) : SE C e (fun r => .ok w r) :=
  ⟨_, p, fun g r σ F Q re k => k.now re v (h g)⟩
theorem se_unk {e : Expr} : SE C e (fun _ => .bad) := ⟨fun _ _ _ => False, ⟨fun _ _ _ _ _ _ h => h.elim⟩, fun g r σ F Q re k => k⟩

/-! ### arguments -/
def star_any_d : Unit := ()
def notStar : Expr → Bool
  | .Starred _ _ => false
  | _ => true
theorem star_ {e : Expr} {es : List Expr} {env : PySem.Env} (h : notStar e = true) : starEach (e :: es) env = (false, eval e env) :: starEach es env := by
  cases e <;> first | rfl | cases h
theorem star_any {pos : Pos} {env : PySem.Env} : ∀ {es : List Expr}, es.all notStar = true → (backTo pos (starEach es env)).any (·.1) = false
  | [], _ => rfl
  | e :: es, h => by
    rw [List.all_cons, Bool.and_eq_true] at h
    rw [star_ h.1]
    show (false || (backTo pos (starEach es env)).any (·.1)) = false
    rw [star_any h.2]; rfl
theorem sa_nil {f : IE → Env → Res W} : SA C [] (evs f []) := ⟨_, pa_nil, fun g r σ F Q re k => k.now re [] rfl⟩
theorem sa_cons {f : IE → Env → Res W} {e : Expr} {es : List Expr} {i : IE} {is : List IE} (hn : notStar e = true) (h1 : SE C e (f i)) (h2 : SA C es (evs f is)) : SA C (e :: es) (evs f (i :: is)) := by
  obtain ⟨ta, pa, ia⟩ := h1
  obtain ⟨tb, pb, ib⟩ := h2
  refine ⟨_, pa_cons pa pb (star_ hn), fun g r σ F Q re k => ?_⟩
  refine ia g r σ F _ re (k.seq fun w r1 g1 F1 t1 re1 k1 v rv => ?_)
  refine ib g1 r1 σ F1 _ re1 (k1.seq fun ws r2 g2 F2 t2 re2 k2 vs rvs => ?_)
  exact k2.now re2 (v :: vs) ⟨v, vs, rfl, rv.kp (t2.kp re1), rvs⟩
theorem sav_nil {f : IV → Env → Res Arg} : SAV C [] (evs f []) := ⟨_, pa_nil, fun g r σ F Q re k => k.now re [] rfl⟩
theorem sav_cons {f : IV → Env → Res Arg} {e : Expr} {es : List Expr} {i : IV} {is : List IV} (hn : notStar e = true) (h1 : SV C e (f i)) (h2 : SAV C es (evs f is)) : SAV C (e :: es) (evs f (i :: is)) := by
  obtain ⟨ta, pa, ia⟩ := h1
  obtain ⟨tb, pb, ib⟩ := h2
  refine ⟨_, pa_cons pa pb (star_ hn), fun g r σ F Q re k => ?_⟩
  refine ia g r σ F _ re (k.seq fun w r1 g1 F1 t1 re1 k1 v rv => ?_)
  refine ib g1 r1 σ F1 _ re1 (k1.seq fun ws r2 g2 F2 t2 re2 k2 vs rvs => ?_)
  exact k2.now re2 (v :: vs) ⟨v, vs, rfl, rv.go re1 t2, rvs⟩
end
end FM


set_option Elab.async false
set_option linter.all false
set_option maxRecDepth 100000
set_option maxHeartbeats 2000000
namespace FM
open PySem L2

/-! ### data -/
mutual
def datW : W → PyData
  | .non => .none
  | .bl b => .bool b
  | .int i => .int i
  | .str s => .str (sv s)
  | .tup ws => .tuple (datWs ws)
  | .lis ws => .list (datWs ws)
  | .dic _ _ => .none
  | .obj _ _ _ => .none
  | .scr _ => .none
def datWs : List W → List PyData
  | [] => []
  | w :: ws => datW w :: datWs ws
end
section
variable {Z : Kx} {g : Sg}
theorem sqL_of {K : PySem.W.Frag} {H : Hp} {p : Addr} {xs : List V} (h : H p = some (.lst xs)) : SqL K H p xs := .inl (.inl h)
mutual
theorem dp_of : ∀ {n : Nat} {w : W} {v : V}, okW n w = true → RW Z g w v → Dp Z.K g.H v (datW w)
  | _, .non, _, _, h => by cases h; exact .non
  | _, .bl b, _, _, h => by cases h; exact .bl b
  | _, .int b, _, _, h => by cases h; exact .int b
  | _, .str b, _, _, h => by cases h; exact .str _
  | 0, .tup ws, _, o, h => by cases o
  | n + 1, .tup ws, _, o, h => by
    obtain ⟨a, xs, rfl, h1, h2⟩ := h
    exact .tup h1.1 (dps_of (n := n) o h2)
  | 0, .lis ws, _, o, h => by cases o
  | n + 1, .lis ws, _, o, h => by
    obtain ⟨a, xs, rfl, _, h1, h2⟩ := h
    exact .lst (sqL_of h1) (dps_of (n := n) o h2)
  | _, .dic _ _, _, o, _ => by simp [okW] at o
  | _, .obj _ _ _, _, o, _ => by simp [okW] at o
  | _, .scr _, _, o, _ => by simp [okW] at o
theorem dps_of : ∀ {n : Nat} {ws : List W} {vs : List V}, okWs n ws = true → RWs Z g ws vs → DpAll Z.K g.H vs (datWs ws)
  | _, [], _, _, h => by cases h; exact .nil
  | n, w :: ws, _, o, h => by
    obtain ⟨x, r, rfl, h1, h2⟩ := h
    simp only [okWs, Bool.and_eq_true] at o
    exact .cons (dp_of o.1 h1) (dps_of o.2 h2)
end
theorem dp_br {n : Nat} {w : W} {v : V} (o : okW n w = true) (h : BR Z g w v) : Dp Z.K g.H v (datW w) := by
  cases w with
  | lis ws =>
    cases n with
    | zero => cases o
    | succ n =>
      obtain ⟨a, xs, rfl, h1, h2⟩ := h
      exact .lst (sqL_of h1) (dps_of (n := n) o h2)
  | dic _ _ => simp [okW] at o
  | obj _ _ _ => simp [okW] at o
  | _ => exact dp_of o h
end
mutual
theorem plain_dat : ∀ w : W, (datW w).plain = true
  | .non => rfl
  | .bl _ => rfl
  | .int _ => rfl
  | .str _ => rfl
  | .tup ws => plain_dats ws
  | .lis ws => plain_dats ws
  | .dic _ _ => rfl
  | .obj _ _ _ => rfl
  | .scr _ => rfl
theorem plain_dats : ∀ ws : List W, PyData.plainAll (datWs ws) = true
  | [] => rfl
  | w :: ws => by simp only [datWs, PyData.plainAll, plain_dat w, plain_dats ws, Bool.and_self]
end
mutual
theorem depth_dat : ∀ {n : Nat} {w : W}, okW n w = true → (datW w).depth ≤ n
  | _, .non, _ => by simp [datW, PyData.depth]
  | _, .bl _, _ => by simp [datW, PyData.depth]
  | _, .int _, _ => by simp [datW, PyData.depth]
  | _, .str _, _ => by simp [datW, PyData.depth]
  | 0, .tup ws, o => by cases o
  | n + 1, .tup ws, o => by
    have := depth_dats (n := n) (ws := ws) o
    simp only [datW, PyData.depth]
    omega
  | 0, .lis ws, o => by cases o
  | n + 1, .lis ws, o => by
    have := depth_dats (n := n) (ws := ws) o
    simp only [datW, PyData.depth]
    omega
  | _, .dic _ _, o => by simp [okW] at o
  | _, .obj _ _ _, o => by simp [okW] at o
  | _, .scr _, o => by simp [okW] at o
theorem depth_dats : ∀ {n : Nat} {ws : List W}, okWs n ws = true → PyData.depthAll (datWs ws) ≤ n
  | n, [], _ => by simp [datWs, PyData.depthAll]
  | n, w :: ws, o => by
    simp only [okWs, Bool.and_eq_true] at o
    have h1 := depth_dat o.1
    have h2 := depth_dats o.2
    simp only [datWs, PyData.depthAll]
    omega
end
theorem sv_beq (a b : List Nat) : (sv a == sv b) = eqS a b := by
  rw [Bool.eq_iff_iff, beq_iff_eq, eqS_iff]
  exact ⟨sv_inj, fun h => by rw [h]⟩
mutual
theorem eqv_dat : ∀ {n m : Nat} {a b : W}, okW n a = true → okW m b = true → PyData.eqv (datW a) (datW b) = eqP a b
  | _, _, .dic _ _, _, o, _ => by simp [okW] at o
  | _, _, .obj _ _ _, _, o, _ => by simp [okW] at o
  | _, _, .scr _, _, o, _ => by simp [okW] at o
  | _, _, .non, b, _, o => by cases b <;> first | rfl | (simp [okW] at o)
  | _, _, .bl a, b, _, o => by cases b <;> first | rfl | (simp [okW] at o) | (simp [datW, PyData.eqv, eqP, Bool.beq_eq_decide_eq]; done)
  | _, _, .int a, b, _, o => by cases b <;> first | rfl | (simp [okW] at o) | (simp [datW, PyData.eqv, eqP, Bool.beq_eq_decide_eq]; done)
  | _, _, .str a, b, _, o => by
    cases b with
    | str t => simp only [datW, PyData.eqv, eqP]; exact sv_beq _ _
    | dic _ _ => simp [okW] at o
    | obj _ _ _ => simp [okW] at o
    | scr _ => simp [okW] at o
    | _ => rfl
  | n, m, .tup as, b, o1, o2 => by
    cases b with
    | tup bs =>
      cases n with
      | zero => cases o1
      | succ n =>
        cases m with
        | zero => cases o2
        | succ m =>
          simp only [datW, PyData.eqv, eqP]
          exact eqv_dats (n := n) (m := m) o1 o2
    | dic _ _ => simp [okW] at o2
    | obj _ _ _ => simp [okW] at o2
    | scr _ => simp [okW] at o2
    | _ => rfl
  | n, m, .lis as, b, o1, o2 => by
    cases b with
    | lis bs =>
      cases n with
      | zero => cases o1
      | succ n =>
        cases m with
        | zero => cases o2
        | succ m =>
          simp only [datW, PyData.eqv, eqP]
          exact eqv_dats (n := n) (m := m) o1 o2
    | dic _ _ => simp [okW] at o2
    | obj _ _ _ => simp [okW] at o2
    | scr _ => simp [okW] at o2
    | _ => rfl
theorem eqv_dats : ∀ {n m : Nat} {a b : List W}, okWs n a = true → okWs m b = true → PyData.eqvAll (datWs a) (datWs b) = eqPs a b
  | _, _, [], [], _, _ => rfl
  | _, _, [], _ :: _, _, _ => rfl
  | _, _, _ :: _, [], _, _ => rfl
  | n, m, a :: as, b :: bs, o1, o2 => by
    simp only [okWs, Bool.and_eq_true] at o1 o2
    simp only [datWs, PyData.eqvAll, eqPs]
    rw [eqv_dat o1.1 o2.1, eqv_dats o1.2 o2.2]
end

/-! ### rules by data -/
section
variable {X : Cx}
def rEqP (K : PySem.W.Frag) (k : Bool) : R2 := fun x y H Q => ∃ d e, Dp K H x d ∧ Dp K H y e ∧ d.plain = true ∧ e.plain = true ∧ d.depth ≤ 61 ∧ Q (.bl (if k then PyData.eqv d e else !PyData.eqv d e)) H
theorem op_eqP (hu : X.A.units + 64 < cLine) : OpR X (compareOp .Eq) (rEqP X.K true) := by
  intro pins s σ H x y v u Q I rx ry h
  obtain ⟨d, e, hd, he, pd, pe, dd, q⟩ := h
  obtain ⟨as, r1⟩ := Dp.reads I d x v hd rx
  obtain ⟨bs, r2⟩ := Dp.reads I e y u he ry
  exact SeqAt.eq_plain r1 r2 pd pe (by omega) ⟨.bl _, H, I, rfl, q⟩
theorem op_neP (hu : X.A.units + 64 < cLine) : OpR X (compareOp .NotEq) (rEqP X.K false) := by
  intro pins s σ H x y v u Q I rx ry h
  obtain ⟨d, e, hd, he, pd, pe, dd, q⟩ := h
  obtain ⟨as, r1⟩ := Dp.reads I d x v hd rx
  obtain ⟨bs, r2⟩ := Dp.reads I e y u he ry
  exact SeqAt.ne_plain r1 r2 pd pe (by omega) ⟨.bl _, H, I, rfl, q⟩
def rInP (K : PySem.W.Frag) (k : Bool) : R2 := fun x y H Q => ∃ d ds, Dp K H x d ∧ (Dp K H y (.list ds) ∨ Dp K H y (.tuple ds)) ∧ d.plain = true ∧ PyData.plainAll ds = true ∧ d.depth ≤ 61 ∧ Q (.bl (if k then ds.any fun y => PyData.eqv y d else !ds.any fun y => PyData.eqv y d)) H
theorem op_inP (hu : X.A.units + 64 < cLine) : OpR X (compareOp .In) (rInP X.K true) := by
  intro pins s σ H x y v u Q I rx ry h
  obtain ⟨d, ds, hd, he, pd, pe, dd, q⟩ := h
  obtain ⟨as, r1⟩ := Dp.reads I d x v hd rx
  rcases he with he | he
  · obtain ⟨bs, r2⟩ := Dp.reads I _ y u he ry
    exact SeqAt.in_list_data r2 r1 pe pd (by omega) ⟨.bl _, H, I, rfl, q⟩
  · obtain ⟨bs, r2⟩ := Dp.reads I _ y u he ry
    exact SeqAt.in_tuple_data r2 r1 pe pd (by omega) ⟨.bl _, H, I, rfl, q⟩
theorem op_ninP (hu : X.A.units + 64 < cLine) : OpR X (compareOp .NotIn) (rInP X.K false) := by
  intro pins s σ H x y v u Q I rx ry h
  obtain ⟨d, ds, hd, he, pd, pe, dd, q⟩ := h
  obtain ⟨as, r1⟩ := Dp.reads I d x v hd rx
  rcases he with he | he
  · obtain ⟨bs, r2⟩ := Dp.reads I _ y u he ry
    exact SeqAt.notIn_list_data r2 r1 pe pd (by omega) ⟨.bl _, H, I, rfl, q⟩
  · obtain ⟨bs, r2⟩ := Dp.reads I _ y u he ry
    exact SeqAt.notIn_tuple_data r2 r1 pe pd (by omega) ⟨.bl _, H, I, rfl, q⟩

/-! ### comparisons by the evaluator -/
theorem any_dat {x : W} (ox : okW 60 x = true) : ∀ {n : Nat} {ws : List W}, okWs n ws = true → ((datWs ws).any fun y => PyData.eqv y (datW x)) = inW x ws
  | _, [], _ => rfl
  | n, w :: ws, o => by
    simp only [okWs, Bool.and_eq_true] at o
    have h := any_dat ox o.2
    simp only [datWs, List.any_cons, inW] at h ⊢
    rw [eqv_dat o.1 ox, h]
theorem ltS_iff : ∀ {a b : List Nat}, ltS a b = decide (a < b)
  | _, [] => by simp [ltS]
  | [], _ :: _ => by simp [ltS]
  | a :: as, b :: bs => by
    simp only [ltS]
    rw [ltS_iff (a := as) (b := bs)]
    by_cases h : a < b
    · simp [Nat.blt_eq, h, List.cons_lt_cons_iff]
    · by_cases e : a = b
      · subst e
        simp [List.cons_lt_cons_iff]
      · have : Nat.beq a b = false := by rw [← Bool.not_eq_true, Nat.beq_eq]; exact e
        simp [Nat.blt_eq, h, e, this, List.cons_lt_cons_iff]
/-- the operator's name -/
def C2.op : C2 → CmpOp
  | .eq => .Eq | .ne => .NotEq | .lt => .Lt | .le => .LtE | .gt => .Gt | .ge => .GtE | .is => .Is | .isn => .IsNot | .inn => .In | .nin => .NotIn
/-- what a comparison's rule must do -/
def CmpR (C : Cz) (op : C2) (r : R2) : Prop := OpR C.X (compareOp op.op) r ∧ ∀ (g : Sg) (x y : W) (b : Bool) (vx vy : V) (Q : VK), cmpW op x y = some b → BR C.Z g x vx → BR C.Z g y vy → Q (.bl b) g.H → r vx vy g.H Q
end
section
variable {C : Cz}
theorem eqW_dat {g : Sg} {x y : W} {b : Bool} {vx vy : V} (h : eqW x y = some b) (rx : BR C.Z g x vx) (ry : BR C.Z g y vy) :
    ∃ d e, Dp C.X.K g.H vx d ∧ Dp C.X.K g.H vy e ∧ d.plain = true ∧ e.plain = true ∧ d.depth ≤ 61 ∧ PyData.eqv d e = b := by
  unfold eqW at h
  split at h
  · rename_i o
    rw [Bool.and_eq_true] at o
    cases h
    exact ⟨_, _, dp_br (Z := C.Z) o.1 rx, dp_br (Z := C.Z) o.2 ry, plain_dat x, plain_dat y, Nat.le_trans (depth_dat o.1) (by decide), eqv_dat o.1 o.2⟩
  · cases h
theorem cmp_eq (hu : C.X.A.units + 64 < cLine) : CmpR C .eq (rEqP C.X.K true) := ⟨op_eqP hu, fun g x y b vx vy Q h rx ry q => by
  obtain ⟨d, e, h1, h2, h3, h4, h5, h6⟩ := eqW_dat (show eqW x y = some b from h) rx ry
  exact ⟨d, e, h1, h2, h3, h4, h5, by rw [if_pos rfl, h6]; exact q⟩⟩
theorem cmp_ne (hu : C.X.A.units + 64 < cLine) : CmpR C .ne (rEqP C.X.K false) := ⟨op_neP hu, fun g x y b vx vy Q h rx ry q => by
  obtain ⟨c, hc, rfl⟩ := Option.map_eq_some_iff.mp (show (eqW x y).map (!·) = some b from h)
  obtain ⟨d, e, h1, h2, h3, h4, h5, h6⟩ := eqW_dat hc rx ry
  exact ⟨d, e, h1, h2, h3, h4, h5, by rw [if_neg (by decide), h6]; exact q⟩⟩
/-! ### keys -/
theorem key_of {Z : Kx} {g : Sg} {w : W} {v : V} (hk : keyOk w = true) (r : RW Z g w v) : ∃ k : Key, v = kV k ∧ keyR w k := by
  cases w <;> cases hk
  · cases r; exact ⟨.inl _, rfl, rfl⟩
  · cases r; exact ⟨.inr _, rfl, rfl⟩
theorem keyR_beq {u w : W} {k l : Key} (h1 : keyR u k) (h2 : keyR w l) : beqW u w = decide (k = l) := by
  cases u <;> cases w <;> first | (cases h1; done) | (cases h2; done) | skip
  · cases h1; cases h2
    simp [beqW]
  · cases h1; cases h2
    simp [beqW]
  · cases h1; cases h2
    simp [beqW]
  · cases h1; cases h2
    rw [Bool.eq_iff_iff]
    simp only [beqW, eqS_iff, decide_eq_true_eq]
    exact ⟨fun h => by rw [h], fun h => sv_inj (Sum.inr.inj h)⟩
theorem KeysR.length : ∀ {ks : List W} {ys : List Key}, KeysR ks ys → ks.length = ys.length
  | [], _, h => by cases h; rfl
  | k :: ks, _, h => by
    obtain ⟨l, r, rfl, _, h2⟩ := h
    simp [KeysR.length h2]
theorem dhas_val {w : W} {k : Key} (hk : keyR w k) : ∀ {ks : List W} {ys : List (Key × V)}, KeysR ks (ys.map (·.1)) → dhas w ks = (valV ys k).isSome
  | [], ys, h => by
    have : ys = [] := List.map_eq_nil_iff.mp h
    subst this; rfl
  | l :: ks, ys, h => by
    obtain ⟨q, r, e, h1, h2⟩ := h
    cases ys with
    | nil => cases e
    | cons y ys =>
      cases e
      have ih := dhas_val hk h2
      have e2 := keyR_beq h1 hk
      unfold dhas valV
      rw [e2]
      by_cases hl : y.1 = k
      · simp [List.find?_cons, hl]
      · simp only [decide_eq_false hl, List.find?_cons, Bool.false_or]
        exact ih
theorem dfind_val {Z : Kx} {g : Sg} {w : W} {k : Key} (hk : keyR w k) : ∀ {ks ws : List W} {ys : List (Key × V)}, KeysR ks (ys.map (·.1)) → RWs Z g ws (ys.map (·.2)) → (∀ u, dfind w ks ws = some u → ∃ v, valV ys k = some v ∧ RW Z g u v) ∧ (dfind w ks ws = none → valV ys k = none)
  | [], ws, ys, h, _ => by
    have : ys = [] := List.map_eq_nil_iff.mp h
    subst this
    exact ⟨fun u e => (by cases ws <;> cases e), fun _ => rfl⟩
  | l :: ks, ws, ys, h, hw => by
    obtain ⟨q, r, e, h1, h2⟩ := h
    cases ys with
    | nil => cases e
    | cons y ys =>
      cases e
      cases ws with
      | nil => cases hw
      | cons z ws =>
        obtain ⟨x, t, et, hx, hw2⟩ := hw
        cases et
        have ih := dfind_val hk h2 hw2
        have e2 := keyR_beq h1 hk
        unfold dfind valV
        rw [e2]
        by_cases hl : y.1 = k
        · rw [if_pos (by simp [hl])]
          simp only [List.find?_cons, hl, decide_true, Option.map_some]
          exact ⟨fun u e => (by cases e; exact ⟨y.2, rfl, hx⟩), fun e => (by cases e)⟩
        · rw [if_neg (by simp [hl])]
          simp only [decide_eq_false hl, List.find?_cons]
          exact ih
theorem op_inK {X : Cx} (hu : X.A.units + 1 < cLine) : OpR X (compareOp .In) (fun x y H Q => ∃ a o, y = .ref a ∧ DGet H a x o ∧ Q (.bl o.isSome) H) := by
  intro pins s σ H x y v u Q I rx ry h
  obtain ⟨a, o, rfl, hg, q⟩ := h
  obtain rfl : u = Value.ref a := ry
  exact d_in hu I hg rx fun s3 I3 => ⟨.bl o.isSome, H, I3, rfl, q⟩
theorem op_ninK {X : Cx} (hu : X.A.units + 1 < cLine) : OpR X (compareOp .NotIn) (fun x y H Q => ∃ a o, y = .ref a ∧ DGet H a x o ∧ Q (.bl (!o.isSome)) H) := by
  intro pins s σ H x y v u Q I rx ry h
  obtain ⟨a, o, rfl, hg, q⟩ := h
  obtain rfl : u = Value.ref a := ry
  exact d_notIn hu I hg rx fun s3 I3 => ⟨.bl (!o.isSome), H, I3, rfl, q⟩
theorem OpR.or {X : Cx} {f : Value → Value → Sem Value} {r r' : R2} (a : OpR X f r) (b : OpR X f r') : OpR X f (fun x y H Q => r x y H Q ∨ r' x y H Q) := by
  intro pins s σ H x y v u Q I rx ry h
  rcases h with h | h
  · exact a pins s σ H x y v u Q I rx ry h
  · exact b pins s σ H x y v u Q I rx ry h
theorem keyOk_rw {Z : Kx} {g : Sg} {w : W} {v : V} (hk : keyOk w = true) (h : BR Z g w v) : RW Z g w v := by
  cases w <;> first | exact h | cases hk
theorem inV_dat {g : Sg} {x y : W} {b : Bool} {vx vy : V} (h : inV x y = some b) (rx : BR C.Z g x vx) (ry : BR C.Z g y vy) :
    (∃ d ds, Dp C.X.K g.H vx d ∧ (Dp C.X.K g.H vy (.list ds) ∨ Dp C.X.K g.H vy (.tuple ds)) ∧ d.plain = true ∧ PyData.plainAll ds = true ∧ d.depth ≤ 61 ∧ (ds.any fun y => PyData.eqv y d) = b) ∨
    ∃ a o, vy = .ref a ∧ DGet g.H a vx o ∧ o.isSome = b := by
  have seq : ∀ {ws : List W}, (∀ ks vs, y ≠ .dic ks vs) → (if okW 60 x then (seqW y).bind fun ws => if okWs 60 ws then some (inW x ws) else none else none) = some b →
      (∃ d ds, Dp C.X.K g.H vx d ∧ (Dp C.X.K g.H vy (.list ds) ∨ Dp C.X.K g.H vy (.tuple ds)) ∧ d.plain = true ∧ PyData.plainAll ds = true ∧ d.depth ≤ 61 ∧ (ds.any fun y => PyData.eqv y d) = b) := fun {_} _ h => by
    split at h
    · rename_i ox
      obtain ⟨ws, h1, h2⟩ := Option.bind_eq_some_iff.mp h
      split at h2
      · rename_i ow
        cases h2
        obtain ⟨p, xs, rfl, h3, h4⟩ := ry.seq h1
        refine ⟨_, datWs ws, dp_br (Z := C.Z) ox rx, ?_, plain_dat x, plain_dats ws, Nat.le_trans (depth_dat ox) (by decide), any_dat ox ow⟩
        rcases h3 with h3 | h3
        · exact .inl (.lst h3 (dps_of ow h4))
        · exact .inr (.tup h3 (dps_of ow h4))
      · cases h2
    · cases h
  cases y with
  | dic ks vs =>
    have h : (if keyOk x then some (dhas x ks) else none) = some b := h
    split at h
    · rename_i hk
      cases h
      obtain ⟨a, xs, rfl, ⟨ys, h1, h2, rfl⟩, _⟩ := ry
      obtain ⟨k, rfl, kr⟩ := key_of hk (keyOk_rw hk rx)
      exact .inr ⟨a, _, rfl, DGet.k h1, (dhas_val kr h2).symm⟩
    · cases h
  | _ => exact .inl (seq (ws := []) (fun _ _ e => nomatch e) h)
theorem cmp_in (hu : C.X.A.units + 64 < cLine) : CmpR C .inn (fun x y H Q => rInP C.X.K true x y H Q ∨ ∃ a o, y = .ref a ∧ DGet H a x o ∧ Q (.bl o.isSome) H) := ⟨OpR.or (op_inP hu) (op_inK (by omega)), fun g x y b vx vy Q h rx ry q => by
  rcases inV_dat (show inV x y = some b from h) rx ry with ⟨d, ds, h1, h2, h3, h4, h5, rfl⟩ | ⟨a, o, h1, h2, rfl⟩
  · exact .inl ⟨d, ds, h1, h2, h3, h4, h5, by rw [if_pos rfl]; exact q⟩
  · exact .inr ⟨a, o, h1, h2, q⟩⟩
theorem cmp_nin (hu : C.X.A.units + 64 < cLine) : CmpR C .nin (fun x y H Q => rInP C.X.K false x y H Q ∨ ∃ a o, y = .ref a ∧ DGet H a x o ∧ Q (.bl (!o.isSome)) H) := ⟨OpR.or (op_ninP hu) (op_ninK (by omega)), fun g x y b vx vy Q h rx ry q => by
  obtain ⟨c, hc, rfl⟩ := Option.map_eq_some_iff.mp (show (inV x y).map (!·) = some b from h)
  rcases inV_dat hc rx ry with ⟨d, ds, h1, h2, h3, h4, h5, rfl⟩ | ⟨a, o, h1, h2, rfl⟩
  · exact .inl ⟨d, ds, h1, h2, h3, h4, h5, by rw [if_neg (by decide)]; exact q⟩
  · exact .inr ⟨a, o, h1, h2, q⟩⟩
theorem cmp_lt : CmpR C .lt (fun x y H Q => (∃ i j, x = .int i ∧ y = .int j ∧ Q (.bl (decide (i < j))) H) ∨ ∃ i j, x = .str i ∧ y = .str j ∧ Q (.bl (decide (i.cps.toList < j.cps.toList))) H) := ⟨op_lt.or op_lt_str, fun g x y b vx vy Q h rx ry q => by
  cases x <;> cases y <;> cases h
  · cases rx; cases ry; exact .inl ⟨_, _, rfl, rfl, q⟩
  · cases rx; cases ry; exact .inr ⟨_, _, rfl, rfl, by rw [sv_list, sv_list, ← ltS_iff]; exact q⟩⟩
theorem cmp_le : CmpR C .le (fun x y H Q => (∃ i j, x = .int i ∧ y = .int j ∧ Q (.bl (decide (i ≤ j))) H) ∨ ∃ i j, x = .str i ∧ y = .str j ∧ Q (.bl (!decide (j.cps.toList < i.cps.toList))) H) := ⟨op_le.or op_le_str, fun g x y b vx vy Q h rx ry q => by
  cases x <;> cases y <;> cases h
  · cases rx; cases ry; exact .inl ⟨_, _, rfl, rfl, q⟩
  · cases rx; cases ry; exact .inr ⟨_, _, rfl, rfl, by rw [sv_list, sv_list, ← ltS_iff]; exact q⟩⟩
theorem cmp_gt : CmpR C .gt (fun x y H Q => (∃ i j, x = .int i ∧ y = .int j ∧ Q (.bl (decide (j < i))) H) ∨ ∃ i j, x = .str i ∧ y = .str j ∧ Q (.bl (decide (j.cps.toList < i.cps.toList))) H) := ⟨op_gt.or op_gt_str, fun g x y b vx vy Q h rx ry q => by
  cases x <;> cases y <;> cases h
  · cases rx; cases ry; exact .inl ⟨_, _, rfl, rfl, q⟩
  · cases rx; cases ry; exact .inr ⟨_, _, rfl, rfl, by rw [sv_list, sv_list, ← ltS_iff]; exact q⟩⟩
theorem cmp_ge : CmpR C .ge (fun x y H Q => (∃ i j, x = .int i ∧ y = .int j ∧ Q (.bl (decide (j ≤ i))) H) ∨ ∃ i j, x = .str i ∧ y = .str j ∧ Q (.bl (!decide (i.cps.toList < j.cps.toList))) H) := ⟨op_ge.or op_ge_str, fun g x y b vx vy Q h rx ry q => by
  cases x <;> cases y <;> cases h
  · cases rx; cases ry; exact .inl ⟨_, _, rfl, rfl, q⟩
  · cases rx; cases ry; exact .inr ⟨_, _, rfl, rfl, by rw [sv_list, sv_list, ← ltS_iff]; exact q⟩⟩
theorem BR.non {Z : Kx} {g : Sg} {w : W} {v : V} (h : BR Z g w v) : decide (v = V.non) = (match w with | .non => true | _ => false) := by
  cases w with
  | non => cases h; rfl
  | bl b => cases h; rfl
  | int b => cases h; rfl
  | str b => cases h; rfl
  | tup ws => obtain ⟨a, xs, rfl, _⟩ := h; rfl
  | lis ws => obtain ⟨a, xs, rfl, _⟩ := h; rfl
  | dic ks ws => obtain ⟨a, xs, rfl, _⟩ := h; rfl
  | obj c ks ws => obtain ⟨a, xs, rfl, _⟩ := h; rfl
  | scr ws => obtain ⟨a, xs, rfl, _⟩ := h; rfl
theorem cmp_is : CmpR C .is (fun x y H Q => (y = .non ∧ Q (.bl (decide (x = .non))) H) ∨ rIsB x y H Q) := ⟨op_isN.or op_isBl, fun g x y b vx vy Q h rx ry q => by
  cases y with
  | non =>
    cases ry
    refine .inl ⟨rfl, ?_⟩
    rw [rx.non]
    cases x <;> cases h <;> exact q
  | bl c =>
    cases x <;> cases h
    cases rx; cases ry
    exact .inr ⟨_, _, rfl, rfl, by rw [← Bool.beq_eq_decide_eq]; exact q⟩
  | _ => cases x <;> cases h⟩
theorem cmp_isn : CmpR C .isn (fun x y H Q => (y = .non ∧ Q (.bl (!decide (x = .non))) H) ∨ rNotB x y H Q) := ⟨op_notN.or op_notBl, fun g x y b vx vy Q h rx ry q => by
  cases y with
  | non =>
    cases ry
    refine .inl ⟨rfl, ?_⟩
    rw [rx.non]
    cases x <;> cases h <;> exact q
  | bl c =>
    cases x <;> cases h
    cases rx; cases ry
    exact .inr ⟨_, _, rfl, rfl, by rw [← Bool.beq_eq_decide_eq]; exact q⟩
  | _ => cases x <;> cases h⟩
theorem cmpR (hu : C.X.A.units + 64 < cLine) : ∀ op : C2, ∃ r, CmpR C op r
  | .eq => ⟨_, cmp_eq hu⟩
  | .ne => ⟨_, cmp_ne hu⟩
  | .lt => ⟨_, cmp_lt⟩
  | .le => ⟨_, cmp_le⟩
  | .gt => ⟨_, cmp_gt⟩
  | .ge => ⟨_, cmp_ge⟩
  | .is => ⟨_, cmp_is⟩
  | .isn => ⟨_, cmp_isn⟩
  | .inn => ⟨_, cmp_in hu⟩
  | .nin => ⟨_, cmp_nin hu⟩
end
end FM


set_option Elab.async false
set_option linter.all false
set_option maxRecDepth 100000
set_option maxHeartbeats 2000000
namespace FM
open PySem L2
theorem POk.of' {C : Cz} {g : Sg} {F : Fp} {σ : L2.St} {r : Env} {α : Type} {Q : α → Sg → Fp → Prop} {o : Option α} (h : POk C g F σ Q (Res.of o r)) : ∃ a, o = some a ∧ ∀ g' F', Go g F g' F' → RE C.Z C.B C.T g' r σ F' → Q a g' F' := by
  cases o with
  | none => exact False.elim h
  | some a => exact ⟨a, rfl, h⟩
section
variable {C : Cz} {a b d e : Expr} {es : List Expr} {pos : Pos} {ma mb md : Env → Res W} {va vb vd : Env → Res Arg} {mt mu : Env → Res Bool}

/-! ### comparisons -/
def cmpM (op : C2) (va vb : Env → Res Arg) : Env → Res Bool := fun r => (va r).bind fun x r1 => (vb r1).bind fun y r2 => Res.of (cmp2 op x y r2) r2
theorem cmp2_r {op : C2} {r : R2} {g : Sg} {ρ : Env} {σ : L2.St} {F : Fp} {x y : Arg} {c : Bool} {v1 v2 : V} {Q : VK} (re : RE C.Z C.B C.T g ρ σ F)
    (hr : ∀ (g : Sg) (x y : W) (b : Bool) (vx vy : V) (Q : VK), cmpW op x y = some b → BR C.Z g x vx → BR C.Z g y vy → Q (.bl b) g.H → r vx vy g.H Q)
    (e : cmp2 op x y ρ = some c) (r1 : ArgR C g F σ x v1) (r2 : ArgR C g F σ y v2) (q : Q (.bl c) g.H) : r v1 v2 g.H Q := by
  obtain ⟨w1, e1, e⟩ := Option.bind_eq_some_iff.mp e
  obtain ⟨w2, e2, e⟩ := Option.bind_eq_some_iff.mp e
  exact hr g w1 w2 c v1 v2 Q e (r1.vw re e1) (r2.vw re e2) q
def blM (m : Env → Res Bool) : Env → Res W := fun r => (m r).bind fun c r1 => .ok (.bl c) r1
theorem se_cmp (hu : C.X.A.units + 64 < cLine) {op : C2} (ha : SV C a va) (hb : SV C b vb) (hm : behindInMarks op.op b = false) : SE C (.Compare a [op.op] [b] pos) (blM (cmpM op va vb)) := by
  obtain ⟨ta, pa, ia⟩ := ha
  obtain ⟨tb, pb, ib⟩ := hb
  obtain ⟨r, ho, hr⟩ := cmpR hu op
  refine ⟨_, pe_cmpR ho pa pb hm, fun g ρ σ F Q re k => ?_⟩
  have k : POk C g F σ _ (cmpM op va vb ρ) := k.seq (P := fun c g1 F1 => Q (.bl c) g1.H) fun c r1 g1 F1 t1 re1 k1 => k1.now re1 _ rfl
  refine ia g ρ σ F _ re (k.seq fun x r1 g1 F1 t1 re1 k1 v1 rv1 => ?_)
  refine ib g1 r1 σ F1 _ re1 (k1.seq fun y r2 g2 F2 t2 re2 k2 v2 rv2 => ?_)
  obtain ⟨c, hc, q⟩ := k2.of re2
  exact cmp2_r re2 hr hc (rv1.go re1 t2) rv2 q
theorem stt_cmp (hu : C.X.A.units + 64 < cLine) {op : C2} (ha : SV C a va) (hb : SV C b vb) (hm : behindInMarks op.op b = false) : STt C (.Compare a [op.op] [b] pos) (cmpM op va vb) := by
  obtain ⟨ta, pa, ia⟩ := ha
  obtain ⟨tb, pb, ib⟩ := hb
  obtain ⟨r, ho, hr⟩ := cmpR hu op
  refine ⟨_, pt_cmpR ho pa pb hm, fun g ρ σ F Q re k => ?_⟩
  refine ia g ρ σ F _ re (POk.seq (show POk C g F σ _ ((va ρ).bind _) from k) fun x r1 g1 F1 t1 re1 k1 v1 rv1 => ?_)
  refine ib g1 r1 σ F1 _ re1 (k1.seq fun y r2 g2 F2 t2 re2 k2 v2 rv2 => ?_)
  obtain ⟨c, hc, q⟩ := k2.of re2
  exact cmp2_r re2 hr hc (rv1.go re1 t2) rv2 ⟨c, rfl, q⟩
def chnM (op op' : C2) (va vb vd : Env → Res Arg) : Env → Res Bool := fun r => (va r).bind fun x r1 => (vb r1).bind fun y r2 => match cmp2 op x y r2 with
    | some true => (vd r2).bind fun z r3 => Res.of (cmp2 op' y z r3) r3
    | some false => .ok false r2
    | none => .bad
theorem chn_core {r r' : R2} {op op' : C2} {ta tb td : TE} (hr : ∀ (g : Sg) (x y : W) (b : Bool) (vx vy : V) (Q : VK), cmpW op x y = some b → BR C.Z g x vx → BR C.Z g y vy → Q (.bl b) g.H → r vx vy g.H Q)
    (hr' : ∀ (g : Sg) (x y : W) (b : Bool) (vx vy : V) (Q : VK), cmpW op' x y = some b → BR C.Z g x vx → BR C.Z g y vy → Q (.bl b) g.H → r' vx vy g.H Q)
    (ia : ∀ (g : Sg) (r : Env) (σ : L2.St) (F : Fp) (Q : VK), RE C.Z C.B C.T g r σ F → POk C g F σ (fun a g' F' => ∀ v, ArgR C g' F' σ a v → Q v g'.H) (va r) → ta σ g.H Q)
    (ib : ∀ (g : Sg) (r : Env) (σ : L2.St) (F : Fp) (Q : VK), RE C.Z C.B C.T g r σ F → POk C g F σ (fun a g' F' => ∀ v, ArgR C g' F' σ a v → Q v g'.H) (vb r) → tb σ g.H Q)
    (id : ∀ (g : Sg) (r : Env) (σ : L2.St) (F : Fp) (Q : VK), RE C.Z C.B C.T g r σ F → POk C g F σ (fun a g' F' => ∀ v, ArgR C g' F' σ a v → Q v g'.H) (vd r) → td σ g.H Q)
    (g : Sg) (ρ : Env) (σ : L2.St) (F : Fp) (Q : VK) (re : RE C.Z C.B C.T g ρ σ F) (k : POk C g F σ (fun c g' _ => Q (.bl c) g'.H) (chnM op op' va vb vd ρ)) : tChain r r' ta tb td σ g.H Q := by
  refine ia g ρ σ F _ re (POk.seq (show POk C g F σ _ ((va ρ).bind _) from k) fun x r1 g1 F1 t1 re1 k1 v1 rv1 => ?_)
  refine ib g1 r1 σ F1 _ re1 (k1.seq fun y r2 g2 F2 t2 re2 k2 v2 rv2 => ?_)
  cases hc : cmp2 op x y r2 with
  | none => simp only [hc] at k2; exact False.elim k2
  | some c =>
    simp only [hc] at k2
    refine cmp2_r re2 hr hc (rv1.go re1 t2) rv2 ⟨c, rfl, ?_⟩
    cases c with
    | false => exact iteF (k2.now re2)
    | true =>
      refine iteT (id g2 r2 σ F2 _ re2 (k2.seq fun z r3 g3 F3 t3 re3 k3 v3 rv3 => ?_))
      obtain ⟨c, hc', q⟩ := k3.of re3
      exact cmp2_r re3 hr' hc' (rv2.go re2 t3) rv3 q
theorem se_chn (hu : C.X.A.units + 64 < cLine) {op op' : C2} (ha : SV C a va) (hb : SV C b vb) (hd : SV C d vd) (hm : lastMarks [op.op, op'.op] [b, d] = false) : SE C (.Compare a [op.op, op'.op] [b, d] pos) (blM (chnM op op' va vb vd)) := by
  obtain ⟨ta, pa, ia⟩ := ha
  obtain ⟨tb, pb, ib⟩ := hb
  obtain ⟨td, pd, id⟩ := hd
  obtain ⟨r, ho, hr⟩ := cmpR hu op
  obtain ⟨r', ho', hr'⟩ := cmpR hu op'
  exact ⟨_, pe_chain ho ho' pa pb pd hm, fun g ρ σ F Q re k => chn_core hr hr' ia ib id g ρ σ F Q re (k.seq fun c r1 g1 F1 t1 re1 k1 => k1.now re1 _ rfl)⟩
theorem stt_chn (hu : C.X.A.units + 64 < cLine) {op op' : C2} (ha : SV C a va) (hb : SV C b vb) (hd : SV C d vd) (hm : lastMarks [op.op, op'.op] [b, d] = false) : STt C (.Compare a [op.op, op'.op] [b, d] pos) (chnM op op' va vb vd) := by
  obtain ⟨ta, pa, ia⟩ := ha
  obtain ⟨tb, pb, ib⟩ := hb
  obtain ⟨td, pd, id⟩ := hd
  obtain ⟨r, ho, hr⟩ := cmpR hu op
  obtain ⟨r', ho', hr'⟩ := cmpR hu op'
  exact ⟨_, pt_chain ho ho' pa pb pd hm, fun g ρ σ F Q re k => chn_core hr hr' ia ib id g ρ σ F (fun v H => ∃ c, v = .bl c ∧ Q c H) re (k.imp fun c g1 F1 _ q => ⟨c, rfl, q⟩)⟩
def tvM (m : Env → Res W) : Env → Res Bool := fun r => (m r).bind fun w r1 => match w with
  | .bl b => .ok b r1
  | _ => .bad
/-- a value that is a truth value, as a test -/
theorem stt_of {m : Env → Res W} (h : SE C e m) (hp : ∀ t : TE, PE C.X e t → PT C.X e (tB t)) : STt C e (tvM m) := by
  obtain ⟨t, p, i⟩ := h
  refine ⟨_, hp t p, fun g ρ σ F Q re k => ?_⟩
  refine i g ρ σ F _ re (POk.seq (show POk C g F σ _ ((m ρ).bind _) from k) fun w r1 g1 F1 t1 re1 k1 v rv => ?_)
  cases w <;> first | exact False.elim k1 | skip
  cases rv
  exact ⟨_, rfl, k1.now re1⟩

/-! ### arithmetic -/
theorem sizeLine_le {n : Nat} (h : n ≤ size) : n ≤ sizeLine := Nat.le_trans h (by decide)
theorem sizeLine_lt {n : Nat} (h : n < size) : n < sizeLine := Nat.lt_of_lt_of_le h (by decide)
theorem sv_append (a b : List Nat) : sv a ++ sv b = sv (a ++ b) := by
  show (⟨(sv a).cps ++ (sv b).cps⟩ : Str) = _
  simp [sv]

def binM (op : B2) (va vb : Env → Res Arg) : Env → Res W := fun r => (va r).bind fun x r1 => (vb r1).bind fun y r2 => Res.of ((vw r2 x).bind fun u => (vw r2 y).bind fun w => arith op u w) r2
def B2.op : B2 → Operator
  | .add => .Add | .sub => .Sub | .mul => .Mult | .fdiv => .FloorDiv | .mod => .Mod | .pow => .Pow
/-- a result that stands there, or is laid anew -/
def Lay (Z : Kx) (g : Sg) (z : W) (Q : VK) : Prop := (∀ v, RW Z g z v → Q v g.H) ∧ ∀ p o v, g.H p = none → RW Z ⟨upd g.H p o, g.L⟩ z v → Q v (upd g.H p o)
def BinR (C : Cz) (op : B2) (r : R2) : Prop := OpR C.X (binaryOp op.op) r ∧ ∀ (g : Sg) (x y z : W) (vx vy : V) (Q : VK), arith op x y = some z → BR C.Z g x vx → BR C.Z g y vy → Lay C.Z g z Q → r vx vy g.H Q
theorem lay_tup {Z : Kx} {g : Sg} {ws : List W} {xs : List V} {Q : VK} {p : Addr} {ob : Obj} (h : RWs Z g ws xs) (hp : g.H p = none) (hd : ob.dict = none) (k : Lay Z g (.tup ws) Q) : Q (.ref p) (upd g.H p (.frz ob (.tup xs))) :=
  k.2 p (.frz ob (.tup xs)) _ hp ⟨p, xs, rfl, ⟨.inl (.inr ⟨ob, upd_same⟩), .inl ⟨ob, xs, upd_same, hd⟩⟩, h.kp (lay_kp (Z := Z) (o := .frz ob (.tup xs)) hp)⟩
theorem bin_add : BinR C .add (fun x y H Q => ((∃ i j, x = .int i ∧ y = .int j ∧ Q (.int (i + j)) H) ∨ ∃ i j, x = .str i ∧ y = .str j ∧ i.length + j.length ≤ sizeLine ∧ Q (.str (i ++ j)) H) ∨ rCatD C.X.K x y H Q) := ⟨(op_add.or op_add_str).or op_catD, fun g x y z vx vy Q h rx ry q => by
  cases x <;> cases y <;> first | (cases h; done) | skip
  · cases h; cases rx; cases ry; exact .inl (.inl ⟨_, _, rfl, rfl, q.1 _ rfl⟩)
  · simp only [arith] at h
    split at h
    · rename_i hl
      cases h
      cases rx
      cases ry
      refine .inl (.inr ⟨_, _, rfl, rfl, ?_, by rw [sv_append]; exact q.1 _ rfl⟩)
      rw [sv_len, sv_len]
      exact sizeLine_le (Nat.le_of_ble_eq_true hl)
    · cases h
  · simp only [arith] at h
    split at h
    · rename_i hl
      cases h
      obtain ⟨p, xs, rfl, h1, h2⟩ := rx
      obtain ⟨p', ys, rfl, h3, h4⟩ := ry
      refine .inr ⟨p, p', xs, ys, rfl, rfl, h1.1, h3.1, by rw [← h2.length, ← h4.length]; exact sizeLine_le (Nat.le_of_ble_eq_true hl), fun e => ?_, fun _ e => ?_, fun _ _ n ob hn hd => lay_tup (h2.append h4) hn hd q⟩
      · subst e
        refine q.1 _ ⟨p', ys, rfl, h3, ?_⟩
        have := h2.append h4
        rw [List.nil_append] at this
        exact this
      · subst e
        refine q.1 _ ⟨p, xs, rfl, h1, ?_⟩
        have := h2.append h4
        rw [List.append_nil] at this
        exact this
    · cases h⟩
theorem bin_sub : BinR C .sub (rI0 fun i j => .int (i - j)) := ⟨op_sub, fun g x y z vx vy Q h rx ry q => by
  cases x <;> cases y <;> first | (cases h; done) | skip
  cases h; cases rx; cases ry; exact ⟨_, _, rfl, rfl, q.1 _ rfl⟩⟩
theorem foldl_reps (z : Array Nat) : ∀ (n : Nat) (acc : List Nat), ((List.replicate n z).foldl (· ++ ·) acc.toArray) = (acc ++ reps z.toList n).toArray
  | 0, acc => by simp [reps]
  | n + 1, acc => by
    rw [List.replicate_succ, List.foldl_cons]
    have e : acc.toArray ++ z = (acc ++ z.toList).toArray := by simp
    rw [e, foldl_reps z n (acc ++ z.toList)]
    simp [reps]
theorem reps_nil {α : Type} : ∀ n : Nat, reps ([] : List α) n = []
  | 0 => rfl
  | n + 1 => by simp [reps, reps_nil n]
theorem mul_sv {a : List Nat} {j : Int} (h : 0 ≤ j) : Txt.mul (sv a) j = sv (reps a j.toNat) := by
  unfold Txt.mul
  by_cases h1 : j < 1
  · have : j = 0 := by omega
    subst this
    rfl
  · rw [if_neg h1]
    split
    · rename_i hc
      simp only [Bool.or_eq_true, beq_iff_eq, sv_len] at hc
      rcases hc with hc | hc
      · subst hc
        simp [reps, sv]
      · have : a = [] := List.length_eq_zero_iff.mp hc
        subst this
        rw [reps_nil]
    · have := foldl_reps (sv a).cps j.toNat []
      simp only [List.nil_append, sv_list] at this
      show (⟨_⟩ : Str) = ⟨_⟩
      rw [← this]
theorem op_mulS {X : Cx} : OpR X (binaryOp .Mult) (fun x y H Q => ∃ i j, x = .str i ∧ y = .int j ∧ MulOk i j ∧ Q (.str (Txt.mul i j)) H) := by
  intro pins s σ H x y v u Q I rx ry h
  obtain ⟨i, j, rfl, rfl, hk, q⟩ := h
  obtain ⟨t, rfl⟩ := rx
  obtain ⟨t', rfl⟩ := ry
  exact SB.mul hk fun t' k => ⟨.str _, H, I.tok _, ⟨_, rfl⟩, q⟩

theorem RWs.reps {Z : Kx} {g : Sg} {ws : List W} {xs : List V} (h : RWs Z g ws xs) : ∀ n : Nat, RWs Z g (FM.reps ws n) (List.replicate n xs).flatten
  | 0 => rfl
  | n + 1 => by
    rw [List.replicate_succ, List.flatten_cons]
    exact h.append (RWs.reps h n)
theorem bin_mul : BinR C .mul (fun x y H Q => ((rI CMul (fun i j => .int (i * j)) x y H Q ∨ rI CMulW (fun i j => .int (i * j)) x y H Q) ∨ ∃ i j, x = .str i ∧ y = .int j ∧ MulOk i j ∧ Q (.str (Txt.mul i j)) H) ∨ rRepD C.X.K x y H Q) := ⟨((op_mul.or op_mulW).or op_mulS).or op_repD, fun g x y z vx vy Q h rx ry q => by
  cases x <;> cases y <;> first | (cases h; done) | skip
  · rename_i i j
    simp only [arith] at h
    split at h
    · rename_i hm
      cases h
      cases rx
      cases ry
      simp only [mulOk, Bool.or_eq_true, Nat.blt_eq] at hm
      rcases hm with (hm | hm) | hm
      · exact .inl (.inl (.inl ⟨_, _, rfl, rfl, .inl ⟨by omega, by omega⟩, q.1 _ rfl⟩))
      · exact .inl (.inl (.inl ⟨_, _, rfl, rfl, .inr ⟨by omega, by omega⟩, q.1 _ rfl⟩))
      · exact .inl (.inl (.inr ⟨_, _, rfl, rfl, hm, q.1 _ rfl⟩))
    · cases h
  · rename_i a j
    simp only [arith] at h
    split at h
    · rename_i hm
      cases h
      cases rx
      cases ry
      simp only [Bool.and_eq_true, decide_eq_true_eq] at hm
      obtain ⟨⟨h0, h1⟩, h2⟩ := hm
      have h1 : a.length * j.toNat ≤ 1000000 := Nat.le_of_ble_eq_true h1
      refine .inl (.inr ⟨_, _, rfl, rfl, ⟨?_, fun hj _ => ?_, fun hj _ => ?_⟩, by rw [mul_sv h0]; exact q.1 _ rfl⟩)
      · simp only [Bool.or_eq_false_iff, decide_eq_false_iff_not]
        omega
      · rw [sv_len]
        have hz : (a.length : Int) * j ≤ 1000000 := by
          have : ((a.length * j.toNat : Nat) : Int) ≤ 1000000 := by omega
          rw [Int.natCast_mul, Int.toNat_of_nonneg h0] at this
          exact this
        have : (a.length : Int) ≤ (2 ^ 63 - 1) / j := by
          rw [Int.le_ediv_iff_mul_le (by omega)]
          omega
        omega
      · rw [sv_len]
        unfold Builtin.Str.tooLong
        have : sizeLine = 16777216 := sizeLine_eq
        simp only [decide_eq_false_iff_not]
        omega
    · cases h
  · rename_i a j
    simp only [arith] at h
    split at h
    · rename_i hm
      cases h
      obtain ⟨p, xs, rfl, h1, h2⟩ := rx
      cases ry
      simp only [Bool.and_eq_true, decide_eq_true_eq, Nat.blt_eq] at hm
      obtain ⟨⟨⟨m1, m2⟩, m3⟩, m4⟩ := hm
      have m4 : a.length ≤ 1000 := Nat.le_of_ble_eq_true m4
      refine .inr ⟨p, j, xs, rfl, rfl, h1.1, fun e => ?_, m1, m2, by rw [← h2.length]; exact m4, fun n ob hn hd => lay_tup (h2.reps _) hn hd q⟩
      rw [h2.length, e] at m3
      exact absurd m3 (by decide)
    · cases h⟩
theorem bin_fdiv : BinR C .fdiv (rI CDivW fun i j => .int (i / j)) := ⟨op_fdivW, fun g x y z vx vy Q h rx ry q => by
  cases x <;> cases y <;> first | (cases h; done) | skip
  simp only [arith] at h
  split at h
  · rename_i hm
    cases h
    cases rx
    cases ry
    simp only [Bool.and_eq_true, decide_eq_true_eq, Nat.blt_eq] at hm
    exact ⟨_, _, rfl, rfl, hm, q.1 _ rfl⟩
  · cases h⟩
theorem bin_mod : BinR C .mod (rI (fun _ j => 0 < j) fun i j => .int (i % j)) := ⟨op_mod, fun g x y z vx vy Q h rx ry q => by
  cases x <;> cases y <;> first | (cases h; done) | skip
  simp only [arith] at h
  split at h
  · rename_i hm
    cases h
    cases rx
    cases ry
    exact ⟨_, _, rfl, rfl, of_decide_eq_true hm, q.1 _ rfl⟩
  · cases h⟩
theorem bin_pow : BinR C .pow (rI CPow fun i j => .int (i ^ j.toNat)) := ⟨op_pow, fun g x y z vx vy Q h rx ry q => by
  cases x <;> cases y <;> first | (cases h; done) | skip
  simp only [arith] at h
  split at h
  · rename_i hm
    cases h
    cases rx
    cases ry
    simp only [Bool.and_eq_true, decide_eq_true_eq, Nat.blt_eq] at hm
    exact ⟨_, _, rfl, rfl, ⟨hm.1.1, by omega, hm.2⟩, q.1 _ rfl⟩
  · cases h⟩
theorem binR : ∀ op : B2, ∃ r, BinR C op r
  | .add => ⟨_, bin_add⟩
  | .sub => ⟨_, bin_sub⟩
  | .mul => ⟨_, bin_mul⟩
  | .fdiv => ⟨_, bin_fdiv⟩
  | .mod => ⟨_, bin_mod⟩
  | .pow => ⟨_, bin_pow⟩
/-- a result that may be laid anew -/
theorem lay_now {g : Sg} {ρ : Env} {σ : L2.St} {F : Fp} {z : W} {Q : VK} (re : RE C.Z C.B C.T g ρ σ F) (q : ∀ g' F', Go g F g' F' → RE C.Z C.B C.T g' ρ σ F' → ∀ v, RW C.Z g' z v → Q v g'.H) : Lay C.Z g z Q :=
  ⟨fun v rv => q g F (.refl g F) re v rv, fun p o v hp rv => let ⟨re2, t2⟩ := re.lay (o := o) hp; q _ F t2 re2 v rv⟩
theorem se_bin {op : B2} (ha : SV C a va) (hb : SV C b vb) : SE C (.BinOp a op.op b pos) (binM op va vb) := by
  obtain ⟨ta, pa, ia⟩ := ha
  obtain ⟨tb, pb, ib⟩ := hb
  obtain ⟨r, ho, hr⟩ := binR (C := C) op
  refine ⟨_, pe_op ho pa pb, fun g ρ σ F Q re k => ?_⟩
  refine ia g ρ σ F _ re (POk.seq (show POk C g F σ _ ((va ρ).bind _) from k) fun x r1 g1 F1 t1 re1 k1 v1 rv1 => ?_)
  refine ib g1 r1 σ F1 _ re1 (k1.seq fun y r2 g2 F2 t2 re2 k2 v2 rv2 => ?_)
  obtain ⟨z, hz, q⟩ := k2.of'
  obtain ⟨w1, e1, hz⟩ := Option.bind_eq_some_iff.mp hz
  obtain ⟨w2, e2, hz⟩ := Option.bind_eq_some_iff.mp hz
  exact hr g2 w1 w2 z v1 v2 Q hz ((rv1.go re1 t2).vw re2 e1) (rv2.vw re2 e2) (lay_now re2 q)
def negM (ma : Env → Res W) : Env → Res W := fun r => (ma r).bind fun x r1 => match x with
    | .int i => .ok (.int (-i)) r1
    | _ => .bad
theorem se_neg (ha : SE C a ma) : SE C (.UnaryOp .USub a pos) (negM ma) := by
  obtain ⟨ta, pa, ia⟩ := ha
  refine ⟨_, pe_un un_neg pa, fun g ρ σ F Q re k => ?_⟩
  refine ia g ρ σ F _ re (POk.seq (show POk C g F σ _ ((ma ρ).bind _) from k) fun x r1 g1 F1 t1 re1 k1 v1 rv1 => ?_)
  cases x <;> first | exact False.elim k1 | skip
  cases rv1
  exact ⟨_, rfl, k1.now re1 _ rfl⟩

/-! ### tuples, lists -/
theorem evs_len {α β : Type} {f : α → Env → Res β} : ∀ {es : List α} {r r' : Env} {ws : List β}, evs f es r = .ok ws r' → ws.length = es.length
  | [], _, _, _, h => by cases h; rfl
  | e :: es, r, r', ws, h => by
    unfold evs at h
    cases h1 : f e r with
    | bad => rw [h1] at h; cases h
    | ex _ _ => rw [h1] at h; cases h
    | ok w r1 =>
      rw [h1] at h
      change ((evs f es r1).bind fun ws r2 => Res.ok (w :: ws) r2) = _ at h
      cases h2 : evs f es r1 with
      | bad => rw [h2] at h; cases h
      | ex _ _ => rw [h2] at h; cases h
      | ok us r2 =>
        rw [h2] at h
        cases h
        simp [evs_len h2]
/-- what a result has, whenever there is one -/
theorem POk.fact {g : Sg} {F : Fp} {σ : L2.St} {α : Type} {Q : α → Sg → Fp → Prop} {x : Res α} {P : α → Prop} (hp : ∀ a r, x = .ok a r → P a) (h : POk C g F σ Q x) : POk C g F σ (fun a g F => P a ∧ Q a g F) x := by
  cases x with
  | bad => exact h
  | ex y r => exact h
  | ok a r => exact fun g' F' t re => ⟨hp a r rfl, h g' F' t re⟩
theorem se_tup {f : IE → Env → Res W} {is : List IE} {x1} (h : SA C es (evs f is)) (hl : is.length ≤ size) : SE C (.Tuple es x1 pos) (fun r => (evs f is r).bind fun ws r1 => .ok (.tup ws) r1) := by
  obtain ⟨t, p, i⟩ := h
  refine ⟨_, pe_tupD p, fun g ρ σ F Q re k => ?_⟩
  refine i g ρ σ F _ re ((POk.fact (P := fun ws => ws.length = is.length) (fun ws r e => evs_len e) (k.seq (P := fun ws g1 F1 => ∃ r1, RE C.Z C.B C.T g1 r1 σ F1 ∧ POk C g1 F1 σ (fun w g' _ => ∀ v, RW C.Z g' w v → Q v g'.H) (.ok (.tup ws) r1)) fun ws r1 g1 F1 t1 re1 k1 => ⟨r1, re1, k1⟩)).imp fun ws g1 F1 t1 q vs rvs => ?_)
  obtain ⟨hlen, r1, re1, k1⟩ := q
  refine ⟨?_, fun p ob hp hd => ?_⟩
  · rw [← rvs.length, hlen]
    exact sizeLine_le hl
  · obtain ⟨re2, t2⟩ := re1.lay (o := .frz ob (.tup vs)) hp
    exact k1 _ F1 t2 re2 _ ⟨p, vs, rfl, ⟨.inl (.inr ⟨ob, upd_same⟩), .inl ⟨ob, vs, upd_same, hd⟩⟩, rvs.kp (t2.kp re1)⟩
/-- a new list is laid -/
theorem lay_lst {g : Sg} {ρ : Env} {σ : L2.St} {F : Fp} {g0 : Sg} {F0 : Fp} {us : List U} {xs : List V} {Q : VK} {p : Addr} (t : Go g0 F0 g F) (re : RE C.Z C.B C.T g ρ σ F) (h : OUs C.Z g us xs []) (hp : g.H p = none)
    (k : ∀ g' F', Go g F g' F' → RE C.Z C.B C.T g' ρ σ F' → ∀ v fp, OU C.Z g' (.l us) v fp → Tmp g' F' fp → Src g0 F0 fp → Q v g'.H) : Q (.ref p) (upd g.H p (.lst xs)) := by
  obtain ⟨re2, t2⟩ := re.lay (o := .lst xs) hp
  refine k _ F t2 re2 _ [p] ⟨p, xs, [], rfl, upd_same, h.kp (t2.kp re) (fun _ m => nomatch m), rfl⟩ ?_ ?_
  · have x := tmp_new re hp
    exact ⟨x.nod, x.nl, x.nf⟩
  · intro a m
    rw [List.mem_singleton.mp m]
    exact .inl (t.a _ hp)
theorem su_lst {f : IE → Env → Res W} {is : List IE} (h : SA C es (evs f is)) (hl : is.length ≤ size) : SU C (.List es pos) (fun r => (evs f is r).bind fun ws r1 => .ok (.l (ws.map U.d)) r1) := by
  obtain ⟨t, p, i⟩ := h
  refine ⟨_, pe_lst p, fun g ρ σ F Q re k => ?_⟩
  refine i g ρ σ F _ re ((POk.fact (P := fun ws => ws.length = is.length) (fun ws r e => evs_len e) (k.seq (P := fun ws g1 F1 => ∃ r1, RE C.Z C.B C.T g1 r1 σ F1 ∧ POk C g1 F1 σ (fun u g' F' => ∀ v fp, OU C.Z g' u v fp → Tmp g' F' fp → Src g F fp → Q v g'.H) (.ok (.l (ws.map U.d)) r1)) fun ws r1 g1 F1 t1 re1 k1 => ⟨r1, re1, k1⟩)).imp fun ws g1 F1 t1 q vs rvs => ?_)
  obtain ⟨hlen, r1, re1, k1⟩ := q
  refine ⟨?_, fun p hp => ?_⟩
  · rw [← rvs.length, hlen]
    exact sizeLine_le hl
  · exact lay_lst t1 re1 (OUs.dat rvs) hp k1

/-! ### and, or, not, if -/
theorem se_one {op : PySem.BoolOp} (h : SE C a ma) : SE C (.BoolOp op [a] pos) ma := by
  obtain ⟨t, p, i⟩ := h
  exact ⟨_, pe_one p, i⟩
def andM (ma mb : Env → Res W) : Env → Res W := fun r => (ma r).bind fun w r1 => match w with
    | .bl true => mb r1
    | .bl false => .ok (.bl false) r1
    | _ => .bad
def orM (ma mb : Env → Res W) : Env → Res W := fun r => (ma r).bind fun w r1 => match w with
    | .bl true => .ok (.bl true) r1
    | .bl false => mb r1
    | _ => .bad
theorem se_and (ha : SE C a ma) (hb : SE C (.BoolOp .And (b :: es) pos) mb) : SE C (.BoolOp .And (a :: b :: es) pos) (andM ma mb) := by
  obtain ⟨ta, pa, ia⟩ := ha
  obtain ⟨tb, pb, ib⟩ := hb
  refine ⟨_, pe_and pa pb, fun g ρ σ F Q re k => ?_⟩
  refine ia g ρ σ F _ re (POk.seq (show POk C g F σ _ ((ma ρ).bind _) from k) fun x r1 g1 F1 t1 re1 k1 v1 rv1 => ?_)
  cases x <;> first | exact False.elim k1 | skip
  rename_i c
  cases rv1
  refine ⟨c, rfl, ?_⟩
  cases c with
  | false => exact iteF (POk.now (C := C) (a := W.bl false) (Q := fun w g' _ => ∀ v, RW C.Z g' w v → Q v g'.H) re1 k1 _ rfl)
  | true => exact iteT (ib g1 r1 σ F1 _ re1 k1)
theorem se_or (ha : SE C a ma) (hb : SE C (.BoolOp .Or (b :: es) pos) mb) : SE C (.BoolOp .Or (a :: b :: es) pos) (orM ma mb) := by
  obtain ⟨ta, pa, ia⟩ := ha
  obtain ⟨tb, pb, ib⟩ := hb
  refine ⟨_, pe_or pa pb, fun g ρ σ F Q re k => ?_⟩
  refine ia g ρ σ F _ re (POk.seq (show POk C g F σ _ ((ma ρ).bind _) from k) fun x r1 g1 F1 t1 re1 k1 v1 rv1 => ?_)
  cases x <;> first | exact False.elim k1 | skip
  rename_i c
  cases rv1
  refine ⟨c, rfl, ?_⟩
  cases c with
  | true => exact iteT (POk.now (C := C) (a := W.bl true) (Q := fun w g' _ => ∀ v, RW C.Z g' w v → Q v g'.H) re1 k1 _ rfl)
  | false => exact iteF (ib g1 r1 σ F1 _ re1 k1)
def notM (ma : Env → Res W) : Env → Res W := fun r => (ma r).bind fun x r1 => match x with
    | .bl b => .ok (.bl (!b)) r1
    | _ => .bad
theorem se_not (ha : SE C a ma) : SE C (.UnaryOp .Not a pos) (notM ma) := by
  obtain ⟨ta, pa, ia⟩ := ha
  refine ⟨_, pe_not pa, fun g ρ σ F Q re k => ?_⟩
  refine ia g ρ σ F _ re (POk.seq (show POk C g F σ _ ((ma ρ).bind _) from k) fun x r1 g1 F1 t1 re1 k1 v1 rv1 => ?_)
  cases x <;> first | exact False.elim k1 | skip
  cases rv1
  exact ⟨_, rfl, k1.now re1 _ rfl⟩
theorem se_ite (ht : STt C d mt) (ha : SE C a ma) (hb : SE C b mb) : SE C (.IfExp d a b pos) (fun r => (mt r).bind fun x r1 => if x then ma r1 else mb r1) := by
  obtain ⟨tt, pt, it⟩ := ht
  obtain ⟨ta, pa, ia⟩ := ha
  obtain ⟨tb, pb, ib⟩ := hb
  refine ⟨_, pe_ifExp pt pa pb, fun g ρ σ F Q re k => ?_⟩
  refine it g ρ σ F _ re (k.seq fun x r1 g1 F1 t1 re1 k1 => ?_)
  cases x with
  | true => exact iteT (ia g1 r1 σ F1 _ re1 k1)
  | false => exact iteF (ib g1 r1 σ F1 _ re1 k1)
/-- tests -/
def SW (C : Cz) (e : Expr) (m : Env → Res Bool) : Prop := ∃ t : TT, PW C.X e t ∧ ∀ (g : Sg) (r : Env) (σ : L2.St) (F : Fp) (Q : Bool → Hp → Prop), RE C.Z C.B C.T g r σ F →
  POk C g F σ (fun b g' _ => Q b g'.H) (m r) → t σ g.H Q
theorem SW.stt (h : SW C e mt) : STt C e mt := let ⟨t, p, i⟩ := h; ⟨t, p.pt, i⟩
theorem sw_and1 (h : STt C a mt) : SW C (.BoolOp .And [a] pos) mt := let ⟨t, p, i⟩ := h; ⟨t, pw_and1 p, i⟩
theorem sw_or1 (h : STt C a mt) : SW C (.BoolOp .Or [a] pos) mt := let ⟨t, p, i⟩ := h; ⟨t, pw_or1 p, i⟩
theorem sw_and (ha : STt C a mt) (hb : SW C (.BoolOp .And (b :: es) pos) mu) : SW C (.BoolOp .And (a :: b :: es) pos) (fun r => (mt r).bind fun b r1 => if b then mu r1 else .ok false r1) := by
  obtain ⟨ta, pa, ia⟩ := ha
  obtain ⟨tb, pb, ib⟩ := hb
  refine ⟨_, pw_and pa pb, fun g ρ σ F Q re k => ?_⟩
  refine ia g ρ σ F _ re (k.seq fun x r1 g1 F1 t1 re1 k1 => ?_)
  cases x with
  | true => exact iteT (ib g1 r1 σ F1 _ re1 k1)
  | false => exact iteF (POk.now re1 (show POk C g1 F1 σ _ (.ok false r1) from k1))
theorem sw_or (ha : STt C a mt) (hb : SW C (.BoolOp .Or (b :: es) pos) mu) : SW C (.BoolOp .Or (a :: b :: es) pos) (fun r => (mt r).bind fun b r1 => if b then .ok true r1 else mu r1) := by
  obtain ⟨ta, pa, ia⟩ := ha
  obtain ⟨tb, pb, ib⟩ := hb
  refine ⟨_, pw_or pa pb, fun g ρ σ F Q re k => ?_⟩
  refine ia g ρ σ F _ re (k.seq fun x r1 g1 F1 t1 re1 k1 => ?_)
  cases x with
  | true => exact iteT (POk.now re1 (show POk C g1 F1 σ _ (.ok true r1) from k1))
  | false => exact iteF (ib g1 r1 σ F1 _ re1 k1)
theorem stt_not (ha : STt C a mt) : STt C (.UnaryOp .Not a pos) (fun r => (mt r).bind fun b r1 => .ok (!b) r1) := by
  obtain ⟨ta, pa, ia⟩ := ha
  refine ⟨_, pt_not pa, fun g ρ σ F Q re k => ?_⟩
  exact ia g ρ σ F _ re (k.seq fun x r1 g1 F1 t1 re1 k1 => k1.now re1)
end
end FM


set_option Elab.async false
set_option linter.all false
set_option maxRecDepth 100000
set_option maxHeartbeats 2000000
namespace FM
open PySem L2

section
variable {C : Cz} {a b d e : Expr} {es : List Expr} {pos : Pos} {ma mb md : Env → Res W} {va vb vd : Env → Res Arg} {mt mu : Env → Res Bool}
/-! ### a[i] -/
theorem ix_N {n : Nat} {i : Int} {j : Nat} (h : ix n i = some j) : ixN n i = some j ∧ j < n := by
  unfold ix at h
  unfold ixN
  cases i with
  | ofNat k =>
    simp only at h
    split at h
    · rename_i hk
      cases h
      have hk : j < n := by simpa [Nat.blt_eq] using hk
      rw [if_pos (by simp), if_pos (by simpa using hk)]
      exact ⟨by simp, hk⟩
    · cases h
  | negSucc k =>
    simp only at h
    split at h
    · rename_i hk
      cases h
      have hk : k < n := by simpa [Nat.blt_eq] using hk
      rw [if_neg (by omega), if_pos (by omega)]
      exact ⟨by congr 1; omega, by omega⟩
    · cases h
def plainIx : Expr → Bool
  | .Slice _ _ _ _ => false
  | _ => true
theorem plainIx_ok (h : plainIx b = true) : PlainIx b := by
  cases b <;> first | (exact fun _ _ => rfl) | cases h
theorem plainIx_no (h : plainIx b = true) : NoSl b := by
  cases b <;> first | (exact fun _ _ => rfl) | cases h

def idxM (va : Env → Res Arg) (mb : Env → Res W) : Env → Res W := fun r => (va r).bind fun x r1 => (mb r1).bind fun k r2 => Res.of ((vw r2 x).bind fun u => idxW u k) r2
theorem se_idx (ha : SV C a va) (hb : SE C b mb) (hp : plainIx b = true) : SE C (.Subscript a b pos) (idxM va mb) := by
  obtain ⟨ta, pa, ia⟩ := ha
  obtain ⟨tb, pb, ib⟩ := hb
  refine ⟨_, pe_ix ix_seq pa pb (plainIx_ok hp), fun g ρ σ F Q re k => ?_⟩
  refine ia g ρ σ F _ re (POk.seq (show POk C g F σ _ ((va ρ).bind _) from k) fun x r1 g1 F1 t1 re1 k1 v1 rv1 => ?_)
  refine ib g1 r1 σ F1 _ re1 (k1.seq fun y r2 g2 F2 t2 re2 k2 v2 rv2 => ?_)
  obtain ⟨w, hw, fin⟩ := k2.of re2
  obtain ⟨u, hu, ea⟩ := Option.bind_eq_some_iff.mp hw
  have br := (rv1.go re1 t2).vw re2 hu
  cases y with
  | int i =>
    cases rv2
    have seq : ∀ {ws : List W}, seqW u = some ws → ((ix ws.length i).bind fun j => nth ws j) = some w → rIx C.X.K v1 (.int i) g2.H Q := by
      intro ws hs hb
      obtain ⟨j, hj, hn⟩ := Option.bind_eq_some_iff.mp hb
      obtain ⟨p, xs, rfl, hq, rw⟩ := br.seq hs
      rw [nth_iff] at hn
      obtain ⟨v, hv, rv⟩ := rw.get hn
      have ha : atI xs i = some v := by
        unfold atI
        rw [← rw.length, (ix_N hj).1]
        exact hv
      rcases hq with hq | hq
      · exact .inl ⟨p, xs, i, v, rfl, rfl, hq, ha, fin v rv⟩
      · exact .inr (.inl ⟨p, xs, i, v, rfl, rfl, hq, ha, fin v rv⟩)
    cases u with
    | str z =>
      have ea : (if Nat.ble z.length size then (ix z.length i).bind fun j => (nth z j).map fun c => W.str [c] else none) = some w := ea
      split at ea
      · rename_i hz
        obtain ⟨j, hj, hn⟩ := Option.bind_eq_some_iff.mp ea
        obtain ⟨c, hc, rfl⟩ := Option.map_eq_some_iff.mp hn
        rw [nth_iff] at hc
        cases br
        refine .inr (.inr ⟨_, i, c, rfl, rfl, ?_, ?_, fin _ rfl⟩)
        · rw [sv_len]
          exact sizeLine_le (Nat.le_of_ble_eq_true hz)
        · rw [sv_list]
          unfold atI
          rw [(ix_N hj).1]
          exact hc
      · cases ea
    | tup us => exact seq rfl ea
    | lis us => exact seq rfl ea
    | scr us => exact seq rfl ea
    | _ => cases ea
  | _ => cases ea

/-! ### slices, sums and products of lists -/
theorem bnd_eq (n d : Nat) : ∀ o : Option Int, bnd n d o = HT.sIx n d o
  | none => rfl
  | some (.ofNat k) => (HT.sIx_nat n d k).symm
  | some (.negSucc k) => by
    have e : HT.sIx n d (some (Int.negSucc k)) = (Int.negSucc k + (n : Int)).toNat := if_pos (by omega)
    rw [e]
    show n - (k + 1) = _
    omega

theorem RWs.cut {Z : Kx} {g : Sg} {ws : List W} {xs : List V} (h : RWs Z g ws xs) (lo hi : Option Int) : RWs Z g (FM.cut ws lo hi) (cutV xs lo hi) := by
  unfold FM.cut cutV
  rw [bnd_eq, bnd_eq, h.length]
  exact (h.drop _).take _
def catM (va vb : Env → Res Arg) : Env → Res U := fun r => (va r).bind fun x r1 => (vb r1).bind fun y r2 => Res.of ((vw r2 x).bind fun u => (lstW u).bind fun us => (vw r2 y).bind fun w => (lstW w).bind fun ws => if Nat.ble (us.length + ws.length) size then some (.l ((us ++ ws).map U.d)) else none) r2
theorem su_cat (ha : SV C a va) (hb : SV C b vb) : SU C (.BinOp a .Add b pos) (catM va vb) := by
  obtain ⟨ta, pa, ia⟩ := ha
  obtain ⟨tb, pb, ib⟩ := hb
  refine ⟨_, pe_op op_cat pa pb, fun g ρ σ F Q re k => ?_⟩
  refine ia g ρ σ F _ re (POk.seq (show POk C g F σ _ ((va ρ).bind _) from k) fun x r1 g1 F1 t1 re1 k1 v1 rv1 => ?_)
  refine ib g1 r1 σ F1 _ re1 (k1.seq fun y r2 g2 F2 t2 re2 k2 v2 rv2 => ?_)
  obtain ⟨z, hz, q⟩ := k2.of'
  obtain ⟨u, e1, hz⟩ := Option.bind_eq_some_iff.mp hz
  obtain ⟨us, e2, hz⟩ := Option.bind_eq_some_iff.mp hz
  obtain ⟨w, e3, hz⟩ := Option.bind_eq_some_iff.mp hz
  obtain ⟨ws, e4, hz⟩ := Option.bind_eq_some_iff.mp hz
  split at hz
  · rename_i hl
    cases hz
    obtain ⟨p, xs, rfl, h3, h4⟩ := ((rv1.go re1 t2).vw re2 e1).lst e2
    obtain ⟨p', ys, rfl, h5, h6⟩ := (rv2.vw re2 e3).lst e4
    refine ⟨p, p', xs, ys, rfl, rfl, h3, h5, ?_, fun n hn => lay_lst (t1.trans t2) re2 (OUs.dat (h4.append h6)) hn q⟩
    rw [← h4.length, ← h6.length]
    exact sizeLine_le (Nat.le_of_ble_eq_true hl)
  · cases hz
def repM (va : Env → Res Arg) (mb : Env → Res W) : Env → Res U := fun r => (va r).bind fun x r1 => (mb r1).bind fun y r2 => match y with
    | .int j => Res.of ((vw r2 x).bind fun u => (lstW u).bind fun us => if decide (-1000000 ≤ j) && Nat.ble (us.length * j.toNat) size && decide (j ≤ 1000000) then some (.l ((reps us j.toNat).map U.d)) else none) r2
    | _ => .bad
theorem su_rep (ha : SV C a va) (hb : SE C b mb) : SU C (.BinOp a .Mult b pos) (repM va mb) := by
  obtain ⟨ta, pa, ia⟩ := ha
  obtain ⟨tb, pb, ib⟩ := hb
  refine ⟨_, pe_op op_rep pa pb, fun g ρ σ F Q re k => ?_⟩
  refine ia g ρ σ F _ re (POk.seq (show POk C g F σ _ ((va ρ).bind _) from k) fun x r1 g1 F1 t1 re1 k1 v1 rv1 => ?_)
  refine ib g1 r1 σ F1 _ re1 (k1.seq fun y r2 g2 F2 t2 re2 k2 v2 rv2 => ?_)
  cases y <;> first | exact False.elim k2 | skip
  rename_i j
  cases rv2
  obtain ⟨z, hz, q⟩ := k2.of'
  obtain ⟨u, e1, hz⟩ := Option.bind_eq_some_iff.mp hz
  obtain ⟨us, e2, hz⟩ := Option.bind_eq_some_iff.mp hz
  split at hz
  · rename_i hl
    cases hz
    simp only [Bool.and_eq_true, decide_eq_true_eq] at hl
    obtain ⟨⟨h1, h2⟩, h3⟩ := hl
    obtain ⟨p, xs, rfl, h5, h4⟩ := ((rv1.go re1 t2).vw re2 e1).lst e2
    refine ⟨p, j, xs, rfl, rfl, h5, by omega, by omega, ?_, fun n hn => lay_lst (t1.trans t2) re2 (OUs.dat (h4.reps _)) hn q⟩
    rw [← h4.length]
    exact sizeLine_le (Nat.le_of_ble_eq_true h2)
  · cases hz
/-- an optional bound -/
def SO (C : Cz) (e : Option Expr) (m : Env → Res (Option Int)) : Prop := ∃ t : TO, PO C.X e t ∧ ∀ (g : Sg) (r : Env) (σ : L2.St) (F : Fp) (Q : Option Int → Hp → Prop), RE C.Z C.B C.T g r σ F →
  POk C g F σ (fun o g' _ => Q o g'.H) (m r) → t σ g.H Q
theorem so_none : SO C none (fun r => .ok none r) := ⟨_, po_none, fun g r σ F Q re k => k.now re⟩
theorem so_some (h : SE C e ma) : SO C (some e) (fun r => (ma r).bind fun x r1 => match x with
    | .int i => .ok (some i) r1
    | _ => .bad) := by
  obtain ⟨t, p, i⟩ := h
  refine ⟨_, po_some p, fun g ρ σ F Q re k => ?_⟩
  refine i g ρ σ F _ re (k.seq fun x r1 g1 F1 t1 re1 k1 v1 rv1 => ?_)
  cases x <;> first | exact False.elim k1 | skip
  cases rv1
  exact ⟨_, rfl, k1.now re1⟩
variable {mlo mhi : Env → Res (Option Int)} {lo hi : Option Expr} {p2 : Pos}
def slcM (va : Env → Res Arg) (mlo mhi : Env → Res (Option Int)) : Env → Res U := fun r => (va r).bind fun x r1 => (mlo r1).bind fun l r2 => (mhi r2).bind fun h r3 => Res.of ((vw r3 x).bind fun u => (lstW u).map fun ws => .l ((FM.cut ws l h).map U.d)) r3
theorem su_slc (ha : SV C a va) (hl : SO C lo mlo) (hh : SO C hi mhi) : SU C (.Subscript a (.Slice lo hi none p2) pos) (slcM va mlo mhi) := by
  obtain ⟨ta, pa, ia⟩ := ha
  obtain ⟨tl, pl, il⟩ := hl
  obtain ⟨th, ph, ih⟩ := hh
  refine ⟨_, pe_slice sl_list pa pl ph, fun g ρ σ F Q re k => ?_⟩
  refine ia g ρ σ F _ re (POk.seq (show POk C g F σ _ ((va ρ).bind _) from k) fun x r1 g1 F1 t1 re1 k1 v1 rv1 => ?_)
  refine il g1 r1 σ F1 _ re1 (k1.seq fun l r2 g2 F2 t2 re2 k2 => ?_)
  refine ih g2 r2 σ F2 _ re2 (k2.seq fun h r3 g3 F3 t3 re3 k3 => ?_)
  obtain ⟨z, hz, q⟩ := k3.of'
  obtain ⟨u, e1, hz⟩ := Option.bind_eq_some_iff.mp hz
  obtain ⟨ws, e2, rfl⟩ := Option.map_eq_some_iff.mp hz
  have t13 := t2.trans t3
  obtain ⟨p, xs, rfl, h3, h4⟩ := ((rv1.go re1 t13).vw re3 e1).lst e2
  exact ⟨p, xs, rfl, sqL_of h3, fun n hn => lay_lst (t1.trans t13) re3 (OUs.dat (h4.cut l h)) hn q⟩
def slcD (va : Env → Res Arg) (mlo mhi : Env → Res (Option Int)) : Env → Res W := fun r => (va r).bind fun x r1 => (mlo r1).bind fun l r2 => (mhi r2).bind fun h r3 => Res.of ((vw r3 x).bind fun u => cutD u l h) r3
theorem SlR.or {X : Cx} {r r' : V → Option Int → Option Int → Hp → VK → Prop} (h : SlR X r) (h' : SlR X r') : SlR X (fun x l u H Q => r x l u H Q ∨ r' x l u H Q) := by
  intro pins s σ H x v vl vu lo hi sl Q I rx hs pl pu q
  rcases q with q | q
  · exact h pins s σ H x v vl vu lo hi sl Q I rx hs pl pu q
  · exact h' pins s σ H x v vl vu lo hi sl Q I rx hs pl pu q
theorem cut_sv (z : List Nat) (lo hi : Option Int) : cutS (sv z) lo hi = sv (FM.cut z lo hi) := by
  unfold cutS FM.cut
  rw [sv_list, sv_len, bnd_eq, bnd_eq]
  rfl
theorem se_slc (ha : SV C a va) (hl : SO C lo mlo) (hh : SO C hi mhi) : SE C (.Subscript a (.Slice lo hi none p2) pos) (slcD va mlo mhi) := by
  obtain ⟨ta, pa, ia⟩ := ha
  obtain ⟨tl, pl, il⟩ := hl
  obtain ⟨th, ph, ih⟩ := hh
  refine ⟨_, pe_slice (SlR.or sl_tupD sl_str) pa pl ph, fun g ρ σ F Q re k => ?_⟩
  refine ia g ρ σ F _ re (POk.seq (show POk C g F σ _ ((va ρ).bind _) from k) fun x r1 g1 F1 t1 re1 k1 v1 rv1 => ?_)
  refine il g1 r1 σ F1 _ re1 (k1.seq fun l r2 g2 F2 t2 re2 k2 => ?_)
  refine ih g2 r2 σ F2 _ re2 (k2.seq fun h r3 g3 F3 t3 re3 k3 => ?_)
  obtain ⟨z, hz, q⟩ := k3.of'
  obtain ⟨u, e1, hz⟩ := Option.bind_eq_some_iff.mp hz
  have br := (rv1.go re1 (t2.trans t3)).vw re3 e1
  have ly := lay_now re3 q
  cases u with
  | str s =>
    have hz : (if Nat.ble s.length size then some (W.str (FM.cut s l h)) else none) = some z := hz
    split at hz
    · rename_i hl
      cases hz
      cases br
      exact .inr ⟨_, rfl, by rw [sv_len]; exact sizeLine_le (Nat.le_of_ble_eq_true hl), by rw [cut_sv]; exact ly.1 _ rfl⟩
    · cases hz
  | tup ws =>
    cases hz
    obtain ⟨p, xs, rfl, h1, h2⟩ := br
    refine .inl ⟨p, xs, rfl, h1.1, fun hw => ?_, fun _ n ob hn hd => lay_tup (h2.cut l h) hn hd ly⟩
    refine ly.1 _ ⟨p, xs, rfl, h1, ?_⟩
    have := h2.cut l h
    unfold cutV at this
    rw [hw.1, hw.2, Nat.sub_zero, List.drop_zero, List.take_of_length_le (Nat.le_refl _)] at this
    exact this
  | _ => cases hz

/-! ### calls of built-ins -/
theorem pe_blt {x : Str} {p : Pos} {u : Value} {r : List V → Hp → VK → Prop} {t : TA} {X : Cx} (hu : (∃ id, u = .builtin id) ∨ ∃ T, u = .type T) (hc : CallR X u r) (hg : Gl X x) (hm : X.mg x = none) (hv : bootBuiltins x = some u) (ha : PA X (e :: es) t) (hn : x ≠ "__name__") (hdb : (x == ("__debug__" : Str)) = false)
    (hst : (e :: es).all notStar = true) : PE X (.Call (.Name x p) (e :: es) [] pos) (tCB r t) := by
  rw [List.all_cons, Bool.and_eq_true] at hst
  rcases hu with ⟨id, rfl⟩ | ⟨T, rfl⟩
  · exact pe_callB hc hg hm hv ha hn hdb (star_ hst.1) (star_any hst.2)
  · exact pe_callTy hc hg hm hv ha hn hdb (star_ hst.1) (star_any hst.2)
def Bt.val : Bt → Value
  | .len => .builtin "len" | .abs => .builtin "abs" | .int => .type "int" | .max => .builtin "max" | .min => .builtin "min" | .all => .builtin "all" | .any => .builtin "any" | .sum => .builtin "sum" | .tuple => .type "tuple"
def Bt.name : Bt → Str
  | .len => "len" | .abs => "abs" | .int => "int" | .max => "max" | .min => "min" | .all => "all" | .any => "any" | .sum => "sum" | .tuple => "tuple"
theorem Bt.boot : ∀ f : Bt, bootBuiltins f.name = some f.val
  | .len => by decide +kernel
  | .abs => by decide +kernel
  | .int => by decide +kernel
  | .max => by decide +kernel
  | .min => by decide +kernel
  | .all => by decide +kernel
  | .any => by decide +kernel
  | .sum => by decide +kernel
  | .tuple => by decide +kernel
theorem Bt.plain : ∀ f : Bt, f.name ≠ "__name__" ∧ (f.name == ("__debug__" : Str)) = false
  | .len => by decide +kernel
  | .abs => by decide +kernel
  | .int => by decide +kernel
  | .max => by decide +kernel
  | .min => by decide +kernel
  | .all => by decide +kernel
  | .any => by decide +kernel
  | .sum => by decide +kernel
  | .tuple => by decide +kernel
theorem Bt.kind : ∀ f : Bt, (∃ id, f.val = .builtin id) ∨ ∃ T, f.val = .type T
  | .len => .inl ⟨_, rfl⟩
  | .abs => .inl ⟨_, rfl⟩
  | .int => .inr ⟨_, rfl⟩
  | .max => .inl ⟨_, rfl⟩
  | .min => .inl ⟨_, rfl⟩
  | .all => .inl ⟨_, rfl⟩
  | .any => .inl ⟨_, rfl⟩
  | .sum => .inl ⟨_, rfl⟩
  | .tuple => .inr ⟨_, rfl⟩

theorem CallR.or {X : Cx} {u : Value} {r r' : List V → Hp → VK → Prop} (h : CallR X u r) (h' : CallR X u r') : CallR X u (fun x H Q => r x H Q ∨ r' x H Q) := by
  intro pins s σ H xs us Q I rs q
  rcases q with q | q
  · exact h pins s σ H xs us Q I rs q
  · exact h' pins s σ H xs us Q I rs q
def BRs (Z : Kx) (g : Sg) : List W → List V → Prop
  | [], vs => vs = []
  | a :: as, vs => ∃ v r, vs = v :: r ∧ BR Z g a v ∧ BRs Z g as r
theorem ArgsR.vws {g : Sg} {r : Env} {σ : L2.St} {F : Fp} (e : RE C.Z C.B C.T g r σ F) : ∀ {as : List Arg} {vs : List V} {ws : List W}, ArgsR C g F σ as vs → FM.vws r as = some ws → BRs C.Z g ws vs
  | [], _, _, h, q => by cases q; exact h
  | a :: as, _, _, h, q => by
    obtain ⟨v, t, rfl, h1, h2⟩ := h
    obtain ⟨w, q1, q⟩ := Option.bind_eq_some_iff.mp q
    obtain ⟨ws, q2, rfl⟩ := Option.map_eq_some_iff.mp q
    exact ⟨v, t, rfl, h1.vw e q1, ArgsR.vws e h2 q2⟩
def BltR (C : Cz) (f : Bt) (r : List V → Hp → VK → Prop) : Prop := ∀ (g : Sg) (as : List W) (w : W) (vs : List V) (Q : VK), bltF f as = some w → BRs C.Z g as vs → Lay C.Z g w Q → r vs g.H Q
theorem args1 {Z : Kx} {g : Sg} {a : W} {vs : List V} (h : BRs Z g [a] vs) : ∃ v, vs = [v] ∧ BR Z g a v := by
  obtain ⟨v, r, rfl, h1, h2⟩ := h
  cases h2
  exact ⟨v, rfl, h1⟩
theorem args2 {Z : Kx} {g : Sg} {a b : W} {vs : List V} (h : BRs Z g [a, b] vs) : ∃ v u, vs = [v, u] ∧ BR Z g a v ∧ BR Z g b u := by
  obtain ⟨v, r, rfl, h1, h2⟩ := h
  obtain ⟨u, rfl, h3⟩ := args1 h2
  exact ⟨v, u, rfl, h1, h3⟩
theorem bls_map {Z : Kx} {g : Sg} : ∀ {ws : List W} {bs : List Bool} {xs : List V}, bls ws = some bs → RWs Z g ws xs → xs = bs.map V.bl
  | [], _, _, h, r => by cases h; cases r; rfl
  | w :: ws, bs, _, h, r => by
    obtain ⟨x, t, rfl, r1, r2⟩ := r
    cases w <;> first | (cases h; done) | skip
    obtain ⟨cs, hc, rfl⟩ := Option.map_eq_some_iff.mp h
    cases r1
    rw [bls_map hc r2]
    rfl
theorem nums_map {Z : Kx} {g : Sg} : ∀ {ws : List W} {bs : List Int} {xs : List V}, nums ws = some bs → RWs Z g ws xs → xs = bs.map V.int
  | [], _, _, h, r => by cases h; cases r; rfl
  | w :: ws, bs, _, h, r => by
    obtain ⟨x, t, rfl, r1, r2⟩ := r
    cases w <;> first | (cases h; done) | skip
    obtain ⟨cs, hc, rfl⟩ := Option.map_eq_some_iff.mp h
    cases r1
    rw [nums_map hc r2]
    rfl
theorem txts_map {Z : Kx} {g : Sg} : ∀ {ws : List W} {bs : List (List Nat)} {xs : List V}, txts ws = some bs → RWs Z g ws xs → xs = (bs.map sv).map V.str
  | [], _, _, h, r => by cases h; cases r; rfl
  | w :: ws, bs, _, h, r => by
    obtain ⟨x, t, rfl, r1, r2⟩ := r
    cases w <;> first | (cases h; done) | skip
    obtain ⟨cs, hc, rfl⟩ := Option.map_eq_some_iff.mp h
    cases r1
    rw [txts_map hc r2]
    rfl

theorem blt_len : ∃ r, CallR C.X (Bt.val .len) r ∧ BltR C .len r := by
  refine ⟨_, call_len.or call_lenD, fun g as w vs Q h ra k => ?_⟩
  cases as with
  | nil => cases h
  | cons a r =>
    cases r with
    | cons b r => cases a <;> cases h
    | nil =>
      obtain ⟨v, rfl, rb⟩ := args1 ra
      have seq : ∀ {ws : List W}, seqW a = some ws → w = .int ws.length → (∃ x n, [v] = [x] ∧ LenV C.X.K x g.H n ∧ Q (.int n) g.H) := by
        rintro ws h1 rfl
        obtain ⟨p, xs, rfl, hq, rw⟩ := rb.seq h1
        refine ⟨_, xs.length, rfl, ?_, k.1 _ (by rw [rw.length]; rfl)⟩
        rcases hq with hq | hq
        · exact .inl ⟨xs, hq, rfl⟩
        · exact .inr ⟨xs, hq, rfl⟩
      cases a with
      | str z =>
        have h : (if Nat.ble z.length size then some (W.int z.length) else none) = some w := h
        split at h
        · rename_i hz
          cases h
          cases rb
          exact .inl ⟨_, _, rfl, ⟨by rw [sv_len]; exact sizeLine_le (Nat.le_of_ble_eq_true hz), rfl⟩, k.1 _ (by rw [sv_len]; rfl)⟩
        · cases h
      | tup us => cases h; exact .inl (seq rfl rfl)
      | lis us => cases h; exact .inl (seq rfl rfl)
      | scr us => cases h; exact .inl (seq rfl rfl)
      | dic ks us =>
        cases h
        obtain ⟨p, xs, rfl, ⟨ys, hy, hk, rfl⟩, _⟩ := rb
        exact .inr ⟨_, ys, rfl, hy, k.1 _ (by rw [hk.length, List.length_map]; rfl)⟩
      | _ => cases h
theorem lst1 {Z : Kx} {g : Sg} {vs : List V} {a : W} {ws : List W} (ra : BRs Z g [a] vs) (h : lstW a = some ws) : ∃ p xs, vs = [.ref p] ∧ SqL Z.K g.H p xs ∧ RWs Z g ws xs := by
  obtain ⟨v, rfl, rb⟩ := args1 ra
  obtain ⟨p, xs, rfl, h1, h2⟩ := rb.lst h
  exact ⟨p, xs, rfl, sqL_of h1, h2⟩
theorem blt_any (hc : C.X.calm = true) : ∀ f : Bt, ∃ r, CallR C.X (Bt.val f) r ∧ BltR C f r
  | .len => blt_len
  | .abs => ⟨_, call_abs, fun g as w vs Q h ra k => by
    match as, h with
    | [(.int i)], h =>
      cases h
      obtain ⟨v, rfl, rb⟩ := args1 ra
      cases rb
      exact ⟨i, rfl, k.1 _ rfl⟩⟩
  | .int => ⟨_, CallR.or call_int1 call_int_str, fun g as w vs Q h ra k => by
    match as, h with
    | [(.int i)], h =>
      cases h
      obtain ⟨v, rfl, rb⟩ := args1 ra
      cases rb
      exact .inl (.inl ⟨i, rfl, k.1 _ rfl⟩)
    | [(.bl i)], h =>
      cases h
      obtain ⟨v, rfl, rb⟩ := args1 ra
      cases rb
      exact .inl (.inr ⟨i, rfl, k.1 _ rfl⟩)
    | [(.str z)], h =>
      obtain ⟨v, rfl, rb⟩ := args1 ra
      cases rb
      have h : (if digs z && Nat.blt 0 z.length && Nat.ble z.length 640 then some (W.int (dval z : Nat)) else none) = some w := h
      split at h
      · rename_i hz
        cases h
        rw [Bool.and_eq_true, Bool.and_eq_true, Nat.ble_eq, Nat.blt_eq] at hz
        obtain ⟨⟨h1, h2⟩, h3⟩ := hz
        have hd : PySem.NumText.AllDigits (sv z).cps.toList := by
          rw [sv_list]
          intro c hc
          have := List.all_eq_true.mp h1 c hc
          rw [Bool.and_eq_true, Nat.ble_eq, Nat.ble_eq] at this
          exact this
        have hl : (sv z).length ≤ 640 := by rw [sv_len]; exact h3
        have e := PySem.intText_digits hd (by rw [sv_list]; intro e; rw [e] at h2; exact absurd h2 (by decide)) (Nat.le_trans hl (by decide))
        rw [sv_list] at e
        exact .inr ⟨sv z, _, rfl, e, hl, k.1 _ rfl⟩
      · cases h⟩
  | .max => ⟨_, call_max2 hc, fun g as w vs Q h ra k => by
    match as, h with
    | [(.int i), (.int j)], h =>
      cases h
      obtain ⟨v, u, rfl, rc, rd⟩ := args2 ra
      cases rc
      cases rd
      exact ⟨i, j, rfl, k.1 _ rfl⟩⟩
  | .min => ⟨_, call_min2 hc, fun g as w vs Q h ra k => by
    match as, h with
    | [(.int i), (.int j)], h =>
      cases h
      obtain ⟨v, u, rfl, rc, rd⟩ := args2 ra
      cases rc
      cases rd
      exact ⟨i, j, rfl, k.1 _ rfl⟩⟩
  | .all => ⟨_, cr_all hc, fun g as w vs Q h ra k => by
    match as, h with
    | [a], h =>
      obtain ⟨ws, h1, h2⟩ := Option.bind_eq_some_iff.mp (show ((lstW a).bind fun ws => (bls ws).map fun bs => W.bl (bs.all id)) = some w from h)
      obtain ⟨bs, h3, rfl⟩ := Option.map_eq_some_iff.mp h2
      obtain ⟨p, xs, rfl, hq, rw⟩ := lst1 ra h1
      have e := bls_map h3 rw
      subst e
      exact ⟨p, bs, rfl, hq, k.1 _ rfl⟩⟩
  | .any => ⟨_, cr_any hc, fun g as w vs Q h ra k => by
    match as, h with
    | [a], h =>
      obtain ⟨ws, h1, h2⟩ := Option.bind_eq_some_iff.mp (show ((lstW a).bind fun ws => (bls ws).map fun bs => W.bl (bs.any id)) = some w from h)
      obtain ⟨bs, h3, rfl⟩ := Option.map_eq_some_iff.mp h2
      obtain ⟨p, xs, rfl, hq, rw⟩ := lst1 ra h1
      have e := bls_map h3 rw
      subst e
      exact ⟨p, bs, rfl, hq, k.1 _ rfl⟩⟩
  | .sum => ⟨_, cr_sum hc, fun g as w vs Q h ra k => by
    match as, h with
    | [a], h =>
      obtain ⟨ws, h1, h2⟩ := Option.bind_eq_some_iff.mp (show ((lstW a).bind fun ws => (nums ws).map fun bs => W.int bs.sum) = some w from h)
      obtain ⟨bs, h3, rfl⟩ := Option.map_eq_some_iff.mp h2
      obtain ⟨p, xs, rfl, hq, rw⟩ := lst1 ra h1
      have e := nums_map h3 rw
      subst e
      exact ⟨p, bs, rfl, hq, k.1 _ rfl⟩⟩
  | .tuple => ⟨_, cr_tupD, fun g as w vs Q h ra k => by
    match as, h with
    | [a], h =>
      obtain ⟨ws, h1, rfl⟩ := Option.map_eq_some_iff.mp (show ((seqW a).map fun ws => W.tup ws) = some w from h)
      obtain ⟨v, rfl, rb⟩ := args1 ra
      cases a with
      | tup us =>
        obtain rfl : us = ws := Option.some.inj h1
        obtain ⟨p, xs, rfl, hq, rw⟩ := rb
        exact ⟨p, xs, rfl, .inr ⟨hq.1, k.1 _ ⟨p, xs, rfl, hq, rw⟩⟩⟩
      | lis us =>
        obtain rfl : us = ws := Option.some.inj h1
        obtain ⟨p, xs, rfl, hq, rw⟩ := rb
        exact ⟨p, xs, rfl, .inl ⟨sqL_of hq, fun l ob hl hd => lay_tup rw hl hd k⟩⟩
      | scr us =>
        obtain rfl : us = ws := Option.some.inj h1
        obtain ⟨p, xs, rfl, hq, rw⟩ := rb
        refine ⟨p, xs, rfl, .inl ⟨?_, fun l ob hl hd => lay_tup rw hl hd k⟩⟩
        rcases hq with ⟨o, hq⟩ | hq
        · exact .inl (.inr ⟨o, hq⟩)
        · exact .inr hq
      | _ => cases h1⟩
theorem se_blt {f : Bt} {p : Pos} {h : IV → Env → Res Arg} {is : List IV} (hc : C.X.calm = true) (hg : Gl C.X f.name) (hm : C.X.mg f.name = none) (hst : (e :: es).all notStar = true) (ha : SAV C (e :: es) (evs h is)) :
    SE C (.Call (.Name f.name p) (e :: es) [] pos) (fun r => (evs h is r).bind fun xs r1 => Res.of ((vws r1 xs).bind fun ws => bltF f ws) r1) := by
  obtain ⟨t, pa, i⟩ := ha
  obtain ⟨r, hr, hb⟩ := blt_any hc f
  refine ⟨_, pe_blt f.kind hr hg hm f.boot pa f.plain.1 f.plain.2 hst, fun g ρ σ F Q re k => ?_⟩
  refine i g ρ σ F _ re (k.seq fun xs r1 g1 F1 t1 re1 k1 vs rvs => ?_)
  obtain ⟨w, hw, q⟩ := k1.of'
  obtain ⟨ws, e1, e2⟩ := Option.bind_eq_some_iff.mp hw
  exact hb g1 ws w vs Q e2 (rvs.vws re1 e1) (lay_now re1 q)
end
end FM


set_option Elab.async false
set_option linter.all false
set_option maxRecDepth 100000
set_option maxHeartbeats 2000000
namespace FM
open PySem L2

/-! ### sorted texts -/
theorem ltS_trans {a b c : List Nat} (h1 : ltS a b = true) (h2 : ltS b c = true) : ltS a c = true := by
  rw [ltS_iff, decide_eq_true_eq] at *
  exact List.lt_trans h1 h2
theorem ltS_irrefl (a : List Nat) : ltS a a = false := by
  rw [ltS_iff, decide_eq_false_iff_not]
  exact List.lt_irrefl a
theorem ltS_total {a b : List Nat} (h1 : ltS a b = false) (h2 : ltS b a = false) : a = b := by
  rw [ltS_iff, decide_eq_false_iff_not] at *
  exact List.le_antisymm (List.not_lt.mp h2) (List.not_lt.mp h1)
theorem insS_perm (a : List Nat) : ∀ l : List (List Nat), (insS a l).Perm (a :: l)
  | [] => .refl _
  | b :: r => by
    unfold insS
    split
    · exact ((insS_perm a r).cons b).trans (.swap a b r)
    · exact .refl _
theorem sortS_perm : ∀ l : List (List Nat), (sortS l).Perm l
  | [] => .refl _
  | a :: r => (insS_perm a (sortS r)).trans ((sortS_perm r).cons a)
theorem insS_sorted (a : List Nat) : ∀ {l : List (List Nat)}, l.Pairwise (fun x y => ltS y x = false) → (insS a l).Pairwise (fun x y => ltS y x = false)
  | [], _ => List.pairwise_singleton _ _
  | b :: r, h => by
    unfold insS
    rw [List.pairwise_cons] at h
    split
    · rename_i hb
      refine List.pairwise_cons.mpr ⟨fun y hy => ?_, insS_sorted a h.2⟩
      rcases List.mem_cons.mp ((insS_perm a r).mem_iff.mp hy) with rfl | hy
      · cases e : ltS y b with
        | false => rfl
        | true => exact absurd (ltS_trans hb e) (by rw [ltS_irrefl]; decide)
      · exact h.1 y hy
    · rename_i hb
      have hb : ltS b a = false := by simpa using hb
      refine List.pairwise_cons.mpr ⟨fun y hy => ?_, List.pairwise_cons.mpr h⟩
      rcases List.mem_cons.mp hy with rfl | hy
      · exact hb
      · cases e : ltS y a with
        | false => rfl
        | true =>
          have h3 := h.1 y hy
          by_cases hab : ltS a b = true
          · rw [ltS_trans e hab] at h3; cases h3
          · have : a = b := ltS_total (by simpa using hab) hb
            rw [this] at e
            rw [e] at h3; cases h3
theorem sortS_sorted : ∀ l : List (List Nat), (sortS l).Pairwise (fun x y => ltS y x = false)
  | [] => .nil
  | a :: r => insS_sorted a (sortS_sorted r)
theorem sorted_unique : ∀ {l m : List (List Nat)}, l.Perm m → l.Pairwise (fun x y => ltS y x = false) → m.Pairwise (fun x y => ltS y x = false) → l = m
  | [], m, p, _, _ => (List.nil_perm.mp p).symm
  | a :: r, [], p, _, _ => (List.not_perm_nil_cons _ _ p.symm).elim
  | a :: r, b :: t, p, h1, h2 => by
    rw [List.pairwise_cons] at h1 h2
    have e : a = b := by
      have ma : a ∈ b :: t := p.mem_iff.mp List.mem_cons_self
      have mb : b ∈ a :: r := p.mem_iff.mpr List.mem_cons_self
      rcases List.mem_cons.mp ma with h | h
      · exact h
      · rcases List.mem_cons.mp mb with h' | h'
        · exact h'.symm
        · exact ltS_total (h2.1 a h) (h1.1 b h')
    subst e
    rw [sorted_unique (List.Perm.cons_inv p) h1.2 h2.2]

theorem ltCps_eq : ∀ (a b : List Nat), PySem.Spec.ltCps a b = ltS a b
  | [], [] => rfl
  | [], _ :: _ => rfl
  | _ :: _, [] => rfl
  | a :: r, b :: t => by
    simp only [PySem.Spec.ltCps, ltS]
    rw [ltCps_eq r t]
    by_cases h : a < b
    · simp [h, Nat.blt_eq]
    · by_cases e : a = b
      · subst e
        simp
      · have e2 : Nat.beq a b = false := by rw [← Bool.not_eq_true, Nat.beq_eq]; exact e
        simp [h, e, e2, Nat.blt_eq]
theorem le_trans {a b c : List Nat} (h1 : ltS b a = false) (h2 : ltS c b = false) : ltS c a = false := by
  cases e : ltS c a with
  | false => rfl
  | true =>
    by_cases h : ltS a b = true
    · rw [ltS_trans e h] at h2; cases h2
    · have : a = b := ltS_total (by simpa using h) h1
      rw [this] at e
      rw [e] at h2; cases h2
theorem rising_pair : ∀ {l : List Str} {p : Str}, PyProof.Rows.risingS p l = true → (p.cps.toList :: l.map fun x => x.cps.toList).Pairwise (fun x y => ltS y x = false)
  | [], p, _ => List.pairwise_singleton _ _
  | x :: r, p, h => by
    simp only [PyProof.Rows.risingS, Bool.and_eq_true, Bool.not_eq_true', ltCps_eq] at h
    have ih := rising_pair h.2
    refine List.pairwise_cons.mpr ⟨fun y hy => ?_, ih⟩
    rw [List.map_cons] at hy
    rcases List.mem_cons.mp hy with rfl | hy
    · exact h.1
    · exact le_trans h.1 ((List.pairwise_cons.mp ih).1 y hy)
theorem sorted_eq {ss : List (List Nat)} {ys : List Str} (p : ys.Perm (ss.map sv)) (h : PyProof.Rows.sortedS ys = true) : ys = (sortS ss).map sv := by
  have h1 : (ys.map fun x => x.cps.toList).Perm ss := by
    have q := p.map (fun x : Str => x.cps.toList)
    rw [List.map_map] at q
    have e : ss.map ((fun x : Str => x.cps.toList) ∘ sv) = ss := by
      conv => rhs; rw [← List.map_id ss]
      exact List.map_congr_left fun x _ => sv_list x
    rw [e] at q
    exact q
  have h2 : (ys.map fun x => x.cps.toList).Pairwise (fun x y => ltS y x = false) := by
    cases ys with
    | nil => exact .nil
    | cons y r => exact rising_pair h
  have h3 := sorted_unique (h1.trans (sortS_perm ss).symm) h2 (sortS_sorted ss)
  rw [← h3, List.map_map]
  conv => lhs; rw [← List.map_id ys]
  exact List.map_congr_left fun x _ => sv_of x
theorem rws_txts {Z : Kx} {g : Sg} : ∀ l : List (List Nat), RWs Z g (l.map W.str) ((l.map sv).map V.str)
  | [] => rfl
  | a :: r => ⟨_, _, rfl, rfl, rws_txts r⟩
theorem KeysR.txts : ∀ {ks : List W} {ys : List Key} {ss : List (List Nat)}, KeysR ks ys → FM.txts ks = some ss → ys = (ss.map sv).map Sum.inr
  | [], _, _, h, e => by cases h; cases e; rfl
  | k :: ks, _, _, h, e => by
    obtain ⟨l, r, rfl, h1, h2⟩ := h
    cases k with
    | str s =>
      obtain ⟨cs, hc, rfl⟩ := Option.map_eq_some_iff.mp e
      cases h1
      simp only [List.map_cons]
      rw [KeysR.txts h2 hc]
    | _ => cases e
section
variable {C : Cz} {a b d e : Expr} {es : List Expr} {pos : Pos} {ma mb md : Env → Res W} {va vb vd : Env → Res Arg} {mt mu : Env → Res Bool}
def srtM (va : Env → Res Arg) : Env → Res U := fun r => (va r).bind fun x r1 => Res.of ((vw r1 x).bind fun u => (sortF u).map fun ws => .l (ws.map U.d)) r1
theorem su_srt {p : Pos} (hc : C.X.calm = true) (hg : Gl C.X "sorted") (hm : C.X.mg "sorted" = none) (hn : notStar a = true) (ha : SV C a va) : SU C (.Call (.Name "sorted" p) [a] [] pos) (srtM va) := by
  obtain ⟨t, pa, i⟩ := ha
  refine ⟨_, pe_blt (.inl ⟨_, rfl⟩) (CallR.or cr_sortedS (call_sortedD hc)) hg hm (by decide +kernel) (pa_cons pa pa_nil (star_ hn)) (by decide +kernel) (by decide +kernel) (by simp [hn]), fun g ρ σ F Q re k => ?_⟩
  refine i g ρ σ F _ re (POk.seq (show POk C g F σ _ ((va ρ).bind _) from k) fun x r1 g1 F1 t1 re1 k1 v1 rv1 => ?_)
  obtain ⟨z, hz, q⟩ := k1.of'
  obtain ⟨u, e1, hz⟩ := Option.bind_eq_some_iff.mp hz
  obtain ⟨ws, e2, rfl⟩ := Option.map_eq_some_iff.mp hz
  have br := rv1.vw re1 e1
  have list : ∀ {us : List W}, lstW u = some us → ((FM.txts us).bind fun ss => if Nat.blt ss.length 64 then some ((sortS ss).map W.str) else none) = some ws → rSortedS C.X.K [v1] g1.H Q := by
    intro us hl hb
    obtain ⟨ss, hs, hb⟩ := Option.bind_eq_some_iff.mp hb
    split at hb
    · rename_i h64
      cases hb
      obtain ⟨p, xs, rfl, hq, rw⟩ := br.lst hl
      have exs := txts_map hs rw
      subst exs
      refine ⟨p, ss.map sv, rfl, sqL_of hq, by simpa [Nat.blt_eq] using h64, fun ys q' hp hsd hn => ?_⟩
      rw [sorted_eq hp hsd]
      exact lay_lst t1 re1 (OUs.dat (rws_txts _)) hn q
    · cases hb
  show rSortedS C.X.K [v1] g1.H Q ∨ _
  cases u with
  | dic ks us =>
    refine .inr ?_
    obtain ⟨ss, hs, hb⟩ := Option.bind_eq_some_iff.mp (show ((FM.txts ks).bind fun ss => if Nat.blt ss.length 64 then some ((sortS ss).map W.str) else none) = some ws from e2)
    split at hb
    · rename_i h64
      cases hb
      obtain ⟨p, xs, rfl, ⟨ys, hy, hk, _⟩, _⟩ := br
      refine ⟨_, ys, ss.map sv, rfl, .inl hy, hk.txts hs, by simpa [Nat.blt_eq] using h64, fun zs q' hp hsd hn => ?_⟩
      rw [sorted_eq hp hsd]
      exact lay_lst t1 re1 (OUs.dat (rws_txts _)) hn q
    · cases hb
  | lis us => exact .inl (list rfl e2)
  | _ => cases e2
def lofM (va : Env → Res Arg) : Env → Res U := fun r => (va r).bind fun x r1 => Res.of ((vw r1 x).bind fun u => (seqW u).map fun ws => .l (ws.map U.d)) r1
theorem su_lof {p : Pos} (hg : Gl C.X "list") (hm : C.X.mg "list" = none) (hn : notStar a = true) (ha : SV C a va) : SU C (.Call (.Name "list" p) [a] [] pos) (lofM va) := by
  obtain ⟨t, pa, i⟩ := ha
  refine ⟨_, pe_blt (.inr ⟨_, rfl⟩) call_list_of hg hm (by decide +kernel) (pa_cons pa pa_nil (star_ hn)) (by decide +kernel) (by decide +kernel) (by simp [hn]), fun g ρ σ F Q re k => ?_⟩
  refine i g ρ σ F _ re (POk.seq (show POk C g F σ _ ((va ρ).bind _) from k) fun x r1 g1 F1 t1 re1 k1 v1 rv1 => ?_)
  obtain ⟨z, hz, q⟩ := k1.of'
  obtain ⟨u, e1, hz⟩ := Option.bind_eq_some_iff.mp hz
  obtain ⟨ws, e2, rfl⟩ := Option.map_eq_some_iff.mp hz
  obtain ⟨p, xs, rfl, hq, rw⟩ := (rv1.vw re1 e1).seq e2
  exact ⟨p, xs, rfl, hq, fun l hl => lay_lst t1 re1 (OUs.dat rw) hl q⟩

/-! ### isinstance -/
def Ty.nm : Ty → String
  | .int => "int" | .bool => "bool" | .str => "str" | .tuple => "tuple" | .list => "list" | .dict => "dict"
def Ty.name : Ty → Str
  | .int => "int" | .bool => "bool" | .str => "str" | .tuple => "tuple" | .list => "list" | .dict => "dict"
theorem Ty.boot : ∀ f : Ty, bootBuiltins f.name = some (.type f.nm) ∧ f.name ≠ "__name__" ∧ (f.name == ("__debug__" : Str)) = false
  | .int => by decide +kernel
  | .bool => by decide +kernel
  | .str => by decide +kernel
  | .tuple => by decide +kernel
  | .list => by decide +kernel
  | .dict => by decide +kernel
theorem tyX_of {Z : Kx} {g : Sg} {t : Ty} {w : W} {v : V} (r : BR Z g w v) (ho : ∀ c ks ws, w ≠ .obj c ks ws) : ∃ T, TyX Z.K g.H v (.type T) ∧ kitB T t.nm = some (tyIs t w) := by
  cases w with
  | non => cases r; exact ⟨_, .base .non, by cases t <;> first | exact (show kitB _ _ = some true by decide +kernel) | exact (show kitB _ _ = some false by decide +kernel)⟩
  | bl c => cases r; exact ⟨_, .base (.bl c), by cases t <;> first | exact (show kitB _ _ = some true by decide +kernel) | exact (show kitB _ _ = some false by decide +kernel)⟩
  | int c => cases r; exact ⟨_, .base (.int c), by cases t <;> first | exact (show kitB _ _ = some true by decide +kernel) | exact (show kitB _ _ = some false by decide +kernel)⟩
  | str c => cases r; exact ⟨_, .base (.str _), by cases t <;> first | exact (show kitB _ _ = some true by decide +kernel) | exact (show kitB _ _ = some false by decide +kernel)⟩
  | tup ws =>
    obtain ⟨a, xs, rfl, hq, _⟩ := r
    refine ⟨"tuple", ?_, by cases t <;> first | exact (show kitB _ _ = some true by decide +kernel) | exact (show kitB _ _ = some false by decide +kernel)⟩
    rcases hq with (hq | ⟨o, hq⟩) | ⟨o, its, n, h1, h2, _⟩
    · exact .base (.tup hq)
    · exact .fTuple hq
    · exact .kTuple h1 h2
  | lis us =>
    obtain ⟨a, xs, rfl, e, _⟩ := r
    exact ⟨"list", .base (.lst e), by cases t <;> first | exact (show kitB _ _ = some true by decide +kernel) | exact (show kitB _ _ = some false by decide +kernel)⟩
  | scr us =>
    obtain ⟨a, xs, rfl, e, _⟩ := r
    refine ⟨"list", ?_, by cases t <;> first | exact (show kitB _ _ = some true by decide +kernel) | exact (show kitB _ _ = some false by decide +kernel)⟩
    rcases e with ⟨o, e⟩ | ⟨o, its, n, h1, h2, _⟩
    · exact .base (.frz e)
    · exact .kList h1 h2
  | dic ks us =>
    obtain ⟨a, xs, rfl, ⟨ys, e, _⟩, _⟩ := r
    exact ⟨"dict", .base (.dK e), by cases t <;> first | exact (show kitB _ _ = some true by decide +kernel) | exact (show kitB _ _ = some false by decide +kernel)⟩
  | obj c ks ws => exact absurd rfl (ho c ks ws)
def isiM (t : Ty) (va : Env → Res Arg) : Env → Res W := fun r => (va r).bind fun x r1 => Res.of ((vw r1 x).bind fun w => tyIsO t w) r1
theorem se_isi {p p' : Pos} {t : Ty} (hg : Gl C.X "isinstance") (hm : C.X.mg "isinstance" = none) (hg' : Gl C.X t.name) (hm' : C.X.mg t.name = none) (hn : notStar a = true) (ha : SV C a va) :
    SE C (.Call (.Name "isinstance" p) [a, .Name t.name p'] [] pos) (isiM t va) := by
  obtain ⟨ta, pa, i⟩ := ha
  refine ⟨_, pe_blt (.inl ⟨_, rfl⟩) call_isi hg hm (by decide +kernel) (pa_cons pa (pa_cons (pe_bltn (v := .ty t.nm) hg' hm' t.boot.1 rfl t.boot.2.1 t.boot.2.2) pa_nil rfl) (star_ hn)) (by decide +kernel) (by decide +kernel) (by rw [List.all_cons, hn]; rfl), fun g ρ σ F Q re k => ?_⟩
  refine i g ρ σ F _ re (POk.seq (show POk C g F σ _ ((va ρ).bind _) from k) fun x r1 g1 F1 t1 re1 k1 v1 rv1 => ?_)
  obtain ⟨z, hz, q⟩ := k1.of re1
  obtain ⟨w, e1, hz⟩ := Option.bind_eq_some_iff.mp hz
  have ho : ∀ c ks ws, w ≠ .obj c ks ws := by
    rintro c ks ws rfl
    cases hz
  obtain ⟨T, hT, hk⟩ := tyX_of (t := t) (rv1.vw re1 e1) ho
  have hz : z = .bl (tyIs t w) := by
    cases w <;> first | (cases hz; rfl) | exact absurd rfl (ho _ _ _)
  subst hz
  exact ⟨v1, .ty t.nm, _, _, tyIs t w, rfl, .ty _, hT, kit_ty hk, q _ rfl⟩

/-! ### dicts -/
def didxM (va : Env → Res Arg) (mb : Env → Res W) : Env → Res W := fun r => (va r).bind fun x r1 => (mb r1).bind fun k r2 => Res.of ((vw r2 x).bind fun u => match u with
    | .dic ks vs => if keyOk k then dfind k ks vs else none
    | _ => none) r2
theorem se_didx (hu : C.X.A.units + 1 < cLine) (ha : SV C a va) (hb : SE C b mb) (hp : plainIx b = true) : SE C (.Subscript a b pos) (didxM va mb) := by
  obtain ⟨ta, pa, ia⟩ := ha
  obtain ⟨tb, pb, ib⟩ := hb
  refine ⟨_, pe_dget hu pa pb (plainIx_no hp), fun g ρ σ F Q re k => ?_⟩
  refine ia g ρ σ F _ re (POk.seq (show POk C g F σ _ ((va ρ).bind _) from k) fun x r1 g1 F1 t1 re1 k1 v1 rv1 => ?_)
  refine ib g1 r1 σ F1 _ re1 (k1.seq fun y r2 g2 F2 t2 re2 k2 v2 rv2 => ?_)
  obtain ⟨w, hw, fin⟩ := k2.of re2
  obtain ⟨u, hu, ea⟩ := Option.bind_eq_some_iff.mp hw
  have br := (rv1.go re1 t2).vw re2 hu
  cases u with
  | dic ks vs =>
    obtain ⟨p, xs, rfl, ⟨ys, hy, hk, rfl⟩, rw⟩ := br
    have ea : (if keyOk y then dfind y ks vs else none) = some w := ea
    split at ea
    · rename_i hok
      obtain ⟨k', rfl, kr⟩ := key_of hok rv2
      obtain ⟨v, hv, rv⟩ := (dfind_val kr hk rw).1 w ea
      exact ⟨_, v, rfl, by rw [← hv]; exact DGet.k hy, fin v rv⟩
    · cases ea
  | _ => cases ea
/-- what stands ahead of the dot -/
def notSuper : Expr → Bool
  | .Call (.Name _ _) [] [] _ => false
  | _ => true
theorem base_of {o : Expr} {m : Str} {env : PySem.Env} (h : notSuper o = true) {t : Sem Value} : attributeBase o m env t = t := by
  unfold attributeBase
  split
  · cases h
  · rfl

theorem m2_of {o e f : Expr} {m : Str} {apos cpos : Pos} {X : Cx} (ho : notSuper o = true) (he : notStar e = true) (hf : notStar f = true) (hl : (apos.endLine == cpos.line) = true) : M2 X o m apos e f cpos := by
  have h1 : starEach [e, f] X.env = [(false, eval e X.env), (false, eval f X.env)] := by rw [star_ he, star_ hf]; rfl
  refine ⟨base_of ho, ?_, hl, ?_⟩
  · rw [h1]; rfl
  · rw [h1]; rfl
/-- the operand is a name that has a dict of its own -/
def dgetM (i : Nat) (mb md : Env → Res W) : Env → Res W := fun r => match lookU r i with
    | some (.c _ _) => (mb r).bind fun k r1 => (md r1).bind fun d r2 => Res.of (dgetV i k d r2) r2
    | _ => .bad
theorem se_dget {x : Str} {i : Nat} {npos apos : Pos} (hN : C.X.N[i]? = some x) (hv : Vis C.X.env.scope x) (hdb : (x == ("__debug__" : Str)) = false) (hcd : (x == ("__classdict__" : Str)) = false) (hu : C.X.A.units + 1 < cLine) (hb : SE C b mb) (hd : SE C d md) (he : notStar b = true) (hf : notStar d = true) (hl : (apos.endLine == pos.line) = true) :
    SE C (.Call (.Attribute (.Name x npos) "get" apos) [b, d] [] pos) (dgetM i mb md) := by
  obtain ⟨tb, pb, ib⟩ := hb
  obtain ⟨td, pd, id⟩ := hd
  refine ⟨_, pe_dget2 hu (pe_var hN hv hdb hcd) pb pd (m2_of rfl he hf hl), fun g ρ σ F Q re k => ?_⟩
  unfold dgetM at k
  cases hlk : lookU ρ i with
  | none => rw [hlk] at k; exact False.elim k
  | some u =>
    rw [hlk] at k
    cases u with
    | c ks us =>
      obtain ⟨v, _, _, _, hσ, p, xs, fs, rfl, ⟨ys, hy, _⟩, _⟩ := re.look hlk
      refine ⟨_, hσ, _, rfl, .inl ⟨ys, .inl hy⟩, ?_⟩
      refine ib g ρ σ F _ re (k.seq fun y r1 g1 F1 t1 re1 k1 v1 rv1 => ?_)
      refine id g1 r1 σ F1 _ re1 (k1.seq fun z r2 g2 F2 t2 re2 k2 v2 rv2 => ?_)
      obtain ⟨w, hw, fin⟩ := k2.of re2
      obtain ⟨u, hu, ea⟩ := Option.bind_eq_some_iff.mp hw
      have br := ArgR.vw (a := .sl i) (v := .ref p) re2 hσ hu
      cases u with
      | dic ks2 vs2 =>
        have ea : (if keyOk y then some ((dfind y ks2 vs2).getD z) else none) = some w := ea
        split at ea
        · rename_i hk
          cases ea
          obtain ⟨q, xs2, e2, ⟨ys2, hy2, hk2, rfl⟩, rw⟩ := br
          cases e2
          obtain ⟨k', rfl, kr⟩ := key_of hk (rv1.kp (t2.kp re1))
          have f := dfind_val kr hk2 rw
          refine ⟨_, DGet.k hy2, fin _ ?_⟩
          cases e : dfind y ks2 vs2 with
          | none => rw [f.2 e]; exact rv2
          | some u =>
            obtain ⟨v, hv, rv⟩ := f.1 u e
            rw [hv]
            exact rv
        · cases ea
      | _ => cases ea
    | _ => exact False.elim k
/-- {} -/
theorem su_ndic : SU C (.Dict [] [] pos) (fun r => .ok (.c [] []) r) := by
  refine ⟨_, pe_dnewK, fun g ρ σ F Q re k => ?_⟩
  intro p hp
  obtain ⟨re2, t2⟩ := re.lay (o := .dK []) hp
  refine k _ F t2 re2 _ [p] ⟨p, [], [], rfl, ⟨[], upd_same, rfl, rfl⟩, ⟨rfl, rfl⟩, rfl⟩ ?_ ?_
  · have x := tmp_new re hp
    exact ⟨x.nod, x.nl, x.nf⟩
  · intro a m
    rw [List.mem_singleton.mp m]
    exact .inl hp

/-! ### what a name has is changed -/
theorem RE.mut {g : Sg} {ρ : Env} {σ : L2.St} {F : Fp} {i : Nat} {u u' : U} {a : Addr} {fs : List Addr} {o : HO} (re : RE C.Z C.B C.T g ρ σ F) (hl : lookU ρ i = some u) (hF : F i = a :: fs) (hv : σ[i]? = some (some (.ref a)))
    (h : OU C.Z ⟨upd g.H a o, g.L⟩ u' (.ref a) (a :: fs)) : ∃ r', putV ρ i u' = some r' ∧ RE C.Z C.B C.T ⟨upd g.H a o, g.L⟩ r' σ F ∧ Go g F ⟨upd g.H a o, g.L⟩ F := by
  obtain ⟨kp, k1, k2⟩ := re.chg (o := o) hF
  have am : a ∈ F i := by rw [hF]; exact List.mem_cons_self
  obtain ⟨ou, hou, _⟩ := re.mu am
  obtain ⟨v, x, hx, cx, hσ, _⟩ := re.look hl
  rw [hv] at hσ
  cases hσ
  have hi := lt_of_get hx
  have go : Go g F ⟨upd g.H a o, g.L⟩ F := ⟨fun _ l => l, fun b ob e n => (upd_ne (fun z => n i (by rw [z]; exact am))).trans e, fun b e => by
    by_cases hb : b = a
    · subst hb
      have e : upd g.H b o b = none := e
      rw [upd_same] at e; cases e
    · have e : upd g.H a o b = none := e
      rw [upd_ne hb] at e; exact e, fun b l => .inl l, fun j b m => .inr ⟨j, m⟩⟩
  have fin : ∀ {y : En}, RN C.Z ⟨upd g.H a o, g.L⟩ C.B C.T i (some (.ref a)) (F i) y → RE C.Z C.B C.T ⟨upd g.H a o, g.L⟩ (ρ.set i y) σ F := fun {y} hy => by
    have := re.put (i := i) (o := some (.ref a)) (fp := F i) (x := y) (g' := ⟨upd g.H a o, g.L⟩) kp k1 hi hy (re.nod i) (fun b m => re.nl i b m) (fun j hj b m mj => hj (re.dis j i b mj m)) (fun j _ b m => re.nl j b m) (fun b l => by
      obtain ⟨q, hq⟩ := re.la b l
      exact ⟨q, (upd_ne (fun z => re.nl i a am (by rw [← z]; exact l))).trans hq⟩)
    rw [set_self hv] at this
    have e : F.set i (F i) = F := by
      funext j
      by_cases hj : j = i
      · subst hj; exact Fp.set_same
      · exact Fp.set_ne hj
    rw [e] at this
    exact this
  rw [← hF] at h
  unfold putV
  rw [nth_iff, hx]
  cases x with
  | no => cases cx
  | m w => exact ⟨_, rfl, fin ⟨_, rfl, h⟩, go⟩
  | t w =>
    obtain ⟨p, hp1, hp2⟩ := re.at_ i _ hx
    rw [hv] at hp1
    cases hp1
    obtain ⟨v, hb, ev, _⟩ := hp2
    cases ev
    exact ⟨_, rfl, fin ⟨_, hb, rfl, h⟩, go⟩
  | x c ks ws => cases cx
def appM (i : Nat) (ma : Env → Res W) : Env → Res W := fun r => match lookU r i with
    | some (.l _) => (ma r).bind fun y r1 => appS i y r1
    | _ => .bad
theorem se_app {x : Str} {i : Nat} {npos apos : Pos} (hN : C.X.N[i]? = some x) (hv : Vis C.X.env.scope x) (hdb : (x == ("__debug__" : Str)) = false) (hcd : (x == ("__classdict__" : Str)) = false) (hb : SE C b mb) (he : notStar b = true) (hl : (apos.endLine == pos.line) = true) :
    SE C (.Call (.Attribute (.Name x npos) "append" apos) [b] [] pos) (appM i mb) := by
  obtain ⟨tb, pb, ib⟩ := hb
  have h1 : starEach [b] C.X.env = [(false, eval b C.X.env)] := by rw [star_ he]; rfl
  refine ⟨_, pe_bm PySem.F.plainAttrs_list PySem.F.slot_list_append PySem.F.type_list_append mt_append (pe_var hN hv hdb hcd) (pa_cons pb pa_nil (star_ he)) (base_of rfl) (by rw [h1]; rfl) hl (star_ he) rfl, fun g ρ σ F Q re k => ?_⟩
  unfold appM at k
  cases hlk : lookU ρ i with
  | none => rw [hlk] at k; exact False.elim k
  | some u =>
    rw [hlk] at k
    cases u with
    | l us =>
      obtain ⟨v, _, _, _, hσ, p, xs, fs, rfl, hx, _⟩ := re.look hlk
      refine ⟨_, hσ, .inl ⟨rfl, xs, sqL_of hx⟩, ?_⟩
      refine ib g ρ σ F _ re (k.seq fun y r1 g1 F1 t1 re1 k1 v1 rv1 => ?_)
      unfold appS at k1
      cases hlk1 : lookU r1 i with
      | none => rw [hlk1] at k1; exact False.elim k1
      | some u1 =>
        rw [hlk1] at k1
        cases u1 with
        | l us1 =>
          obtain ⟨v', _, _, _, hσ1, p1, xs1, fs1, rfl, hx1, ou, hF⟩ := re1.look hlk1
          rw [hσ] at hσ1
          cases hσ1
          have k1 : POk C g1 F1 σ _ (if Nat.blt us1.length size then _ else _) := k1
          split at k1
          · rename_i hz
            have am : p ∈ F1 i := by rw [hF]; exact List.mem_cons_self
            obtain ⟨kp, _, kf⟩ := re1.chg (o := .lst (xs1 ++ [v1])) hF
            have ou2 : OU C.Z ⟨upd g1.H p (.lst (xs1 ++ [v1])), g1.L⟩ (.l (us1 ++ [.d y])) (.ref p) (p :: fs1) := by
              refine ⟨p, xs1 ++ [v1], fs1, rfl, upd_same, ?_, rfl⟩
              have := (ou.kp kp kf).append (OUs.dat (ws := [y]) (xs := [v1]) ⟨v1, [], rfl, rv1.kp kp, rfl⟩)
              rw [List.append_nil] at this
              exact this
            obtain ⟨r2, hp2, re2, t2⟩ := re1.mut hlk1 hF hσ ou2
            rw [hp2] at k1
            refine ⟨p, xs1, v1, rfl, rfl, hx1, ?_, k1 _ F1 t2 re2 _ rfl⟩
            rw [← ou.length]
            exact sizeLine_lt (by simpa [Nat.blt_eq] using hz)
          · exact False.elim k1
        | _ => exact False.elim k1
    | _ => exact False.elim k
/-- xs.extend(ys), ys a list or a tuple -/
def rExtA (K : PySem.W.Frag) : V → List V → Hp → VK → Prop := fun x vs H Q => ∃ l b xs zs, x = .ref l ∧ vs = [.ref b] ∧ H l = some (.lst xs) ∧ (H b = some (.lst zs) ∨ SqT K H b zs) ∧ xs.length + zs.length ≤ sizeLine ∧ Q .non (upd H l (.lst (xs ++ zs)))
theorem ext_tupW (l : Addr) (items : Array Value) (n : Nat) (b : Addr) (items2 : Array Value) (n2 : Nat) (dd : Option Addr) (sl : Array (Option Value)) (hs0 : ¬(!items.isEmpty && Builtin.List.listTooLong (items.size + items2.size)) = true) (hs1 : items.size ≤ sizeLine) (hs2 : items.size + items2.size ≤ sizeLine + 1) :
    Meets (Builtin.«list.extend» ⟨[.ref l, .ref b], []⟩) (fun _ R s => s.heap.get? l = some { cls := .type "list", dict := none, data := .seq items n, slots := #[] } ∧ s.heap.get? b = some { cls := .type "tuple", dict := dd, data := .seq items2 n2, slots := sl } ∧ R (.ok (.ret Value.none)) { s with heap := s.heap.update l (Obj.mapSeq fun x => x ++ items2), toks := s.toks }) :=
  .of_wp fun prog w A R s h => by
    obtain ⟨hp, g, d, tk, os⟩ := s; obtain ⟨hl, hb, h⟩ := h
    have f1 := AutoSeq1.idx_int
    have hz' : (items ++ items2).size ≤ sizeLine + 1 := by rw [Array.size_append]; exact hs2
    wp_walk using (wpAny_updateSeq hl rfl (hz := hs1) (_hz' := hz')), wpAny_loadPart' hl, wpAny_loadPart' hb; exact ⟨_, rfl, h⟩
theorem mt_extA {X : Cx} : MtR X "list.extend" (rExtA X.K) := by
  intro pins s σ H x vs v us Q I rx rv h
  obtain ⟨l, b, xs, zs, rfl, rfl, hH, hB | hB, hz, q⟩ := h
  · exact mt_extend pins s σ H _ _ v us Q I rx rv ⟨l, b, xs, zs, rfl, rfl, hH, hB, hz, q⟩
  · cases rx
    obtain ⟨u, rfl, ru⟩ := rv.one
    cases ru
    obtain ⟨z, its, n, r, hl, e⟩ := I.lstM hH
    obtain ⟨its2, r2, ⟨⟨cls, dd, data, sl⟩, ho, hc, n2, hd⟩, hs⟩ := I.tuple hB
    simp only at hc hd
    subst hc hd
    have hl2 : zs.length = its2.length := r2.length
    have hsz : its.toArray.size + its2.toArray.size ≤ sizeLine := by rw [List.size_toArray, List.size_toArray]; omega
    have hlong : ¬ (!its.toArray.isEmpty && Builtin.List.listTooLong (its.toArray.size + its2.toArray.size)) = true := by
      rw [notLongL hsz, Bool.and_false]
      exact Bool.false_ne_true
    refine call_meets F.slot_list_extend ⟨_, e, rfl⟩ F.entry_list_extend (F.args_list_extend_2 _ _)
      (ext_tupW l its.toArray n b its2.toArray n2 dd sl hlong (by rw [List.size_toArray]; omega) (by omega)) ⟨e, ho, ?_⟩
    refine ⟨.non, _, I.lset (its' := its ++ its2) hH e (by simp) (r.append r2) ?_, rfl, q⟩
    rw [List.length_append]
    omega
theorem BR.ext {Z : Kx} {g : Sg} {w : W} {v : V} {ws : List W} (h : BR Z g w v) (q : FM.extW w = some ws) : ∃ p xs, v = .ref p ∧ (g.H p = some (.lst xs) ∨ SqT Z.K g.H p xs) ∧ RWs Z g ws xs := by
  cases w with
  | tup us => cases q; obtain ⟨a, xs, e, h1, h2⟩ := h; exact ⟨a, xs, e, .inr h1.1, h2⟩
  | lis us => cases q; obtain ⟨a, xs, e, h1, h2⟩ := h; exact ⟨a, xs, e, .inl h1, h2⟩
  | _ => cases q
def extM (i : Nat) (va : Env → Res Arg) : Env → Res W := fun r => match lookU r i with
    | some (.l _) => (va r).bind fun y r1 => extS i y r1
    | _ => .bad
theorem se_ext {x : Str} {i : Nat} {npos apos : Pos} (hN : C.X.N[i]? = some x) (hv : Vis C.X.env.scope x) (hdb : (x == ("__debug__" : Str)) = false) (hcd : (x == ("__classdict__" : Str)) = false) (hb : SV C b vb) (he : notStar b = true) (hl : (apos.endLine == pos.line) = true) :
    SE C (.Call (.Attribute (.Name x npos) "extend" apos) [b] [] pos) (extM i vb) := by
  obtain ⟨tb, pb, ib⟩ := hb
  have h1 : starEach [b] C.X.env = [(false, eval b C.X.env)] := by rw [star_ he]; rfl
  refine ⟨_, pe_bm PySem.F.plainAttrs_list PySem.F.slot_list_extend PySem.F.type_list_extend mt_extA (pe_var hN hv hdb hcd) (pa_cons pb pa_nil (star_ he)) (base_of rfl) (by rw [h1]; rfl) hl (star_ he) rfl, fun g ρ σ F Q re k => ?_⟩
  unfold extM at k
  cases hlk : lookU ρ i with
  | none => rw [hlk] at k; exact False.elim k
  | some u =>
    rw [hlk] at k
    cases u with
    | l us =>
      obtain ⟨v, _, _, _, hσ, p, xs, fs, rfl, hx, _⟩ := re.look hlk
      refine ⟨_, hσ, .inl ⟨rfl, xs, sqL_of hx⟩, ?_⟩
      refine ib g ρ σ F _ re (k.seq fun y r1 g1 F1 t1 re1 k1 v1 rv1 => ?_)
      unfold extS at k1
      cases hlk1 : lookU r1 i with
      | none => rw [hlk1] at k1; exact False.elim k1
      | some u1 =>
        cases hw : (vw r1 y).bind FM.extW with
        | none => rw [hlk1, hw] at k1; cases u1 <;> exact False.elim k1
        | some ws =>
        rw [hlk1, hw] at k1
        obtain ⟨w0, hw1, hw2⟩ := Option.bind_eq_some_iff.mp hw
        obtain ⟨p', zs, rfl, hq', rws⟩ := (rv1.vw re1 hw1).ext hw2
        cases u1 with
        | l us1 =>
          obtain ⟨v', _, _, _, hσ1, p1, xs1, fs1, rfl, hx1, ou, hF⟩ := re1.look hlk1
          rw [hσ] at hσ1
          cases hσ1
          have k1 : POk C g1 F1 σ _ (if Nat.ble (us1.length + ws.length) size then _ else _) := k1
          split at k1
          · rename_i hz
            obtain ⟨kp, _, kf⟩ := re1.chg (o := .lst (xs1 ++ zs)) hF
            have ou2 : OU C.Z ⟨upd g1.H p (.lst (xs1 ++ zs)), g1.L⟩ (.l (us1 ++ ws.map U.d)) (.ref p) (p :: fs1) := by
              refine ⟨p, xs1 ++ zs, fs1, rfl, upd_same, ?_, rfl⟩
              have := (ou.kp kp kf).append (OUs.dat (rws.kp kp))
              rw [List.append_nil] at this
              exact this
            obtain ⟨r2, hp2, re2, t2⟩ := re1.mut hlk1 hF hσ ou2
            rw [hp2] at k1
            refine ⟨p, p', xs1, zs, rfl, rfl, hx1, hq', ?_, k1 _ F1 t2 re2 _ rfl⟩
            rw [← ou.length, ← rws.length]
            exact sizeLine_le (Nat.le_of_ble_eq_true hz)
          · exact False.elim k1
        | _ => exact False.elim k1
    | _ => exact False.elim k
end
end FM


set_option Elab.async false
set_option linter.all false
set_option maxRecDepth 100000
set_option maxHeartbeats 2000000
namespace FM
open PySem L2

/-! ### names stay while others change -/
section
variable {Z : Kx} {g g' : Sg} {B : Nat → Option V} {T : Option Ct} {r : Env} {σ : L2.St} {F F' : Fp}
theorem RE.keep (e : RE Z B T g r σ F) (t : Kp Z g g') (hk : ∀ j, ∀ a ∈ F j, g'.H a = g.H a) (hl : ∀ j, ∀ a ∈ F j, ¬ g'.L a) (la : ∀ a, g'.L a → ∃ o, g'.H a = some o) : RE Z B T g' r σ F :=
  ⟨e.len, fun i x h => let ⟨o, h1, h2⟩ := e.at_ i x h; ⟨o, h1, h2.kp t (hk i)⟩, e.out, e.nod, e.dis, fun j a m => hl j a m, la⟩
theorem wipe_len (r : Env) : ∀ vs : List Nat, (wipe r vs).length = r.length
  | [] => rfl
  | v :: vs => by unfold wipe; rw [List.length_set, wipe_len r vs]
/-- lent names are put aside -/
def Fp.wipe (F : Fp) : List Nat → Fp
  | [] => F
  | v :: vs => (F.wipe vs).set v []
theorem Fp.wipe_mem {F : Fp} : ∀ {vs : List Nat} {j : Nat} {a : Addr}, a ∈ F.wipe vs j → a ∈ F j ∧ j ∉ vs
  | [], j, a, h => ⟨h, by simp⟩
  | v :: vs, j, a, h => by
    unfold Fp.wipe at h
    by_cases hj : j = v
    · subst hj; rw [Fp.set_same] at h; cases h
    · rw [Fp.set_ne hj] at h
      obtain ⟨h1, h2⟩ := Fp.wipe_mem h
      exact ⟨h1, by simp only [List.mem_cons, not_or]; exact ⟨hj, h2⟩⟩
theorem RE.wipe (e : RE Z B T g r σ F) : ∀ {vs : List Nat}, (∀ v ∈ vs, v < r.length) → RE Z B T g (FM.wipe r vs) σ (F.wipe vs)
  | [], _ => e
  | v :: vs, h => by
    have ih := RE.wipe e (vs := vs) fun w hw => h w (List.mem_cons_of_mem _ hw)
    have hv : v < (FM.wipe r vs).length := by rw [wipe_len]; exact h v List.mem_cons_self
    obtain ⟨o, ho⟩ : ∃ o, σ[v]? = some o := ⟨σ[v]'(by rw [← e.len]; exact h v List.mem_cons_self), by simp⟩
    have := ih.drop (i := v) (o := o) hv
    rw [set_self ho] at this
    exact this
theorem wipe_set (r : Env) (x : En) {i : Nat} : ∀ {vs : List Nat}, i ∉ vs → FM.wipe (r.set i x) vs = (FM.wipe r vs).set i x
  | [], _ => rfl
  | v :: vs, h => by
    simp only [List.mem_cons, not_or] at h
    unfold FM.wipe
    rw [wipe_set r x h.2, List.set_comm _ _ h.1]
theorem wipe_get (r : Env) {i : Nat} : ∀ {vs : List Nat}, i ∉ vs → (FM.wipe r vs)[i]? = r[i]?
  | [], _ => rfl
  | v :: vs, h => by
    simp only [List.mem_cons, not_or] at h
    unfold FM.wipe
    rw [List.getElem?_set_ne (Ne.symm h.1), wipe_get r h.2]
/-- names that were put aside come back with what they have now -/
theorem RE.puts {g' : Sg} : ∀ {is : List Nat} {os : List U} {ws : List V} {fps : List Addr} {r : Env} {F0 : Fp}, RE Z B T g' (FM.wipe r is) σ F0 → is.Nodup → (∀ j ∈ is, ∃ x u, r[j]? = some x ∧ cont x = some u ∧ ∀ w, x = .t w → ∃ v, B j = some v ∧ σ[j]? = some (some v)) →
    (is.map fun j => σ[j]?) = ws.map (fun v => some (some v)) → OUs Z g' os ws fps → fps.Nodup → (∀ a ∈ fps, ¬ g'.L a) → (∀ a ∈ fps, ∀ k, a ∉ F0 k) →
    ∃ r1 Fn, FM.puts r is os = some r1 ∧ RE Z B T g' r1 σ Fn ∧ ∀ k a, a ∈ Fn k → a ∈ F0 k ∨ a ∈ fps
  | [], os, ws, fps, r, F0, re, _, _, hw, ou, _, _, _ => by
    have : ws = [] := by simpa using hw.symm
    subst this
    cases os with
    | nil => exact ⟨r, F0, rfl, re, fun k a h => .inl h⟩
    | cons u us => obtain ⟨x, t, f1, f2, e, _⟩ := ou; cases e
  | i :: is, os, ws, fps, r, F0, re, nd, hx, hw, ou, fnd, fl, ff => by
    cases ws with
    | nil => simp at hw
    | cons v ws =>
      simp only [List.map_cons, List.cons.injEq] at hw
      obtain ⟨hv, hw⟩ := hw
      cases os with
      | nil => obtain ⟨e, _⟩ := ou; cases e
      | cons u us =>
        obtain ⟨v', r', f1, f2, e, o1, o2, rfl⟩ := ou
        cases e
        rw [List.nodup_cons] at nd
        rw [List.nodup_append] at fnd
        obtain ⟨x, u0, hxi, hc, ht⟩ := hx i List.mem_cons_self
        have hi := lt_of_get hxi
        obtain ⟨y, hp, hy⟩ : ∃ y, putV r i u = some (r.set i y) ∧ RN Z g' B T i (some v) f1 y ∧ True := by
          unfold putV
          rw [nth_iff, hxi]
          cases x with
          | no => cases hc
          | m w => exact ⟨_, rfl, ⟨v, rfl, o1⟩, trivial⟩
          | t w =>
            obtain ⟨v2, b1, b2⟩ := ht w rfl
            rw [hv] at b2
            cases b2
            exact ⟨_, rfl, ⟨v, b1, rfl, o1⟩, trivial⟩
          | x c ks ws => cases hc
        have re1 : RE Z B T g' ((FM.wipe r is).set i .no) σ F0 := re
        have F0i : F0 i = [] := by
          obtain ⟨o, _, h2⟩ := re1.at_ i .no (by rw [List.getElem?_set_self (by rw [wipe_len]; exact hi)])
          exact h2
        have re2 := re1.put (i := i) (o := some v) (fp := f1) (x := y) (g' := g') .refl (fun _ _ _ _ => rfl) (by rw [List.length_set, wipe_len]; exact hi) hy.1 fnd.1 (fun a m => fl a (List.mem_append_left _ m)) (fun j _ a m => ff a (List.mem_append_left _ m) j) (fun j _ a m => re1.nl j a m) re1.la
        rw [List.set_set, set_self hv, ← wipe_set r y nd.1] at re2
        obtain ⟨r1, Fn, h1, h2, h3⟩ := RE.puts (is := is) (os := us) (ws := ws) (fps := f2) (r := r.set i y) re2 nd.2 (fun j hj => by
            have hne : i ≠ j := fun e => nd.1 (e ▸ hj)
            rw [List.getElem?_set_ne hne]
            exact hx j (List.mem_cons_of_mem _ hj)) hw o2 fnd.2.1 (fun a m => fl a (List.mem_append_right _ m)) (fun a m k hk => by
            by_cases hki : k = i
            · subst hki
              rw [Fp.set_same] at hk
              exact fnd.2.2 a hk a m rfl
            · rw [Fp.set_ne hki] at hk
              exact ff a (List.mem_append_right _ m) k hk)
        refine ⟨r1, Fn, ?_, h2, fun k a h => ?_⟩
        · show (putV r i u).bind _ = _
          rw [hp]
          exact h1
        · rcases h3 k a h with h | h
          · by_cases hki : k = i
            · subst hki
              rw [Fp.set_same] at h
              exact .inr (List.mem_append_left _ h)
            · rw [Fp.set_ne hki] at h
              exact .inl h
          · exact .inr (List.mem_append_right _ h)
end

/-! ### arguments of a call -/
section
variable (C : Cz) (g : Sg) (F : Fp) (σ : L2.St)
def AV1 : AV → V → List Addr → Prop
  | .d w, v, fp => fp = [] ∧ RW C.Z g w v
  | .r i, v, fp => fp = [] ∧ σ[i]? = some (some v)
  | .u u, v, fp => OU C.Z g u v fp
def AVs : List AV → List V → List Addr → Prop
  | [], vs, fp => vs = [] ∧ fp = []
  | a :: as, vs, fp => ∃ v r f1 f2, vs = v :: r ∧ AV1 C g σ a v f1 ∧ AVs as r f2 ∧ fp = f1 ++ f2
end
section
variable {C : Cz} {g g1 : Sg} {F F1 : Fp} {σ : L2.St} {ρ : Env}
theorem AV1.al {a : AV} {v : V} {fp : List Addr} (h : AV1 C g σ a v fp) {b : Addr} (m : b ∈ fp) : ∃ o, g.H b = some o := by
  cases a with
  | d w => rw [h.1] at m; cases m
  | r i => rw [h.1] at m; cases m
  | u u => exact let ⟨o, q, _⟩ := OU.mu h m; ⟨o, q⟩
theorem AV1.go (re : RE C.Z C.B C.T g ρ σ F) (t : Go g F g1 F1) {a : AV} {v : V} {fp : List Addr} (x : Tmp g F fp) (h : AV1 C g σ a v fp) : AV1 C g1 σ a v fp ∧ Tmp g1 F1 fp := by
  have tm : Tmp g1 F1 fp := ⟨x.nod, fun b m l => by
    obtain ⟨o, q⟩ := h.al m
    rcases t.n b l with l | l | ⟨i, l⟩
    · exact x.nl b m l
    · rw [q] at l; cases l
    · exact x.nf b m i l, fun b m i hi => by
    obtain ⟨o, q⟩ := h.al m
    rcases t.s i b hi with l | ⟨j, l⟩
    · rw [q] at l; cases l
    · exact x.nf b m j l⟩
  cases a with
  | d w => exact ⟨⟨h.1, h.2.kp (t.kp re)⟩, tm⟩
  | r i => exact ⟨h, tm⟩
  | u u => exact ⟨(OU.go re t x h).1, tm⟩
/-- one argument -/
def SA1 (C : Cz) (e : Expr) (m : Env → Res AV) : Prop := ∃ t : TE, PE C.X e t ∧ ∀ (g : Sg) (r : Env) (σ : L2.St) (F : Fp) (Q : VK), RE C.Z C.B C.T g r σ F →
  POk C g F σ (fun a g' F' => ∀ v fp, AV1 C g' σ a v fp → Tmp g' F' fp → Src g F fp → Q v g'.H) (m r) → t σ g.H Q
def SAA (C : Cz) (es : List Expr) (m : Env → Res (List AV)) : Prop := ∃ t : TA, PA C.X es t ∧ ∀ (g : Sg) (r : Env) (σ : L2.St) (F : Fp) (Q : List V → Hp → Prop), RE C.Z C.B C.T g r σ F →
  POk C g F σ (fun as g' F' => ∀ vs fp, AVs C g' σ as vs fp → Tmp g' F' fp → Src g F fp → Q vs g'.H) (m r) → t σ g.H Q
theorem sa1_d {e : Expr} {m : Env → Res W} (h : SE C e m) : SA1 C e (fun r => (m r).bind fun w r1 => .ok (.d w) r1) := by
  obtain ⟨t, p, i⟩ := h
  exact ⟨t, p, fun g r σ F Q re k => i g r σ F Q re (k.seq fun w r1 g1 F1 t1 re1 k1 v rv => k1.now re1 v [] ⟨rfl, rv⟩ tmp_nil (fun _ m => nomatch m))⟩
theorem sa1_u {e : Expr} {m : Env → Res U} (h : SU C e m) : SA1 C e (fun r => (m r).bind fun w r1 => .ok (.u w) r1) := by
  obtain ⟨t, p, i⟩ := h
  exact ⟨t, p, fun g r σ F Q re k => i g r σ F Q re (k.seq fun w r1 g1 F1 t1 re1 k1 v fp o x s => k1.now re1 v fp o x (s : Src g F fp))⟩
theorem sa1_r {i : Nat} {x : Str} {pos : Pos} (hN : C.X.N[i]? = some x) (hv : Vis C.X.env.scope x) (hd : (x == ("__debug__" : Str)) = false) (hcd : (x == ("__classdict__" : Str)) = false) :
    SA1 C (.Name x pos) (fun r => match lookU r i with | some _ => .ok (.r i) r | none => .bad) := by
  refine ⟨_, pe_var hN hv hd hcd, fun g r σ F Q re k => ?_⟩
  dsimp only at k
  cases hr : lookU r i with
  | none => rw [hr] at k; exact False.elim k
  | some u =>
    rw [hr] at k
    obtain ⟨v, x, _, _, h3, _⟩ := re.look hr
    exact ⟨v, h3, k g F (.refl g F) re v [] ⟨rfl, h3⟩ tmp_nil (fun _ m => nomatch m)⟩
theorem saa_nil {f : IA → Env → Res AV} : SAA C [] (evs f []) := ⟨_, pa_nil, fun g r σ F Q re k => k.now re [] [] ⟨rfl, rfl⟩ tmp_nil (fun _ m => nomatch m)⟩
theorem saa_cons {f : IA → Env → Res AV} {e : Expr} {es : List Expr} {i : IA} {is : List IA} (hn : notStar e = true) (h1 : SA1 C e (f i)) (h2 : SAA C es (evs f is)) : SAA C (e :: es) (evs f (i :: is)) := by
  obtain ⟨ta, pa, ia⟩ := h1
  obtain ⟨tb, pb, ib⟩ := h2
  refine ⟨_, pa_cons pa pb (star_ hn), fun g r σ F Q re k => ?_⟩
  refine ia g r σ F _ re (k.seq fun w r1 g1 F1 t1 re1 k1 v f1 a1 x1 s1 => ?_)
  refine ib g1 r1 σ F1 _ re1 (k1.seq fun ws r2 g2 F2 t2 re2 k2 vs f2 a2 x2 s2 => ?_)
  obtain ⟨a1', x1'⟩ := a1.go re1 t2 x1
  refine k2.now re2 (v :: vs) (f1 ++ f2) ⟨v, vs, f1, f2, rfl, a1', a2, rfl⟩ ⟨?_, ?_, ?_⟩ ?_
  · rw [List.nodup_append]
    refine ⟨x1'.nod, x2.nod, fun b mb c mc e => ?_⟩
    subst e
    obtain ⟨o, q⟩ := a1.al mb
    rcases s2 b mc with h | ⟨j, h⟩
    · rw [q] at h; cases h
    · exact x1.nf b mb j h
  · intro b m
    rcases List.mem_append.mp m with m | m
    · exact x1'.nl b m
    · exact x2.nl b m
  · intro b m
    rcases List.mem_append.mp m with m | m
    · exact x1'.nf b m
    · exact x2.nf b m
  · intro b m
    rcases List.mem_append.mp m with m | m
    · exact s1 b m
    · exact Src.mono t1 s2 b m

/-! ### what the callee gets -/
def lentV : List En → List V → List V
  | .t _ :: es, v :: vs => v :: lentV es vs
  | _ :: es, _ :: vs => lentV es vs
  | _, _ => []
def isT : En → Bool
  | .t _ => true
  | _ => false
/-- the addresses of the arguments, from parameter n on -/
structure CallR' (C : Cz) (g : Sg) (σ : L2.St) (F : Fp) (es : List En) (is : List Nat) (vs : List V) (fp : List Addr) (Fa : Fp) : Prop where
  len : es.length = vs.length
  at_ : ∀ i e, es[i]? = some e → ∃ v, vs[i]? = some v ∧ ((∃ u, e = .m u ∧ OU C.Z g u v (Fa i) ∧ ∀ a ∈ Fa i, a ∈ fp) ∨ ∃ u j, e = .t u ∧ OU C.Z g u v (Fa i) ∧ j ∈ is ∧ Fa i = F j)
  out : ∀ i, es.length ≤ i → Fa i = []
  nod : ∀ i, (Fa i).Nodup
  dis : ∀ i j a, a ∈ Fa i → a ∈ Fa j → i = j
  cov : ∀ i a, a ∈ Fa i → a ∈ fp ∨ ∃ j ∈ is, a ∈ F j
  lv : (is.map fun j => σ[j]?) = (lentV es vs).map fun v => some (some v)
theorem args_r (re : RE C.Z C.B C.T g ρ σ F) : ∀ {as : List AV} {vs : List V} {fp : List Addr} {es : List En} {is : List Nat}, AVs C g σ as vs fp → Tmp g F fp → args ρ as = some (es, is) →
    (∃ Fa, CallR' C g σ F es is vs fp Fa) ∧ is.Nodup ∧ ∀ j ∈ is, ∃ u, lookU ρ j = some u
  | [], vs, fp, es, is, h, x, e => by
    cases e
    obtain ⟨rfl, rfl⟩ := h
    exact ⟨⟨fun _ => [], rfl, fun i e h => by simp at h, fun _ _ => rfl, fun _ => List.nodup_nil, fun _ _ _ h => (nomatch h), fun _ _ h => (nomatch h), rfl⟩, List.nodup_nil, fun _ h => (nomatch h)⟩
  | a :: as, vs, fp, es, is, h, x, e => by
    obtain ⟨v, vr, f1, f2, rfl, h1, h2, rfl⟩ := h
    have xn := List.nodup_append.mp x.nod
    have x2 : Tmp g F f2 := ⟨xn.2.1, fun b m => x.nl b (List.mem_append_right _ m), fun b m => x.nf b (List.mem_append_right _ m)⟩
    have step : ∀ {u : U} {es' : List En} {is' : List Nat}, OU C.Z g u v f1 → args ρ as = some (es', is') → es = .m u :: es' → is = is' → (∃ Fa, CallR' C g σ F es is (v :: vr) (f1 ++ f2) Fa) ∧ is.Nodup ∧ ∀ j ∈ is, ∃ u, lookU ρ j = some u := by
      rintro u es' is' ho e' rfl rfl
      obtain ⟨⟨Fa, q⟩, n1, n2⟩ := args_r re h2 x2 e'
      refine ⟨⟨fun i => match i with | 0 => f1 | i + 1 => Fa i, congrArg Nat.succ q.len, fun i y hy => ?_, fun i hi => ?_, fun i => ?_, fun i j b hi hj => ?_, fun i b hi => ?_, q.lv⟩, n1, n2⟩
      · cases i with
        | zero =>
          simp at hy
          subst hy
          exact ⟨v, rfl, .inl ⟨u, rfl, ho, fun b m => List.mem_append_left _ m⟩⟩
        | succ i =>
          simp at hy
          obtain ⟨v', hv', q'⟩ := q.at_ i y hy
          refine ⟨v', by simpa using hv', ?_⟩
          rcases q' with ⟨u', e1, e2, e3⟩ | q'
          · exact .inl ⟨u', e1, e2, fun b m => List.mem_append_right _ (e3 b m)⟩
          · exact .inr q'
      · cases i with
        | zero => simp at hi
        | succ i => exact q.out i (by simpa using hi)
      · cases i with
        | zero => exact xn.1
        | succ i => exact q.nod i
      · have fresh : ∀ i b, b ∈ f1 → b ∉ Fa i := fun i b m m' => by
          rcases q.cov i b m' with c | ⟨j, _, c⟩
          · exact xn.2.2 b m b c rfl
          · exact x.nf b (List.mem_append_left _ m) j c
        cases i with
        | zero =>
          cases j with
          | zero => rfl
          | succ j => exact absurd hj (fresh j b hi)
        | succ i =>
          cases j with
          | zero => exact absurd hi (fresh i b hj)
          | succ j => rw [q.dis i j b hi hj]
      · cases i with
        | zero => exact .inl (List.mem_append_left _ hi)
        | succ i =>
          rcases q.cov i b hi with c | c
          · exact .inl (List.mem_append_right _ c)
          · exact .inr c
    cases a with
    | d w =>
      obtain ⟨⟨es', is'⟩, e', ee⟩ := Option.map_eq_some_iff.mp e
      cases ee
      exact step (u := .d w) h1 e' rfl rfl
    | u u =>
      obtain ⟨⟨es', is'⟩, e', ee⟩ := Option.map_eq_some_iff.mp e
      cases ee
      exact step (u := u) h1 e' rfl rfl
    | r j =>
      obtain ⟨rfl, hσ⟩ := h1
      obtain ⟨u, hu, e⟩ := Option.bind_eq_some_iff.mp (show ((lookU ρ j).bind fun u => (args ρ as).bind fun q => if q.2.any (Nat.beq j) then none else some (.t u :: q.1, j :: q.2)) = some (es, is) from e)
      obtain ⟨⟨es', is'⟩, e', ee⟩ := Option.bind_eq_some_iff.mp e
      dsimp only at ee
      split at ee
      · cases ee
      · rename_i hnj
        cases ee
        have hnj : j ∉ is' := fun hm => hnj (List.any_eq_true.mpr ⟨j, hm, Nat.beq_refl j⟩)
        obtain ⟨⟨Fa, q⟩, n1, n2⟩ := args_r re h2 x2 e'
        obtain ⟨v', y, hy, hcy, hσ', ou⟩ := re.look hu
        rw [hσ] at hσ'
        cases hσ'
        refine ⟨⟨fun i => match i with | 0 => F j | i + 1 => Fa i, congrArg Nat.succ q.len, fun i y hy => ?_, fun i hi => ?_, fun i => ?_, fun i k b hi hj => ?_, fun i b hi => ?_, ?_⟩, List.nodup_cons.mpr ⟨hnj, n1⟩, fun k hk => ?_⟩
        · cases i with
          | zero =>
            simp at hy
            subst hy
            exact ⟨v, rfl, .inr ⟨u, j, rfl, ou, List.mem_cons_self, rfl⟩⟩
          | succ i =>
            simp at hy
            obtain ⟨v', hv', q'⟩ := q.at_ i y hy
            refine ⟨v', by simpa using hv', ?_⟩
            rcases q' with ⟨u', e1, e2, e3⟩ | ⟨u', j', e1, e2, e3, e4⟩
            · exact .inl ⟨u', e1, e2, fun b m => List.mem_append_right _ (e3 b m)⟩
            · exact .inr ⟨u', j', e1, e2, List.mem_cons_of_mem _ e3, e4⟩
        · cases i with
          | zero => simp at hi
          | succ i => exact q.out i (by simpa using hi)
        · cases i with
          | zero => exact re.nod j
          | succ i => exact q.nod i
        · have fresh : ∀ i b, b ∈ F j → b ∉ Fa i := fun i b m m' => by
            rcases q.cov i b m' with c | ⟨k, hk, c⟩
            · exact x2.nf b c j m
            · exact hnj (re.dis j k b m c ▸ hk)
          cases i with
          | zero =>
            cases k with
            | zero => rfl
            | succ k => exact absurd hj (fresh k b hi)
          | succ i =>
            cases k with
            | zero => exact absurd hi (fresh i b hj)
            | succ k => rw [q.dis i k b hi hj]
        · cases i with
          | zero => exact .inr ⟨j, List.mem_cons_self, hi⟩
          | succ i =>
            rcases q.cov i b hi with c | ⟨k, hk, c⟩
            · exact .inl (List.mem_append_right _ c)
            · exact .inr ⟨k, List.mem_cons_of_mem _ hk, c⟩
        · show σ[j]? :: _ = some (some v) :: _
          rw [hσ, q.lv]
        · rcases List.mem_cons.mp hk with rfl | hk
          · exact ⟨u, hu⟩
          · exact n2 k hk
end
end FM


set_option Elab.async false
set_option linter.all false
set_option maxRecDepth 100000
set_option maxHeartbeats 2000000
namespace FM
open PySem L2

/-- what is lent, each at the addresses of its name, from parameter n on -/
def LOU (Z : Kx) (g : Sg) (F : Fp) : Nat → List En → List U → List V → Prop
  | n, .t _ :: es, os, v :: vs => ∃ u r, os = u :: r ∧ OU Z g u v (F n) ∧ LOU Z g F (n + 1) es r vs
  | n, _ :: es, os, _ :: vs => LOU Z g F (n + 1) es os vs
  | _, _, os, _ => os = []
/-- what is wanted behind a call: its value, what was lent -/
def COk (Z : Kx) (g : Sg) (Fa : Fp) (vs : List V) (es : List En) (Q : VK) (E : XK) : CRes → Prop
  | .ok u os => ∀ g' F' v fp fps, Go g Fa g' F' → (∀ a, g'.L a → ∃ o, g'.H a = some o) → OUs Z g' os (lentV es vs) fps → fps.Nodup → (∀ a ∈ fps, ¬ g'.L a ∧ ∃ i, a ∈ F' i) → (∀ i j a, a ∈ F' i → a ∈ F' j → i = j) → (∀ i, (F' i).Nodup) ∧ (∀ i a, a ∈ F' i → ¬ g'.L a) ∧ LOU Z g' F' 0 es os vs → OU Z g' u v fp → Tmp g' F' fp → Src g Fa fp → Q v g'.H
  | .ex x os => ∀ g' F' d xs fps, Go g Fa g' F' → (∀ a, g'.L a → ∃ o, g'.H a = some o) → OUs Z g' os (lentV es vs) fps → fps.Nodup → (∀ a ∈ fps, ¬ g'.L a ∧ ∃ i, a ∈ F' i) → (∀ i j a, a ∈ F' i → a ∈ F' j → i = j) → (∀ i, (F' i).Nodup) ∧ (∀ i a, a ∈ F' i → ¬ g'.L a) ∧ LOU Z g' F' 0 es os vs → XD g' x.ks xs d → g'.L d → RWs Z g' x.ws xs → E (.ref (Z.ca x.c)) (some d) g'.H
  | .bad => False
/-- what the def f promises by the evaluator's call c -/
def spOf (Z : Kx) (c : CF) (f n : Nat) : Sp := fun vs H Q E => ∃ (g : Sg) (es : List En) (Fa : Fp) (B : Nat → Option V), g.H = H ∧ es.length = n ∧ RE Z B none g es (vs.map some) Fa ∧ (∀ i u, es[i]? = some (.t u) → B i = vs[i]?) ∧ COk Z g Fa vs es Q E (c f es)
theorem sp_len {Z : Kx} {c : CF} {f n : Nat} {vs : List V} {H : Hp} {Q : VK} {E : XK} (h : spOf Z c f n vs H Q E) : vs.length = n := by
  obtain ⟨g, es, Fa, B, _, l, re, _⟩ := h
  have := re.len
  rw [List.length_map] at this
  rw [← this, l]
theorem POk.seq0 {C : Cz} {g : Sg} {F : Fp} {σ : L2.St} {α β : Type} {Q : β → Sg → Fp → Prop} {P : α → Sg → Fp → Prop} {f : α → Env → Res β} : ∀ {x : Res α}, POk C g F σ Q (x.bind f) →
    (∀ a r1 g1 F1, Go g F g1 F1 → RE C.Z C.B C.T g1 r1 σ F1 → POk C g F σ Q (f a r1) → P a g1 F1) → POk C g F σ P x
  | .ok a r, h, hk => fun g' F' t' e => hk a r g' F' t' e h
  | .ex x r, h, _ => h
  | .bad, h, _ => h
section
variable {C : Cz} {g g1 : Sg} {F F1 : Fp} {σ : L2.St} {ρ : Env}
/-- the callee's start -/
theorem CallR'.re {es : List En} {is : List Nat} {vs : List V} {fp : List Addr} {Fa : Fp} (re : RE C.Z C.B C.T g ρ σ F) (x : Tmp g F fp) (q : CallR' C g σ F es is vs fp Fa) :
    RE C.Z (fun i => match es[i]? with | some (.t _) => vs[i]? | _ => none) none g es (vs.map some) Fa := by
  refine ⟨by rw [List.length_map]; exact q.len, fun i e h => ?_, q.out, q.nod, q.dis, fun i a m l => ?_, re.la⟩
  · obtain ⟨v, hv, q'⟩ := q.at_ i e h
    refine ⟨some v, by rw [List.getElem?_map, hv]; rfl, ?_⟩
    rcases q' with ⟨u, rfl, o, _⟩ | ⟨u, j, rfl, o, _⟩
    · exact ⟨v, rfl, o⟩
    · refine ⟨v, ?_, rfl, o⟩
      simp only [h]
      exact hv
  · rcases q.cov i a m with c | ⟨j, _, c⟩
    · exact x.nl a c l
    · exact re.nl j a c l
/-- behind the call -/
theorem back_re {es : List En} {is : List Nat} {vs : List V} {fp : List Addr} {Fa F' : Fp} {g' : Sg} {os : List U} {fps : List Addr} (t1 : Go g F g1 F1) (re : RE C.Z C.B C.T g1 ρ σ F1) (x : Tmp g1 F1 fp) (s : Src g F fp) (q : CallR' C g1 σ F1 es is vs fp Fa) (hnd : is.Nodup) (hlk : ∀ j ∈ is, ∃ u, lookU ρ j = some u)
    (t : Go g1 Fa g' F') (la : ∀ a, g'.L a → ∃ o, g'.H a = some o) (ou : OUs C.Z g' os (lentV es vs) fps) (nd : fps.Nodup) (hf : ∀ a ∈ fps, ¬ g'.L a ∧ ∃ i, a ∈ F' i) :
    ∃ r2 Fn, puts ρ is os = some r2 ∧ RE C.Z C.B C.T g' r2 σ Fn ∧ Go g F g' Fn ∧ ∀ f2, Src g1 Fa f2 → Tmp g' F' f2 → Tmp g' Fn f2 ∧ Src g F f2 := by
  have cre := q.re re x
  have kp : Kp C.Z g1 g' := t.kp cre
  have al1 : ∀ {j a}, a ∈ F1 j → g1.H a ≠ none := fun {j a} m e => by
    obtain ⟨o, h, _⟩ := re.mu m
    rw [h] at e; cases e
  have ncov : ∀ {j a}, a ∈ F1.wipe is j → ∀ i, a ∉ Fa i := fun {j a} m i m' => by
    obtain ⟨m1, m2⟩ := Fp.wipe_mem m
    rcases q.cov i a m' with c | ⟨k, hk, c⟩
    · exact x.nf a c j m1
    · exact m2 (re.dis j k a m1 c ▸ hk)
  have rew : RE C.Z C.B C.T g1 (wipe ρ is) σ (F1.wipe is) := re.wipe fun v hv => by
    obtain ⟨u, hu⟩ := hlk v hv
    obtain ⟨_, y, hy, _⟩ := re.look hu
    exact lt_of_get hy
  have re0 : RE C.Z C.B C.T g' (wipe ρ is) σ (F1.wipe is) := rew.keep kp (fun j a m => by
      obtain ⟨o, h, _⟩ := rew.mu m
      rw [h]
      exact t.k a o h (ncov m)) (fun j a m l => by
      rcases t.n a l with l | l | ⟨i, l⟩
      · exact rew.nl j a m l
      · exact al1 (Fp.wipe_mem m).1 l
      · exact ncov m i l) la
  obtain ⟨r2, Fn, h1, h2, h3⟩ := re0.puts hnd (fun j hj => by
      obtain ⟨u, hu⟩ := hlk j hj
      obtain ⟨v, y, hy, hc, hσ, _⟩ := re.look hu
      refine ⟨y, u, hy, hc, fun w e => ?_⟩
      subst e
      obtain ⟨o, p1, v', p2, p3, _⟩ := re.at_ j _ hy
      subst p3
      exact ⟨v', p2, p1⟩) q.lv ou nd (fun a m => (hf a m).1) (fun a m k hk => by
      obtain ⟨_, i, hi⟩ := hf a m
      rcases t.s i a hi with e | ⟨j, hj⟩
      · exact al1 (Fp.wipe_mem hk).1 e
      · exact ncov hk j hj)
  have srcA : ∀ {i a}, a ∈ Fa i → g.H a = none ∨ ∃ j, a ∈ F j := fun {i a} m => by
    rcases q.cov i a m with c | ⟨k, _, c⟩
    · exact s a c
    · exact t1.s k a c
  refine ⟨r2, Fn, h1, h2, ⟨fun a l => t.l a (t1.l a l), fun b o e n => t.k b o (t1.k b o e n) fun i m => ?_, fun b e => t1.a b (t.a b e), fun b l => ?_, fun k b m => ?_⟩, fun f2 s2 x2 => ⟨⟨x2.nod, x2.nl, fun a m k hk => ?_⟩, fun a m => ?_⟩⟩
  · rcases srcA m with c | ⟨j, c⟩
    · rw [e] at c; cases c
    · exact n j c
  · rcases t.n b l with l | l | ⟨i, l⟩
    · exact t1.n b l
    · exact .inr (.inl (t1.a b l))
    · rcases srcA l with c | c
      · exact .inr (.inl c)
      · exact .inr (.inr c)
  · rcases h3 k b m with m | m
    · exact t1.s k b (Fp.wipe_mem m).1
    · obtain ⟨_, i, hi⟩ := hf b m
      rcases t.s i b hi with e | ⟨j, hj⟩
      · exact .inl (t1.a b e)
      · exact srcA hj
  · rcases h3 k a hk with c | c
    · rcases s2 a m with e | ⟨j, e⟩
      · exact al1 (Fp.wipe_mem c).1 e
      · exact ncov c j e
    · obtain ⟨_, i, hi⟩ := hf a c
      exact x2.nf a m i hi
  · rcases s2 a m with e | ⟨j, e⟩
    · exact .inl (t1.a a e)
    · exact srcA e
/-- the call itself, its arguments evaluated -/
theorem run_call {c : CF} {f n : Nat} {as : List AV} {vs : List V} {fp : List Addr} {Q : VK} (t1 : Go g F g1 F1) (re : RE C.Z C.B C.T g1 ρ σ F1) (x : Tmp g1 F1 fp) (s : Src g F fp) (h : AVs C g1 σ as vs fp) (hn : as.length = n)
    (k : POk C g F σ (fun u g' F' => ∀ v fp, OU C.Z g' u v fp → Tmp g' F' fp → Src g F fp → Q v g'.H) (runC c f as ρ)) : spOf C.Z c f n vs g1.H Q (WE C.W σ) := by
  unfold runC at k
  cases ea : args ρ as with
  | none => rw [ea] at k; exact False.elim k
  | some q =>
    obtain ⟨es, is⟩ := q
    rw [ea] at k
    obtain ⟨⟨Fa, q⟩, hnd, hlk⟩ := args_r re h x ea
    have hl : ∀ {as : List AV} {es : List En} {is : List Nat}, args ρ as = some (es, is) → es.length = as.length := by
      intro as
      induction as with
      | nil => intro es is e; cases e; rfl
      | cons a as ih =>
        intro es is e
        cases a with
        | d w => obtain ⟨⟨es', is'⟩, e', ee⟩ := Option.map_eq_some_iff.mp e; cases ee; exact congrArg Nat.succ (ih e')
        | u w => obtain ⟨⟨es', is'⟩, e', ee⟩ := Option.map_eq_some_iff.mp e; cases ee; exact congrArg Nat.succ (ih e')
        | r j =>
          obtain ⟨u, hu, e⟩ := Option.bind_eq_some_iff.mp (show ((lookU ρ j).bind fun u => (args ρ as).bind fun q => if q.2.any (Nat.beq j) then none else some (.t u :: q.1, j :: q.2)) = some (es, is) from e)
          obtain ⟨⟨es', is'⟩, e', ee⟩ := Option.bind_eq_some_iff.mp e
          dsimp only at ee
          split at ee
          · cases ee
          · cases ee; exact congrArg Nat.succ (ih e')
    refine ⟨g1, es, Fa, _, rfl, (hl ea).trans hn, q.re re x, fun i u hi => by simp only [hi], ?_⟩
    cases ec : c f es with
    | bad => simp only [ec] at k; exact False.elim k
    | ok u os =>
      simp only [ec] at k
      intro g' F' v f2 fps t la ou nd hf _ _ o2 x2 s2
      obtain ⟨r2, Fn, hp, re2, t2, hx⟩ := back_re t1 re x s q hnd hlk t la ou nd hf
      rw [hp] at k
      obtain ⟨x3, s3⟩ := hx f2 s2 x2
      exact k g' Fn t2 re2 v f2 o2 x3 s3
    | ex y os =>
      simp only [ec] at k
      intro g' F' d xs fps t la ou nd hf _ _ xd ld rw
      obtain ⟨r2, Fn, hp, re2, t2, hx⟩ := back_re t1 re x s q hnd hlk t la ou nd hf
      rw [hp] at k
      exact k g' Fn d xs t2 re2 xd ld rw
end
section
variable {C : Cz} {e : Expr} {es : List Expr} {pos : Pos}
theorem su_call {c : CF} {f k : Nat} {x : Str} {p : Pos} {fa : Addr} {fd : FuncData} {ps : List Str} {h : IA → Env → Res AV} {is : List IA} (F : FnOk C.X.prog C.X.w C.X.K C.X.mg C.X.base (L2.CX C.X.prog C.X.w) k fa fd ps (spOf C.Z c f ps.length)) (tk : Takes C.X C.W) (hr : Room k C.X.A) (hg : Gl C.X x) (hm : C.X.mg x = some (.ref fa)) (hk : PySem.W.keepIn C.X.K (.ref fa) = true) (hb : Binds C.X.K fd ps [])
    (hdb : (x == ("__debug__" : Str)) = false) (hst : (e :: es).all notStar = true) (hlen : is.length = ps.length) (ha : SAA C (e :: es) (evs h is)) : SU C (.Call (.Name x p) (e :: es) [] pos) (fun r => (evs h is r).bind fun vs r1 => runC c f vs r1) := by
  obtain ⟨t, pa, i⟩ := ha
  rw [List.all_cons, Bool.and_eq_true] at hst
  refine ⟨_, pe_callS (E := WE C.W) F hr hg hm hk hb (fun σ => passAt tk σ) pa hdb (star_ hst.1) (star_any hst.2), fun g ρ σ Fp Q re k => ?_⟩
  refine i g ρ σ Fp _ re ((POk.fact (P := fun as => as.length = is.length) (fun as r e => evs_len e) (k.seq0 (P := fun as g1 F1 => ∃ r1, Go g Fp g1 F1 ∧ RE C.Z C.B C.T g1 r1 σ F1 ∧ POk C g Fp σ (fun u g' F' => ∀ v fp, OU C.Z g' u v fp → Tmp g' F' fp → Src g Fp fp → Q v g'.H) (runC c f as r1)) fun as r1 g1 F1 t1 re1 k1 => ⟨r1, t1, re1, k1⟩)).imp fun as g1 F1 t1 q vs fp av x s => ?_)
  obtain ⟨hl, r1, t1', re1, k1⟩ := q
  exact run_call t1' re1 x s av (hl.trans hlen) k1
theorem su_call0 {c : CF} {f k : Nat} {x : Str} {p : Pos} {fa : Addr} {fd : FuncData} {ps : List Str} {h : IA → Env → Res AV} (F : FnOk C.X.prog C.X.w C.X.K C.X.mg C.X.base (L2.CX C.X.prog C.X.w) k fa fd ps (spOf C.Z c f ps.length)) (tk : Takes C.X C.W) (hr : Room k C.X.A) (hg : Gl C.X x) (hm : C.X.mg x = some (.ref fa)) (hk : PySem.W.keepIn C.X.K (.ref fa) = true) (hb : Binds C.X.K fd ps [])
    (hdb : (x == ("__debug__" : Str)) = false) (hlen : 0 = ps.length) : SU C (.Call (.Name x p) [] [] pos) (fun r => (evs h [] r).bind fun vs r1 => runC c f vs r1) := by
  have P : PE C.X (.Call (.Name x p) [] [] pos) (fun σ H Q => spOf C.Z c f ps.length [] H Q (WE C.W σ)) := by
    refine ⟨fun pins s σ H Q I h => ?_⟩
    refine wpAny_Call_Name_kw (ld_glob I hg hm ?_ hdb)
    exact PySem.W.callWith_K0 I.kIn hk (run_fnS (us := []) (E := WE C.W) F hr hb (passAt tk σ) I .nil h)
  refine ⟨_, P, fun g ρ σ Fp Q re k => ?_⟩
  exact run_call (as := []) (fp := []) (.refl g Fp) re tmp_nil (fun _ m => nomatch m) ⟨rfl, rfl⟩ hlen k
end
end FM


set_option Elab.async false
set_option linter.all false
set_option maxRecDepth 100000
set_option maxHeartbeats 2000000
/-! enumerate over a tuple. -/
namespace FM
open PySem L2 PySem.Spec PyProof.Rows
/-- one argument, its iterator told by Begins -/
theorem new_enm1 {v : Value} {o : Obj} {H : Heap → Prop} (B : Begins v o H) :
    Meets (Builtin.«enumerate.__new__» ⟨[.type "enumerate", v], []⟩) (fun _ R s => H s.heap ∧ R (.ok (.ret (.ref (s.heap.push o).objs.size)))
      { s with heap := (s.heap.push o).push { cls := .type "enumerate", data := .fields #[.none, .bool false, .ref s.heap.objs.size, rawInt 0, .none, .none] } }) := by
  refine .of_wp fun prog w A R s hyp => ?_
  obtain ⟨hp, gn, dr, tk, os⟩ := s
  obtain ⟨hH, fin⟩ := hyp
  have sub0 := sub_enumerate
  have itr : ∀ {A' : Around} {E' : Value → Shared → Prop} {Q' : Value → Shared → Prop}, Q' (.ref hp.objs.size) ⟨hp.push o, gn, dr, tk, os⟩ → wpAny (model prog w) A' (pyIter v) Q' E' ⟨hp, gn, dr, tk, os⟩ := fun z => B.iter prog w _ _ ⟨hp, gn, dr, tk, os⟩ _ hH z
  wp_walk using itr
  refine wpAny_stack_any fun stk => (wpAny_pure ?_)
  split
  · rename_i cc _ _ _ _ _
    cases (cc == Value.type "enumerate") <;> (wp_walk using itr; exact ⟨_, rfl, fin⟩)
  · wp_walk using itr
    exact ⟨_, rfl, fin⟩
section
variable {prog : Program} {w : World} {A : Around} {E : Value → Shared → Prop} {s : Shared}
theorem call_enm1 {v : Value} {o : Obj} {H : Heap → Prop} {Q : Value → Shared → Prop} (B : Begins v o H) (hH : H s.heap)
    (fin : ∀ h', IsEnum h' (s.heap.objs.size + 1) s.heap.objs.size 0 .none → h'.get? s.heap.objs.size = some o → (∀ b o, s.heap.get? b = some o → h'.get? b = some o) → Q (.ref (s.heap.objs.size + 1)) { s with heap := h' }) :
    wpAny (model prog w) A (call (.type "enumerate") [v]) Q E s := by
  refine callType_new F.called_enumerate (by decide) (F.typeCall_enumerate_1 _) (F.newCall_enumerate_1 _) (fun ob => F.args_object_init_2 ob _) F.entry_enumerate_new (new_enm1 B) ⟨hH, ?_⟩
  have sz : (s.heap.push o).objs.size = s.heap.objs.size + 1 := Heap.size_push ..
  have he := Heap.get?_push_size (s.heap.push o) (o := { cls := .type "enumerate", data := .fields #[.none, .bool false, .ref s.heap.objs.size, rawInt 0, .none, .none] }) rfl
  show _ ∧ _
  rw [sz] at he ⊢
  exact ⟨⟨_, he, rfl⟩, fin _ he (Heap.get?_push_of_some _ (Heap.get?_push_size _ B.free)) fun b ob z => Heap.get?_push_of_some _ (Heap.get?_push_of_some _ z)⟩
end
/-- the tuple at a, each item in a new pair -/
def Iet (K : PySem.W.Frag) (a : Addr) : It :=
  ⟨fun i H => ∃ (xs : List V) (x : V), SqT K H a xs ∧ xs[i]? = some x, fun i H v H' => ∃ x, NewP H v H' (.int (i : Nat)) x ∧ ∀ xs, SqT K H a xs → xs[i]? = some x, fun i H => ∃ xs : List V, SqT K H a xs ∧ xs.length ≤ i⟩
theorem turn_enmT {P : Program} {w : World} {K : PySem.W.Frag} {elts : List Expr} {kk : Nat} {tpos : Pos} (a e it : Addr) (nea : e ≠ a) (nia : it ≠ a) (nei : e ≠ it) :
    Turn P w K (.Tuple elts kk tpos) (Iet K a) [e, it] e (fun i h => (∃ old, IsEnum h e it ((i : Nat) : Int) old) ∧ h.IsTupleIter it a i) where
  mem := List.mem_cons_self
  obj := fun i h st b hb => by
    obtain ⟨⟨old, he⟩, o, ho, hc, hd⟩ := st
    rcases List.mem_cons.mp hb with z | z
    · subst z; exact ⟨_, he, fun v q => nomatch q⟩
    · rw [List.mem_singleton.mp z]; exact ⟨o, ho, fun v q => by rw [hd] at q; cases q⟩
  keep := fun i h h' st k => by
    obtain ⟨⟨old, he⟩, hi⟩ := st
    exact ⟨⟨old, k e List.mem_cons_self _ he⟩, hi.at fun o q => k it (List.mem_cons_of_mem _ List.mem_cons_self) o q⟩
  item := by
    intro X hP hw hK hc i pins s σ H E I hf st hg
    subst hP hw hK
    obtain ⟨⟨old, he⟩, hit⟩ := st
    obtain ⟨xs, x, hq, hx⟩ := hg
    obtain ⟨its, rv, tp, hz⟩ := I.tuple hq
    obtain ⟨u, hu, ru⟩ := rv.get hx
    have tp' : s.heap.IsTuple a its.toArray := tp
    have el : e < s.heap.objs.size := Heap.lt_size he
    have il : it < s.heap.objs.size := by obtain ⟨_, q, _⟩ := hit; exact Heap.lt_size q
    have D := Draws.tuple (prog := X.prog) (w := X.w) (A := X.A.in1) (I.ok.hd hc) it a (Ne.symm nia) its.toArray
    have hlt : i < its.toArray.size := by
      have := (List.getElem?_eq_some_iff.mp hu).1
      simpa using this
    have hef : e ∉ [it, a] := fun z => by
      rcases List.mem_cons.mp z with z | z
      · exact nei z
      · exact nea (List.mem_singleton.mp z)
    refine wpAny_pyNext_enum_itemD D he ⟨hit, tp'⟩ hlt nei hef fun x1 h' tk hx1 ho ht hT hsz hk => ?_
    have ex : x1 = u := by
      have q : its.toArray[i]? = some u := by simpa using hu
      exact Option.some.inj (hx1.symm.trans q)
    subst ex
    refine ⟨_, rfl, wpAny_letOwnedTupleGo_enum (s := { s with heap := h', toks := tk + 1 }) ho fun h2 he2 sb => ?_⟩
    have hT2 := (sb.2 _ (Nat.ne_of_gt el)).trans hT
    have I1 := turnedT (tk := tk + 1) (h' := h2) (xs := [.int (i : Nat), x]) (us := [.int i tk, x1]) I (ch := [e, it]) (fun b ob hb q => by
      have nb : b ≠ e ∧ b ≠ it := ⟨fun z => hb (by rw [z]; exact List.mem_cons_self), fun z => hb (by rw [z]; exact List.mem_cons_of_mem _ List.mem_cons_self)⟩
      exact (sb.2 b nb.1).trans (hk b ob nb.1 nb.2 q)) hf (Nat.le_refl _) hT2 rfl ⟨_, rfl⟩ (.cons ⟨_, rfl⟩ (.cons ru .nil)) two_len
    refine ⟨.ref s.heap.objs.size, _, I1, rfl, ⟨x, ⟨_, _, rfl, I.hok.fresh (Nat.le_refl _), rfl, rfl⟩, fun ys hy => by rw [I.tuple_inj hy hq]; exact hx⟩, ⟨⟨x1, ?_⟩, ht.1.at fun o q => (sb.2 it (Ne.symm nei)).trans q⟩, fun b hb => ?_⟩
    · have e1 : ((i + 1 : Nat) : Int) = (i : Int) + 1 := Int.natCast_succ i
      rw [e1]; exact he2
    · have bl : b < s.heap.objs.size := by
        rcases List.mem_cons.mp hb with z | z
        · rw [z]; exact el
        · rw [List.mem_singleton.mp z]; exact il
      rw [upd_ne (Nat.ne_of_lt bl)]
      exact (hf b hb).1
  done := by
    intro X hP hw hK hc i pins s σ H E I hf st hg
    subst hP hw hK
    obtain ⟨⟨old, he⟩, hit⟩ := st
    obtain ⟨xs, hq, hx⟩ := hg
    obtain ⟨its, rv, tp, hz⟩ := I.tuple hq
    have tp' : s.heap.IsTuple a its.toArray := tp
    obtain ⟨f0, f1, f2, f3, f4, f5⟩ := hf it (List.mem_cons_of_mem _ List.mem_cons_self)
    have hl := rv.length
    have hT : s.TypeIs (.ref e) "enumerate" := ⟨_, he, rfl⟩
    unfold pyNext
    refine wpAny_bind (wpAny_attempt (wpAny_callSpecial?_slot (name := Str.ofString "__next__") hT F.slot_enumerate_next (wpAny_call_entry F.slot_enumerate_next hT F.entry_enumerate_next ?_ (F.args_enumerate_next_1 _))))
    show wpAny _ _ (field (.ref e) 2 >>= _) _ _ _
    refine wpAny_bind (wpAny_field he rfl (x := .ref it) rfl (wpAny_bind ?_))
    refine wpAny_nextOf_tuple_end (I.ok.hd hc) hit tp' (by simp; omega) fun h' x eb hx' => ?_
    obtain ⟨o, ho, hcl⟩ := hx'
    refine wpAny_bind (wpAny_isInstance (T := "StopIteration") (b := true) ⟨o, ho, hcl⟩ isSubtype_stop (wpAny_pure ?_))
    exact ⟨rfl, I.turned (t' := s.toks) (fun b o hb q => eb b o hb q) f0 f1 f3 f4 f5⟩
  self := fun A i s Q E st h => by
    obtain ⟨⟨_, he⟩, _⟩ := st
    exact wpAny_pyIter_enum he h
def iEnmT (K : PySem.W.Frag) (ta : TA) : TI := fun σ H R => ta σ H fun vs H1 => ∃ a xs, vs = [.ref a] ∧ SqT K H1 a xs ∧ R (Iet K a) H1
theorem pi_enmT {X : Cx} {e : Expr} {ta : TA} {p pos tpos : Pos} {elts : List Expr} {kk : Nat} (hg : Gl X "enumerate") (hm : X.mg "enumerate" = none) (ha : PA X [e] ta) (hs : starEach [e] X.env = [(false, eval e X.env)]) :
    PI X (.Tuple elts kk tpos) (.Call (.Name "enumerate" p) [e] [] pos) (iEnmT X.K ta) := by
  refine ⟨fun pins s σ H R I h => Call_ (ld_blt I hg hm boot_enumerate (PyProof.Rows.callWith_type1 (thn (ha.run pos pins s σ H _ I h) fun us s1 ⟨vs, H1, I1, r1, q1⟩ => ?_) hs rfl))⟩
  obtain ⟨a, xs, rfl, hq, q⟩ := q1
  cases r1 with
  | cons r rr =>
    cases rr
    cases r
    obtain ⟨its, rv, tp, hz⟩ := I1.tuple hq
    have tp' : s1.heap.IsTuple a its.toArray := tp
    have al : a < s1.heap.objs.size := by obtain ⟨o, ho, _⟩ := tp'; exact Heap.lt_size ho
    refine call_enm1 (begins_tuple a its.toArray) tp' fun h' he hit hk => wpAny_pyIter_enum he ?_
    have I2 : Inv X pins σ H1 { s1 with heap := h' } := I1.kept (t' := s1.toks) hk
    refine ⟨s1.heap.objs.size + 1, [s1.heap.objs.size + 1, s1.heap.objs.size], _, _, H1, rfl, I2, turn_enmT a (s1.heap.objs.size + 1) s1.heap.objs.size (Nat.ne_of_gt (Nat.lt_succ_of_lt al)) (Nat.ne_of_gt al) (Nat.succ_ne_self _), ⟨⟨.none, he⟩, ⟨_, hit, rfl, rfl⟩⟩, fun b hb => ?_, q⟩
    have hle : s1.heap.objs.size ≤ b := by
      rcases List.mem_cons.mp hb with z | z
      · rw [z]; exact Nat.le_succ _
      · rw [List.mem_singleton.mp z]; exact Nat.le_refl _
    exact I1.fpOk hle (I1.hok.fresh hle)
end FM


set_option Elab.async false
set_option linter.all false
set_option maxRecDepth 100000
set_option maxHeartbeats 2000000
namespace FM
open PySem L2

section
variable {C : Cz} {a b d e : Expr} {es : List Expr} {pos : Pos} {ma mb md : Env → Res W} {va vb vd : Env → Res Arg} {mt mu : Env → Res Bool}
/-! ### what is walked -/
def Same (ks : List (Nat × W)) (σ σ' : L2.St) : Prop := ∀ q ∈ ks, σ'[q.1]? = σ[q.1]?
def WalkR (C : Cz) (g1 : Sg) (F1 : Fp) (σ : L2.St) (k : Wk) (J : It) : Prop := ∀ (g : Sg) (F : Fp) (r : Env) (σ' : L2.St) (i : Nat), Go g1 F1 g F → RE C.Z C.B C.T g r σ' F → Same k.ks σ σ' → k.still r = true →
  (∀ w, k.ws[i]? = some w → J.go i g.H ∧ ∀ x H', J.yld i g.H x H' → ∃ g', Go g F g' F ∧ RE C.Z C.B C.T g' r σ' F ∧ g'.H = H' ∧ RW C.Z g' w x) ∧ (i = k.ws.length → J.stop i g.H)
/-- an iterable under a target -/
def SI (C : Cz) (tg e : Expr) (m : Env → Res Wk) : Prop := ∃ t : TI, PI C.X tg e t ∧ ∀ (g : Sg) (r : Env) (σ : L2.St) (F : Fp) (R : It → Hp → Prop), RE C.Z C.B C.T g r σ F →
  POk C g F σ (fun k g' F' => ∀ J, WalkR C g' F' σ k J → R J g'.H) (m r) → t σ g.H R
/-- what an operand reads, later on -/
theorem arg_later {g1 g : Sg} {F1 F : Fp} {r1 r : Env} {σ σ' : L2.St} {a : Arg} {v : V} {w : W} (re1 : RE C.Z C.B C.T g1 r1 σ F1) (h : ArgR C g1 F1 σ a v) (q : vw r1 a = some w) (t : Go g1 F1 g F) (re : RE C.Z C.B C.T g r σ' F) (hσ : Same (keep a w) σ σ') (hst : ((keep a w).all fun q => stillI q.2 r q.1) = true) :
    BR C.Z g w v := by
  cases a with
  | w x => cases q; exact (RW.kp (t.kp re1) h).br
  | fr u =>
    obtain ⟨fp, h1, h2⟩ := h
    obtain ⟨h3, _⟩ := h1.go re1 t h2
    exact h3.br q
  | sl i =>
    have e1 : σ'[i]? = σ[i]? := hσ (i, w) List.mem_cons_self
    have hv : σ'[i]? = some (some v) := by rw [e1]; exact h
    simp only [keep, List.all_cons, List.all_nil, Bool.and_true, stillI] at hst
    cases e : vw r (.sl i) with
    | none => rw [e] at hst; cases hst
    | some w' =>
      rw [e] at hst
      rw [← beqW_iff hst]
      exact ArgR.vw (a := .sl i) re hv e
theorem PI.or {X : Cx} {tg : Expr} {t u : TI} (a : PI X tg e t) (b : PI X tg e u) : PI X tg e (fun σ H R => t σ H R ∨ u σ H R) := ⟨fun pins s σ H R I h => by
  rcases h with h | h
  · exact a.run pins s σ H R I h
  · exact b.run pins s σ H R I h⟩
theorem walk_list {g1 : Sg} {F1 : Fp} {r1 : Env} {σ : L2.St} {x : Arg} {p : Addr} {w : W} {ws : List W} (re1 : RE C.Z C.B C.T g1 r1 σ F1) (h : ArgR C g1 F1 σ x (.ref p)) (q : vw r1 x = some w) (hs : seqW w = some ws) (hl : ∀ us, w ≠ .tup us) : WalkR C g1 F1 σ ⟨ws, keep x w⟩ (Itl C.X.K p) := by
  intro g F r σ' i t re hσ hst
  have br := arg_later re1 h q t re hσ hst
  obtain ⟨xs, hq, rw⟩ : ∃ xs, SqL C.X.K g.H p xs ∧ RWs C.Z g ws xs := by
    cases w with
    | lis us => cases hs; obtain ⟨a, xs, e, h1, h2⟩ := br; cases e; exact ⟨xs, sqL_of h1, h2⟩
    | scr us =>
      cases hs
      obtain ⟨a, xs, e, h1, h2⟩ := br
      cases e
      refine ⟨xs, ?_, h2⟩
      rcases h1 with ⟨o, h1⟩ | h1
      · exact .inl (.inr ⟨o, h1⟩)
      · exact .inr h1
    | tup us => exact absurd rfl (hl us)
    | _ => cases hs
  refine ⟨fun w hw => ?_, fun hi => ?_⟩
  · obtain ⟨x, hx, rx⟩ := rw.get hw
    refine ⟨⟨xs, x, hq, hx⟩, fun y H' hy => ?_⟩
    obtain ⟨rfl, hy⟩ := hy
    have := hy xs hq
    rw [hx] at this
    cases this
    exact ⟨g, .refl g F, re, rfl, rx⟩
  · exact ⟨xs, hq, by rw [hi, ← rw.length]; exact Nat.le_refl _⟩
theorem walk_tup {g1 : Sg} {F1 : Fp} {r1 : Env} {σ : L2.St} {x : Arg} {p : Addr} {ws : List W} (re1 : RE C.Z C.B C.T g1 r1 σ F1) (h : ArgR C g1 F1 σ x (.ref p)) (q : vw r1 x = some (.tup ws)) : WalkR C g1 F1 σ ⟨ws, keep x (.tup ws)⟩ (Itt C.X.K p) := by
  intro g F r σ' i t re hσ hst
  obtain ⟨a, xs, e, ⟨hq, _⟩, rw⟩ := arg_later re1 h q t re hσ hst
  cases e
  refine ⟨fun w hw => ?_, fun hi => ?_⟩
  · obtain ⟨x, hx, rx⟩ := rw.get hw
    refine ⟨⟨xs, x, hq, hx⟩, fun y H' hy => ?_⟩
    obtain ⟨rfl, hy⟩ := hy
    have := hy xs hq
    rw [hx] at this
    cases this
    exact ⟨g, .refl g F, re, rfl, rx⟩
  · exact ⟨xs, hq, by rw [hi, ← rw.length]; exact Nat.le_refl _⟩
def itvM (va : Env → Res Arg) : Env → Res Wk := fun r => (va r).bind fun x r1 => Res.of (walkA r1 x) r1
theorem str_ws (z : List Nat) (i : Nat) : (z.map fun c => W.str [c])[i]? = (z[i]?).map fun c => W.str [c] := List.getElem?_map
theorem si_v {tg : Expr} (ha : SV C a va) : SI C tg a (itvM va) := by
  obtain ⟨t, p, i⟩ := ha
  refine ⟨_, PI.or (PI.or (pi_list p) (pi_tup p)) (pi_str p), fun g ρ σ F R re k => ?_⟩
  unfold itvM at k
  cases ev : va ρ with
  | bad => rw [ev] at k; exact False.elim k
  | ex x r1 => rw [ev] at k; exact .inl (.inl (i g ρ σ F _ re (by rw [ev]; exact k)))
  | ok x r1 =>
    rw [ev] at k
    have k : POk C g F σ _ (Res.of (walkA r1 x) r1) := k
    obtain ⟨kw, hk, q⟩ := k.of'
    unfold walkA at hk
    cases e : vw r1 x with
    | none => rw [e] at hk; cases hk
    | some w =>
      rw [e] at hk
      have lst : ∀ {ws : List W}, seqW w = some ws → (∀ us, w ≠ .tup us) → kw = ⟨ws, keep x w⟩ → iList C.X.K t σ g.H R := fun {ws} hs hl hkw => by
        refine i g ρ σ F _ re ?_
        rw [ev]
        intro g1 F1 t1 re1 v rv
        have br := rv.vw re1 e
        obtain ⟨p, xs, rfl, hq, rw⟩ := br.seq hs
        refine ⟨p, rfl, ?_, q g1 F1 t1 re1 _ (by rw [hkw]; exact walk_list re1 rv e hs hl)⟩
        cases w with
        | lis us => obtain ⟨a, xs, e, h1, h2⟩ := br; cases e; exact ⟨xs, sqL_of h1⟩
        | scr us =>
          obtain ⟨a, xs, e, h1, h2⟩ := br
          cases e
          refine ⟨xs, ?_⟩
          rcases h1 with ⟨o, h1⟩ | h1
          · exact .inl (.inr ⟨o, h1⟩)
          · exact .inr h1
        | tup us => exact absurd rfl (hl us)
        | _ => cases hs
      cases w with
      | str z =>
        cases x with
        | w x =>
          cases e
          cases hk
          refine .inr (i g ρ σ F _ re ?_)
          rw [ev]
          intro g1 F1 t1 re1 v rv
          cases rv
          refine ⟨_, rfl, q g1 F1 t1 re1 _ ?_⟩
          intro g2 F2 r2 σ2 j t2 re2 _ _
          have hsz : (sv z).cps.size = z.length := by simp [sv]
          refine ⟨fun w hw => ?_, fun hj => ?_⟩
          · simp only [str_ws] at hw
            obtain ⟨c, hc, rfl⟩ := Option.map_eq_some_iff.mp hw
            have hlt : j < z.length := (List.getElem?_eq_some_iff.mp hc).1
            refine ⟨by show j < (sv z).cps.size; rw [hsz]; exact hlt, fun y H' hy => ?_⟩
            obtain ⟨rfl, c', hc', rfl⟩ := hy
            have : c' = c := by
              have h2 : (sv z).cps[j]? = z[j]? := by simp [sv]
              rw [h2, hc] at hc'
              exact (Option.some.inj hc').symm
            subst this
            exact ⟨g2, .refl g2 F2, re2, rfl, rfl⟩
          · show (sv z).cps.size ≤ j
            rw [hsz, hj]
            simp
        | fr u => cases hk
        | sl j => cases hk
      | tup us =>
        cases hk
        refine .inl (.inr (i g ρ σ F _ re ?_))
        rw [ev]
        intro g1 F1 t1 re1 v rv
        obtain ⟨p, xs, rfl, hq, rw⟩ := rv.vw re1 e
        exact ⟨p, rfl, ⟨xs, hq.1⟩, q g1 F1 t1 re1 _ (walk_tup re1 rv e)⟩
      | lis us => cases hk; exact .inl (.inl (lst rfl (fun _ z => nomatch z) rfl))
      | scr us => cases hk; exact .inl (.inl (lst rfl (fun _ z => nomatch z) rfl))
      | _ => cases hk
theorem iota_len (lo : Int) : ∀ n : Nat, (iota lo n).length = n
  | 0 => rfl
  | n + 1 => by simp [iota, iota_len (lo + 1) n]
theorem iota_get (lo : Int) : ∀ (n i : Nat), i < n → (iota lo n)[i]? = some (.int (lo + i))
  | 0, _, h => absurd h (Nat.not_lt_zero _)
  | n + 1, 0, _ => by simp [iota]
  | n + 1, i + 1, h => by
    simp only [iota, List.getElem?_cons_succ]
    rw [iota_get (lo + 1) n i (by omega)]
    congr 2
    omega
theorem walk_rng {g1 : Sg} {F1 : Fp} {σ : L2.St} (lo : Int) (n : Nat) : WalkR C g1 F1 σ ⟨iota lo n, []⟩ (Itr lo n) := by
  intro g F r σ' i t re _ _
  refine ⟨fun w hw => ?_, fun hi => ?_⟩
  · have hlt : i < n := by
      have := (List.getElem?_eq_some_iff.mp hw).1
      rw [iota_len] at this
      exact this
    simp only [iota_get lo n i hlt] at hw
    cases hw
    refine ⟨hlt, fun y H' hy => ?_⟩
    obtain ⟨rfl, rfl⟩ := hy
    exact ⟨g, .refl g F, re, rfl, rfl⟩
  · show n ≤ i
    rw [hi, iota_len]
    exact Nat.le_refl _
def rngM (ma : Env → Res W) : Env → Res Wk := fun r => (ma r).bind fun x r1 => match x with
    | .int n => if decide (n ≤ 1000000) && decide (-1000000 ≤ n) then .ok ⟨iota 0 n.toNat, []⟩ r1 else .bad
    | _ => .bad
theorem si_rng {tg : Expr} {p : Pos} (hg : Gl C.X "range") (hm : C.X.mg "range" = none) (hn : notStar a = true) (ha : SE C a ma) : SI C tg (.Call (.Name "range" p) [a] [] pos) (rngM ma) := by
  obtain ⟨t, pa, i⟩ := ha
  refine ⟨_, pi_range1 hg hm (pa_cons pa pa_nil (star_ hn)) (by rw [star_ hn]; rfl), fun g ρ σ F R re k => ?_⟩
  refine i g ρ σ F _ re (POk.seq (show POk C g F σ _ ((ma ρ).bind _) from k) fun x r1 g1 F1 t1 re1 k1 v rv => ?_)
  cases x <;> first | exact False.elim k1 | skip
  rename_i n
  have k1 : POk C g1 F1 σ _ (if decide (n ≤ 1000000) && decide (-1000000 ≤ n) then Res.ok (⟨iota 0 n.toNat, []⟩ : Wk) r1 else .bad) := k1
  split at k1
  · rename_i hb
    cases rv
    simp only [Bool.and_eq_true, decide_eq_true_eq] at hb
    exact ⟨n, rfl, by omega, by omega, k1.now re1 _ (walk_rng 0 n.toNat)⟩
  · exact False.elim k1
def rng2M (ma mb : Env → Res W) : Env → Res Wk := fun r => (ma r).bind fun x r1 => (mb r1).bind fun y r2 => match x, y with
    | .int m, .int n => if decide (n ≤ 1000000) && decide (-1000000 ≤ n) && decide (m ≤ 1000000) && decide (-1000000 ≤ m) then .ok ⟨iota m (n - m).toNat, []⟩ r2 else .bad
    | _, _ => .bad
theorem si_rng2 {tg : Expr} {p : Pos} (hg : Gl C.X "range") (hm : C.X.mg "range" = none) (hn : notStar a = true) (hn2 : notStar b = true) (ha : SE C a ma) (hb : SE C b mb) : SI C tg (.Call (.Name "range" p) [a, b] [] pos) (rng2M ma mb) := by
  obtain ⟨t, pa, i⟩ := ha
  obtain ⟨t2, pb, i2⟩ := hb
  refine ⟨_, pi_range2 hg hm (pa_cons pa (pa_cons pb pa_nil (star_ hn2)) (star_ hn)) (by rw [star_ hn, star_ hn2]; rfl) (by rw [star_ hn2]; rfl), fun g ρ σ F R re k => ?_⟩
  refine i g ρ σ F _ re (POk.seq (show POk C g F σ _ ((ma ρ).bind _) from k) fun x r1 g1 F1 t1 re1 k1 v rv => ?_)
  refine i2 g1 r1 σ F1 _ re1 (k1.seq fun y r2 g2 F2 t2 re2 k2 v2 rv2 => ?_)
  cases x <;> first | exact False.elim k2 | skip
  cases y <;> first | exact False.elim k2 | skip
  rename_i m n
  have k2 : POk C g2 F2 σ _ (if decide (n ≤ 1000000) && decide (-1000000 ≤ n) && decide (m ≤ 1000000) && decide (-1000000 ≤ m) then Res.ok (⟨iota m (n - m).toNat, []⟩ : Wk) r2 else .bad) := k2
  split at k2
  · rename_i hb
    cases rv
    cases rv2
    simp only [Bool.and_eq_true, decide_eq_true_eq] at hb
    exact ⟨m, n, rfl, ⟨by omega, by omega, by omega, by omega⟩, k2.now re2 _ (walk_rng m _)⟩
  · exact False.elim k2
theorem zip_get : ∀ {us ws : List W} {i : Nat} {w : W}, (zipW us ws)[i]? = some w → ∃ u v, us[i]? = some u ∧ ws[i]? = some v ∧ w = .tup [u, v]
  | [], _, _, _, h => by simp [zipW] at h
  | _ :: _, [], _, _, h => by simp [zipW] at h
  | u :: us, v :: ws, 0, _, h => by simp [zipW] at h; exact ⟨u, v, rfl, rfl, h.symm⟩
  | u :: us, v :: ws, i + 1, _, h => by
    simp only [zipW, List.getElem?_cons_succ] at h ⊢
    exact zip_get h
theorem zip_len : ∀ us ws : List W, (zipW us ws).length = min us.length ws.length
  | [], _ => by simp [zipW]
  | _ :: _, [] => by simp [zipW]
  | u :: us, v :: ws => by simp only [zipW, List.length_cons, zip_len us ws]; omega
theorem rw_pair {g : Sg} {F : Fp} {r : Env} {σ : L2.St} {u v : W} {x y z : V} {H' : Hp} (re : RE C.Z C.B C.T g r σ F) (n : NewP g.H z H' x y) (r1 : RW C.Z g u x) (r2 : RW C.Z g v y) :
    ∃ g', Go g F g' F ∧ RE C.Z C.B C.T g' r σ F ∧ g'.H = H' ∧ RW C.Z g' (.tup [u, v]) z := by
  obtain ⟨T, ob, rfl, hT, hd, rfl⟩ := n
  obtain ⟨re2, t⟩ := re.lay (o := .frz ob (.tup [x, y])) hT
  exact ⟨_, t, re2, rfl, T, [x, y], rfl, ⟨.inl (.inr ⟨ob, upd_same⟩), .inl ⟨ob, _, upd_same, hd⟩⟩, x, [y], rfl, r1.kp (t.kp re), y, [], rfl, r2.kp (t.kp re), rfl⟩
def zipM (va vb : Env → Res Arg) : Env → Res Wk := fun r => (va r).bind fun x r1 => (vb r1).bind fun y r2 => Res.of ((vw r2 x).bind fun u => (lstW u).bind fun us => (vw r2 y).bind fun w => (lstW w).map fun ws => ⟨zipW us ws, keep x u ++ keep y w⟩) r2
theorem lst_later {g1 g : Sg} {F1 F : Fp} {r1 r : Env} {σ σ' : L2.St} {a : Arg} {v : V} {w : W} {ws : List W} (re1 : RE C.Z C.B C.T g1 r1 σ F1) (h : ArgR C g1 F1 σ a v) (q : vw r1 a = some w) (hl : lstW w = some ws) (t : Go g1 F1 g F) (re : RE C.Z C.B C.T g r σ' F) (hσ : Same (keep a w) σ σ') (hst : ((keep a w).all fun q => stillI q.2 r q.1) = true) :
    ∃ p xs, v = .ref p ∧ SqL C.X.K g.H p xs ∧ RWs C.Z g ws xs := by
  obtain ⟨p, xs, e, h1, h2⟩ := (arg_later re1 h q t re hσ hst).lst hl
  exact ⟨p, xs, e, sqL_of h1, h2⟩
theorem si_zip {p tpos : Pos} {elts : List Expr} {kk : Nat} (hg : Gl C.X "zip") (hm : C.X.mg "zip" = none) (hn : notStar a = true) (hn2 : notStar b = true) (ha : SV C a va) (hb : SV C b vb) : SI C (.Tuple elts kk tpos) (.Call (.Name "zip" p) [a, b] [] pos) (zipM va vb) := by
  obtain ⟨t, pa, i⟩ := ha
  obtain ⟨t2, pb, i2⟩ := hb
  refine ⟨_, pi_zipD hg hm (pa_cons pa (pa_cons pb pa_nil (star_ hn2)) (star_ hn)) (star_ hn) (star_any (es := [b]) (by rw [List.all_cons, hn2]; rfl)), fun g ρ σ F R re k => ?_⟩
  refine i g ρ σ F _ re (POk.seq (show POk C g F σ _ ((va ρ).bind _) from k) fun x r1 g1 F1 t1 re1 k1 v1 rv1 => ?_)
  refine i2 g1 r1 σ F1 _ re1 (k1.seq fun y r2 g2 F2 t2 re2 k2 v2 rv2 => ?_)
  obtain ⟨kw, hk, fin⟩ := k2.of re2
  obtain ⟨u, hu, hk⟩ := Option.bind_eq_some_iff.mp hk
  obtain ⟨us, hus, hk⟩ := Option.bind_eq_some_iff.mp hk
  obtain ⟨w, hw, hk⟩ := Option.bind_eq_some_iff.mp hk
  obtain ⟨ws, hws, rfl⟩ := Option.map_eq_some_iff.mp hk
  have rv1 := rv1.go re1 t2
  obtain ⟨p, xs, rfl, hq, rw⟩ := (rv1.vw re2 hu).lst hus
  obtain ⟨q, ys, rfl, hq2, rw2⟩ := (rv2.vw re2 hw).lst hws
  refine ⟨p, q, xs, ys, rfl, sqL_of hq, sqL_of hq2, fin _ ?_⟩
  intro g3 F3 r3 σ3 j t3 re3 hσ hs
  simp only [Wk.still, List.all_append, Bool.and_eq_true] at hs
  obtain ⟨p', xs', ep, hp, rwp⟩ := lst_later re2 rv1 hu hus t3 re3 (fun q hq => hσ q (List.mem_append_left _ hq)) hs.1
  obtain ⟨q', ys', eq, hq', rwq⟩ := lst_later re2 rv2 hw hws t3 re3 (fun q hq => hσ q (List.mem_append_right _ hq)) hs.2
  cases ep
  cases eq
  refine ⟨fun w hw => ?_, fun hj => ?_⟩
  · obtain ⟨u, v, hu', hv', rfl⟩ := zip_get hw
    obtain ⟨x1, hx1, rx1⟩ := rwp.get hu'
    obtain ⟨y1, hy1, ry1⟩ := rwq.get hv'
    refine ⟨⟨xs', ys', x1, y1, hp, hq', hx1, hy1⟩, fun z H' hz => ?_⟩
    obtain ⟨a1, b1, hT, h3, h4⟩ := hz
    have h3 := h3 xs' hp
    have h4 := h4 ys' hq'
    rw [hx1] at h3
    rw [hy1] at h4
    cases h3
    cases h4
    exact rw_pair re3 hT rx1 ry1
  · refine ⟨xs', ys', hp, hq', ?_⟩
    have hl := zip_len us ws
    have : j = min us.length ws.length := by rw [hj]; exact hl
    rw [← rwp.length, ← rwq.length]
    omega
theorem enm_get : ∀ {ws : List W} {k : Int} {i : Nat} {w : W}, (enmW k ws)[i]? = some w → ∃ v, ws[i]? = some v ∧ w = .tup [.int (k + i), v]
  | [], _, _, _, h => by simp [enmW] at h
  | v :: ws, k, 0, _, h => by simp [enmW] at h; exact ⟨v, rfl, by rw [← h]; simp⟩
  | v :: ws, k, i + 1, _, h => by
    simp only [enmW, List.getElem?_cons_succ] at h ⊢
    obtain ⟨u, h1, h2⟩ := enm_get h
    refine ⟨u, h1, ?_⟩
    rw [h2]
    congr 3
    omega
theorem enm_len (k : Int) : ∀ ws : List W, (enmW k ws).length = ws.length
  | [] => rfl
  | _ :: ws => by simp [enmW, enm_len (k + 1) ws]
def enmM (va : Env → Res Arg) : Env → Res Wk := fun r => (va r).bind fun x r1 => Res.of ((vw r1 x).bind fun u => (extW u).map fun ws => ⟨enmW 0 ws, keep x u⟩) r1
theorem si_enm {p tpos : Pos} {elts : List Expr} {kk : Nat} (hg : Gl C.X "enumerate") (hm : C.X.mg "enumerate" = none) (hn : notStar a = true) (ha : SV C a va) : SI C (.Tuple elts kk tpos) (.Call (.Name "enumerate" p) [a] [] pos) (enmM va) := by
  obtain ⟨t, pa, i⟩ := ha
  have hst : starEach [a] C.X.env = [(false, eval a C.X.env)] := by rw [star_ hn]; rfl
  refine ⟨_, PI.or (pi_enmL hg hm (pa_cons pa pa_nil (star_ hn)) hst) (pi_enmT hg hm (pa_cons pa pa_nil (star_ hn)) hst), fun g ρ σ F R re k => ?_⟩
  unfold enmM at k
  cases ev : va ρ with
  | bad => rw [ev] at k; exact False.elim k
  | ex x r1 => rw [ev] at k; exact .inl (i g ρ σ F _ re (by rw [ev]; exact k))
  | ok x r1 =>
    rw [ev] at k
    have k : POk C g F σ _ (Res.of ((vw r1 x).bind fun u => (extW u).map fun ws => (⟨enmW 0 ws, keep x u⟩ : Wk)) r1) := k
    obtain ⟨kw, hk, q⟩ := k.of'
    obtain ⟨u, hu, hk⟩ := Option.bind_eq_some_iff.mp hk
    obtain ⟨ws, hws, rfl⟩ := Option.map_eq_some_iff.mp hk
    cases u with
    | lis us =>
      obtain rfl : us = ws := Option.some.inj hws
      refine .inl (i g ρ σ F _ re ?_)
      rw [ev]
      intro g1 F1 t1 re1 v1 rv1
      obtain ⟨p, xs, rfl, hq, rw⟩ := (rv1.vw re1 hu).lst (ws := us) rfl
      refine ⟨p, xs, rfl, sqL_of hq, q g1 F1 t1 re1 _ ?_⟩
      intro g3 F3 r3 σ3 j t3 re3 hσ hs
      obtain ⟨p', xs', ep, hp, rwp⟩ := lst_later (ws := us) re1 rv1 hu rfl t3 re3 hσ hs
      cases ep
      refine ⟨fun w hw => ?_, fun hj => ?_⟩
      · obtain ⟨v, hv', rfl⟩ := enm_get hw
        obtain ⟨y1, hy1, ry1⟩ := rwp.get hv'
        refine ⟨⟨xs', y1, hp, hy1⟩, fun z H' hz => ?_⟩
        obtain ⟨b1, hT, h4⟩ := hz
        have h4 := h4 xs' hp
        rw [hy1] at h4
        cases h4
        exact rw_pair (u := .int (0 + j)) (x := .int (j : Nat)) re3 hT (by show V.int _ = V.int _; simp) ry1
      · refine ⟨xs', hp, ?_⟩
        have hl := enm_len 0 us
        rw [← rwp.length]
        show us.length ≤ j
        rw [hj]
        exact Nat.le_of_eq hl.symm
    | tup us =>
      obtain rfl : us = ws := Option.some.inj hws
      refine .inr (i g ρ σ F _ re ?_)
      rw [ev]
      intro g1 F1 t1 re1 v1 rv1
      obtain ⟨p, xs, rfl, hq, rw⟩ := rv1.vw re1 hu
      refine ⟨p, xs, rfl, hq.1, q g1 F1 t1 re1 _ ?_⟩
      intro g3 F3 r3 σ3 j t3 re3 hσ hs
      obtain ⟨p', xs', ep, ⟨hp, _⟩, rwp⟩ := arg_later re1 rv1 hu t3 re3 hσ hs
      cases ep
      refine ⟨fun w hw => ?_, fun hj => ?_⟩
      · obtain ⟨v, hv', rfl⟩ := enm_get hw
        obtain ⟨y1, hy1, ry1⟩ := rwp.get hv'
        refine ⟨⟨xs', y1, hp, hy1⟩, fun z H' hz => ?_⟩
        obtain ⟨b1, hT, h4⟩ := hz
        have h4 := h4 xs' hp
        rw [hy1] at h4
        cases h4
        exact rw_pair (u := .int (0 + j)) (x := .int (j : Nat)) re3 hT (by show V.int _ = V.int _; simp) ry1
      · refine ⟨xs', hp, ?_⟩
        have hl := enm_len 0 us
        rw [← rwp.length]
        show us.length ≤ j
        rw [hj]
        exact Nat.le_of_eq hl.symm
    | _ => cases hws
end
end FM


set_option Elab.async false
set_option linter.all false
set_option maxRecDepth 100000
set_option maxHeartbeats 2000000
namespace FM
open PySem L2

/-! ### targets -/
mutual
def slotsG : IG → List Nat
  | .nm i => [i]
  | .tp gs => slotsGs gs
def slotsGs : List IG → List Nat
  | [] => []
  | g :: gs => slotsG g ++ slotsGs gs
end
theorem wipe_at (σ : L2.St) : ∀ (vs : List Nat) (j : Nat), (L2.wipe σ vs)[j]? = if j ∈ vs then (σ[j]?).map (fun _ => none) else σ[j]?
  | [], j => by simp [L2.wipe]
  | v :: vs, j => by
    unfold L2.wipe
    by_cases h : v = j
    · subst h
      by_cases hl : v < (L2.wipe σ vs).length
      · rw [List.getElem?_set_self hl, if_pos List.mem_cons_self]
        rw [L2.wipe_length] at hl
        simp [hl]
      · rw [List.getElem?_eq_none (by simpa using hl), if_pos List.mem_cons_self]
        rw [L2.wipe_length] at hl
        simp [Nat.not_lt.mp hl]
    · rw [List.getElem?_set_ne h, wipe_at σ vs j]
      by_cases hj : j ∈ vs
      · rw [if_pos hj, if_pos (List.mem_cons_of_mem _ hj)]
      · rw [if_neg hj, if_neg (by simp only [List.mem_cons, not_or]; exact ⟨fun e => h e.symm, hj⟩)]
theorem lwipe_set (σ : L2.St) (x : Option V) {i : Nat} {vs : List Nat} (h : i ∈ vs) : L2.wipe (σ.set i x) vs = L2.wipe σ vs := by
  apply List.ext_getElem?
  intro j
  rw [wipe_at, wipe_at]
  by_cases hj : j ∈ vs
  · rw [if_pos hj, if_pos hj]
    by_cases e : i = j
    · subst e
      by_cases hl : i < σ.length
      · rw [List.getElem?_set_self hl]
        simp [hl]
      · rw [List.getElem?_eq_none (by simpa using hl), List.getElem?_eq_none (by simpa using hl)]
    · rw [List.getElem?_set_ne e]
  · have ne : i ≠ j := fun e => hj (e ▸ h)
    rw [if_neg hj, if_neg hj, List.getElem?_set_ne ne]
theorem lwipe_wipe (σ : L2.St) (vs : List Nat) : L2.wipe (L2.wipe σ vs) vs = L2.wipe σ vs := by
  apply List.ext_getElem?
  intro j
  rw [wipe_at, wipe_at]
  by_cases hj : j ∈ vs
  · rw [if_pos hj, if_pos hj]
    cases σ[j]? <;> rfl
  · rw [if_neg hj, if_neg hj]

section
variable {C : Cz} {a b d e : Expr} {es : List Expr} {pos : Pos} {ma mb md : Env → Res W} {va vb vd : Env → Res Arg} {mt mu : Env → Res Bool}
theorem setV_eq {r r' : Env} {i : Nat} {u : U} (h : setV r i u = some r') : r' = r.set i (.m u) ∧ i < r.length := by
  unfold setV at h
  rw [nth_iff] at h
  cases e : r[i]? with
  | none => rw [e] at h; cases h
  | some x =>
    rw [e] at h
    cases x <;> cases h <;> exact ⟨rfl, lt_of_get e⟩
theorem Go.set {g : Sg} {F : Fp} {i : Nat} {fp : List Addr} (hs : ∀ a ∈ fp, g.H a = none ∨ ∃ j, a ∈ F j) : Go g F g (F.set i fp) := ⟨fun _ l => l, fun _ _ h _ => h, fun _ h => h, fun b l => .inl l, fun j b m => by
  by_cases hj : j = i
  · subst hj; rw [Fp.set_same] at m; exact hs b m
  · rw [Fp.set_ne hj] at m; exact .inr ⟨j, m⟩⟩
def SG (C : Cz) (tg : Expr) (ig : IG) : Prop := ∃ t : TG, PG C.X tg t ∧ ∀ (g : Sg) (w : W) (v : V) (r r' : Env) (σ : L2.St) (F : Fp) (Q : L2.St → Hp → Prop), RE C.Z C.B C.T g r σ F → RW C.Z g w v → bindG ig w r = some r' →
  (∀ σ' F', RE C.Z C.B C.T g r' σ' F' → Go g F g F' → (∀ vs, (∀ i ∈ slotsG ig, i ∈ vs) → L2.wipe σ' vs = L2.wipe σ vs) → Q σ' g.H) → t v σ g.H Q
def SGs (C : Cz) (tgs : List Expr) (igs : List IG) : Prop := ∃ t : TGs, PGs C.X tgs t ∧ ∀ (g : Sg) (ws : List W) (vs : List V) (r r' : Env) (σ : L2.St) (F : Fp) (Q : L2.St → Hp → Prop), RE C.Z C.B C.T g r σ F → RWs C.Z g ws vs → bindGs igs ws r = some r' →
  (∀ σ' F', RE C.Z C.B C.T g r' σ' F' → Go g F g F' → (∀ vs, (∀ i ∈ slotsGs igs, i ∈ vs) → L2.wipe σ' vs = L2.wipe σ vs) → Q σ' g.H) → t vs σ g.H Q
theorem sg_nm {i : Nat} {x : Str} (hN : C.X.N.Nodup) (hi : C.X.N[i]? = some x) (hx : Loc C.X.env.scope x) (hf : C.X.fn x = true ∨ C.X.env.scope.names.lookup x = some .local) : SG C (.Name x pos) (.nm i) := by
  refine ⟨_, pg_name hN hi hx hf, fun g w v r r' σ F Q re rw hb k => ?_⟩
  obtain ⟨rfl, hlt⟩ := setV_eq hb
  exact k _ _ (re.bind (u := .d w) hlt ⟨rfl, rw⟩ tmp_nil) (Go.set fun _ m => nomatch m) fun vs hv => lwipe_set σ _ (hv i (by simp [slotsG]))
theorem sgs_nil : SGs C [] [] := by
  refine ⟨_, pgs_nil, fun g ws vs r r' σ F Q re rw hb k => ?_⟩
  cases ws with
  | nil => cases hb; cases rw; exact ⟨rfl, k σ F re (.refl g F) fun _ _ => rfl⟩
  | cons _ _ => cases hb
theorem asg_star (h : notStar e = true) {env : PySem.Env} : assignEach (e :: es) env = (false, assign e env) :: assignEach es env := by
  cases e <;> first | rfl | cases h
theorem sgs_cons {ig : IG} {igs : List IG} (hn : notStar e = true) (h1 : SG C e ig) (h2 : SGs C es igs) : SGs C (e :: es) (ig :: igs) := by
  obtain ⟨t, p, i⟩ := h1
  obtain ⟨ts, ps, is⟩ := h2
  refine ⟨_, pgs_cons p ps (by rw [asg_star hn]; rfl), fun g ws vs r r' σ F Q re rw hb k => ?_⟩
  cases ws with
  | nil => cases hb
  | cons w ws =>
    obtain ⟨v, vr, rfl, r1, r2⟩ := rw
    obtain ⟨r1', h1, h2⟩ := Option.bind_eq_some_iff.mp (show ((bindG ig w r).bind fun r1 => bindGs igs ws r1) = some r' from hb)
    refine ⟨v, vr, rfl, i g w v r r1' σ F _ re r1 h1 fun σ1 F1 re1 t1 w1 => ?_⟩
    refine is g ws vr r1' r' σ1 F1 Q re1 r2 h2 fun σ2 F2 re2 t2 w2 => k σ2 F2 re2 (t1.trans t2) fun vs hv => ?_
    rw [w2 vs (fun i hi => hv i (by simp only [slotsGs, List.mem_append]; exact .inr hi)), w1 vs (fun i hi => hv i (by simp only [slotsGs, List.mem_append]; exact .inl hi))]
theorem asg_len {env : PySem.Env} : ∀ {es : List Expr}, es.all notStar = true → (assignEach es env).length = es.length ∧ (assignEach es env).findIdx? (·.1) = none
  | [], _ => ⟨rfl, rfl⟩
  | e :: es, h => by
    rw [List.all_cons, Bool.and_eq_true] at h
    obtain ⟨h1, h2⟩ := asg_len (env := env) h.2
    rw [asg_star h.1]
    refine ⟨by simp [h1], ?_⟩
    rw [List.findIdx?_cons]
    simp [h2]
theorem bindGs_len : ∀ {gs : List IG} {ws : List W} {r r' : Env}, bindGs gs ws r = some r' → gs.length = ws.length
  | [], [], _, _, _ => rfl
  | [], _ :: _, _, _, h => by cases h
  | _ :: _, [], _, _, h => by cases h
  | g :: gs, w :: ws, r, r', h => by
    obtain ⟨r1, _, h2⟩ := Option.bind_eq_some_iff.mp (show ((bindG g w r).bind fun r1 => bindGs gs ws r1) = some r' from h)
    simp [bindGs_len h2]
theorem PG.or {X : Cx} {e : Expr} {t u : TG} (a : PG X e t) (b : PG X e u) : PG X e (fun v σ H Q => t v σ H Q ∨ u v σ H Q) := ⟨fun pins s σ H v w Q I r h => by
  rcases h with h | h
  · exact a.run pins s σ H v w Q I r h
  · exact b.run pins s σ H v w Q I r h⟩
theorem sg_tp {igs : List IG} {k : Nat} (hc : C.X.calm = true) (hst : es.all notStar = true) (hl : es.length = igs.length) (h : SGs C es igs) : SG C (.Tuple es k pos) (.tp igs) := by
  obtain ⟨t, p, i⟩ := h
  obtain ⟨h1, h2⟩ := asg_len (env := C.X.env) hst
  refine ⟨_, PG.or (pg_tup hc p h1 h2) (pg_lst hc p h1 h2), fun g w v r r' σ F Q re rw hb k => ?_⟩
  cases w with
  | tup ws =>
    obtain ⟨a, xs, rfl, hq, rws⟩ := rw
    refine .inl ⟨a, xs, rfl, hq.1, ?_, i g ws xs r r' σ F Q re rws hb fun σ' F' re' t' hw => k σ' F' re' t' hw⟩
    rw [← rws.length, ← bindGs_len (show bindGs igs ws r = some r' from hb), hl]
  | lis ws =>
    obtain ⟨a, xs, rfl, _, hq, rws⟩ := rw
    refine .inr ⟨a, xs, rfl, .inl (.inl hq), ?_, i g ws xs r r' σ F Q re rws hb fun σ' F' re' t' hw => k σ' F' re' t' hw⟩
    rw [← rws.length, ← bindGs_len (show bindGs igs ws r = some r' from hb), hl]
  | _ => cases hb
end

/-! ### comprehensions -/
abbrev Blk (X : Cx) (scope : Scope) (s : Shared) (H : Hp) (c : Addr) (cl : List (Str × Addr)) (fp : List Addr) : Cx := X.blk s H scope (compEnvC scope cl c X.env) fp
abbrev Cz.blk (C : Cz) (scope : Scope) (s : Shared) (H : Hp) (c : Addr) (cl : List (Str × Addr)) (fp : List Addr) : Cz := ⟨Blk C.X scope s H c cl fp, C.ca, fun _ _ _ _ => False, C.B, C.T⟩
section
variable {C : Cz} {a b d e : Expr} {es : List Expr} {pos : Pos} {ma mb md : Env → Res W} {va vb vd : Env → Res Arg} {mt mu : Env → Res Bool}
/-- results that are no exception: the same in every context -/
theorem POk.ctx {C' : Cz} {g : Sg} {F : Fp} {σ : L2.St} {α : Type} {Q : α → Sg → Fp → Prop} {x : Res α} (hK : C'.X.K = C.X.K) (hc : C'.ca = C.ca) (hB : C'.B = C.B) (hT : C'.T = C.T) (hx : ∀ y r, x ≠ .ex y r) (h : POk C g F σ Q x) : POk C' g F σ Q x := by
  cases x with
  | bad => exact h
  | ex y r => exact absurd rfl (hx y r)
  | ok a r =>
    intro g' F' t re
    refine h g' F' t ?_
    have hZ : C'.Z = C.Z := by show (⟨C'.X.K, C'.ca⟩ : Kx) = ⟨C.X.K, C.ca⟩; rw [hK, hc]
    rw [← hZ, ← hB, ← hT]
    exact re
theorem blk_e {scope : Scope} {m : Env → Res W} (h : ∀ s H c cl fp, SE (C.blk scope s H c cl fp) e m) : ∃ t : TE, (∀ s H c cl fp, PE (Blk C.X scope s H c cl fp) e t) ∧ ∀ (g : Sg) (r : Env) (σ : L2.St) (F : Fp) (Q : VK), RE C.Z C.B C.T g r σ F → (∀ y r', m r ≠ .ex y r') →
    POk C g F σ (fun w g' _ => ∀ v, RW C.Z g' w v → Q v g'.H) (m r) → t σ g.H Q := by
  refine ⟨fun σ H Q => ∀ s H0 c cl fp, (h s H0 c cl fp).choose σ H Q, fun s H c cl fp => ⟨fun pins s1 σ H1 Q I q => ?_⟩, fun g r σ F Q re hx k s H c cl fp => ?_⟩
  · exact (h s H c cl fp).choose_spec.1.run pins s1 σ H1 Q I (q s H c cl fp)
  · exact (h s H c cl fp).choose_spec.2 g r σ F Q re (POk.ctx (C := C) (C' := C.blk scope s H c cl fp) rfl rfl rfl rfl hx k)
theorem blk_t {scope : Scope} {m : Env → Res Bool} (h : ∀ s H c cl fp, STt (C.blk scope s H c cl fp) e m) : ∃ t : TT, (∀ s H c cl fp, PT (Blk C.X scope s H c cl fp) e t) ∧ ∀ (g : Sg) (r : Env) (σ : L2.St) (F : Fp) (Q : Bool → Hp → Prop), RE C.Z C.B C.T g r σ F → (∀ y r', m r ≠ .ex y r') →
    POk C g F σ (fun b g' _ => Q b g'.H) (m r) → t σ g.H Q := by
  refine ⟨fun σ H Q => ∀ s H0 c cl fp, (h s H0 c cl fp).choose σ H Q, fun s H c cl fp => ⟨fun pins s1 σ H1 Q I q => ?_⟩, fun g r σ F Q re hx k s H c cl fp => ?_⟩
  · exact (h s H c cl fp).choose_spec.1.run pins s1 σ H1 Q I (q s H c cl fp)
  · exact (h s H c cl fp).choose_spec.2 g r σ F Q re (POk.ctx (C := C) (C' := C.blk scope s H c cl fp) rfl rfl rfl rfl hx k)
theorem blk_g {scope : Scope} {ig : IG} (h : ∀ s H c cl fp, SG (C.blk scope s H c cl fp) e ig) : ∃ t : TG, (∀ s H c cl fp, PG (Blk C.X scope s H c cl fp) e t) ∧ ∀ (g : Sg) (w : W) (v : V) (r r' : Env) (σ : L2.St) (F : Fp) (Q : L2.St → Hp → Prop), RE C.Z C.B C.T g r σ F → RW C.Z g w v → bindG ig w r = some r' →
    (∀ σ' F', RE C.Z C.B C.T g r' σ' F' → Go g F g F' → (∀ vs, (∀ i ∈ slotsG ig, i ∈ vs) → L2.wipe σ' vs = L2.wipe σ vs) → Q σ' g.H) → t v σ g.H Q := by
  refine ⟨fun v σ H Q => ∀ s H0 c cl fp, (h s H0 c cl fp).choose v σ H Q, fun s H c cl fp => ⟨fun pins s1 σ H1 v u Q I r q => ?_⟩, fun g w v r r' σ F Q re rw e k s H c cl fp => ?_⟩
  · exact (h s H c cl fp).choose_spec.1.run pins s1 σ H1 v u Q I r (q s H c cl fp)
  · exact (h s H c cl fp).choose_spec.2 g w v r r' σ F Q re rw e k
/-- a clause's tests -/
def TestOk (C : Cz) (scope : Scope) (ifs : List Expr) (mt : Option (Env → Res Bool)) : Prop := match ifs, mt with
  | [], none => True
  | [c], some m => ∀ s H a cl fp, STt (C.blk scope s H a cl fp) c m
  | _, _ => False
def tstM (mt : Option (Env → Res Bool)) (r : Env) : Res Bool := match mt with
  | none => .ok true r
  | some m => m r
theorem blk_ts {scope : Scope} {ifs : List Expr} {mt : Option (Env → Res Bool)} (h : TestOk C scope ifs mt) : ∃ t : TT, (∀ s H c cl fp, PTs (Blk C.X scope s H c cl fp) ifs t) ∧ ∀ (g : Sg) (r : Env) (σ : L2.St) (F : Fp) (Q : Bool → Hp → Prop), RE C.Z C.B C.T g r σ F → (∀ y r', tstM mt r ≠ .ex y r') →
    POk C g F σ (fun b g' _ => Q b g'.H) (tstM mt r) → t σ g.H Q := by
  cases ifs with
  | nil =>
    cases mt with
    | some _ => cases h
    | none => exact ⟨tYes, fun _ _ _ _ _ => pts_nil, fun g r σ F Q re _ k => k.now re⟩
  | cons c ifs =>
    cases ifs with
    | cons _ _ => cases mt <;> cases h
    | nil =>
      cases mt with
      | none => cases h
      | some m =>
        obtain ⟨t, p, i⟩ := blk_t (C := C) (scope := scope) (e := c) (m := m) h
        exact ⟨t, fun s H C cl fp => pts_one (p s H C cl fp), i⟩
def turnM (elt : Env → Res W) (ig : IG) (mt : Option (Env → Res Bool)) (w : W) (r : Env) : Res (Option W) := match bindG ig w r with
  | none => .bad
  | some r1 => (tstM mt r1).bind fun b r2 => if b then (elt r2).bind fun u r3 => .ok (some u) r3 else .ok none r2
def lcM (elt : Env → Res W) (ig : IG) (own : List Nat) (mi : Env → Res Wk) (mt : Option (Env → Res Bool)) : Env → Res (List W) := fun r => (mi r).bind fun k r1 => if Nat.ble k.ws.length size && ownOk r1 own && k.ks.all (fun q => !own.any (Nat.beq q.1)) then (match compL k own (turnM elt ig mt) k.ws (wipe r1 own) with
    | .ok ws r2 => .ok ws (back r1 r2 own)
    | _ => .bad) else .bad
/-! names that are set aside, and come back -/
theorem RE.sig {Z : Kx} {B : Nat → Option V} {T : Option Ct} {g : Sg} {r : Env} {σ σ' : L2.St} {F : Fp} (e : RE Z B T g r σ F) (hl : σ'.length = σ.length) (h : ∀ (j : Nat) (x : En), r[j]? = some x → x = En.no ∨ σ'[j]? = σ[j]?) : RE Z B T g r σ' F :=
  ⟨e.len.trans hl.symm, fun i x hx => by
    obtain ⟨o, h1, h2⟩ := e.at_ i x hx
    rcases h i x hx with rfl | q
    · have hi : i < σ'.length := by rw [hl, ← e.len]; exact lt_of_get hx
      exact ⟨σ'[i], by simp [hi], h2⟩
    · exact ⟨o, by rw [q]; exact h1, h2⟩, e.out, e.nod, e.dis, e.nl, e.la⟩
theorem wipe_at_no (r : Env) : ∀ {vs : List Nat} {j : Nat} {x : En}, j ∈ vs → (FM.wipe r vs)[j]? = some x → x = .no
  | v :: vs, j, x, hj, h => by
    unfold FM.wipe at h
    by_cases e : v = j
    · subst e
      rw [List.getElem?_set_self (by have := lt_of_get h; rw [List.length_set] at this; exact this)] at h
      cases h; rfl
    · rw [List.getElem?_set_ne e] at h
      rcases List.mem_cons.mp hj with q | q
      · exact absurd q.symm e
      · exact wipe_at_no r q h
theorem Go.wipeF {g : Sg} {F : Fp} (vs : List Nat) : Go g F g (F.wipe vs) := ⟨fun _ l => l, fun _ _ h _ => h, fun _ h => h, fun _ l => .inl l, fun j b m => .inr ⟨j, (Fp.wipe_mem m).1⟩⟩
theorem back_at (r r1 : Env) (hl : r.length = r1.length) : ∀ (vs : List Nat) (j : Nat), (back r r1 vs)[j]? = if j ∈ vs then r[j]? else r1[j]?
  | [], j => by simp [back]
  | v :: vs, j => by
    have ih := back_at r r1 hl vs
    have hlen : (back r r1 vs).length = r1.length := by
      have : ∀ ws : List Nat, (back r r1 ws).length = r1.length := by
        intro ws
        induction ws with
        | nil => rfl
        | cons w ws ih => unfold back; split <;> simp [ih]
      exact this vs
    unfold back
    rw [nth_iff]
    cases e : r[v]? with
    | none =>
      simp only []
      rw [ih j]
      by_cases hj : j = v
      · subst hj
        have : r1[j]? = none := by rw [List.getElem?_eq_none_iff] at e ⊢; omega
        simp [e, this]
      · simp [hj]
    | some x =>
      simp only []
      by_cases hj : j = v
      · subst hj
        rw [List.getElem?_set_self (by rw [hlen, ← hl]; exact lt_of_get e)]
        simp [e]
      · rw [List.getElem?_set_ne (Ne.symm hj), ih j]
        simp [hj]
theorem ownOk_at {r : Env} : ∀ {vs : List Nat}, ownOk r vs = true → ∀ j ∈ vs, ∃ x, r[j]? = some x ∧ plainE x = true
  | v :: vs, h, j, hj => by
    simp only [ownOk, Bool.and_eq_true] at h
    rcases List.mem_cons.mp hj with rfl | hj
    · rw [nth_iff] at h
      cases e : r[j]? with
      | none => rw [e] at h; exact absurd h.1 (by simp)
      | some x => rw [e] at h; exact ⟨x, rfl, h.1⟩
    · exact ownOk_at h.2 j hj
theorem RE.back {g1 g : Sg} {F1 F : Fp} {r1 r2 : Env} {σ : L2.St} {own : List Nat} (re1 : RE C.Z C.B C.T g1 r1 σ F1) (t : Go g1 F1 g F) (hok : ownOk r1 own = true) (re : RE C.Z C.B C.T g r2 (L2.wipe σ own) F) : RE C.Z C.B C.T g (FM.back r1 r2 own) σ (F.wipe own) := by
  have hl : r1.length = r2.length := by rw [re1.len, re.len, L2.wipe_length]
  have kp := t.kp re1
  have fl : (FM.back r1 r2 own).length = r2.length := by
    have : ∀ ws : List Nat, (FM.back r1 r2 ws).length = r2.length := by
      intro ws
      induction ws with
      | nil => rfl
      | cons w ws ih => unfold FM.back; split <;> simp [ih]
    exact this own
  have rew := re.wipe (vs := own) fun v hv => by
    obtain ⟨x, hx, _⟩ := ownOk_at hok v hv
    rw [← hl]; exact lt_of_get hx
  refine ⟨by rw [fl, ← hl, re1.len], fun j x hx => ?_, fun j hj => rew.out j (by rw [wipe_len, ← fl]; exact hj), rew.nod, rew.dis, rew.nl, rew.la⟩
  rw [back_at r1 r2 hl] at hx
  by_cases hj : j ∈ own
  · rw [if_pos hj] at hx
    obtain ⟨y, hy, py⟩ := ownOk_at hok j hj
    rw [hx] at hy
    cases hy
    obtain ⟨o, h1, h2⟩ := re1.at_ j x hx
    have Fj : F.wipe own j = [] := by
      cases hF : F.wipe own j with
      | nil => rfl
      | cons a l =>
        have : a ∈ F.wipe own j := by rw [hF]; exact List.mem_cons_self
        exact absurd hj (Fp.wipe_mem this).2
    refine ⟨o, h1, ?_⟩
    rw [Fj]
    cases x with
    | no => rfl
    | m u =>
      cases u with
      | d w =>
        obtain ⟨v, e1, e2, e3⟩ := h2
        exact ⟨v, e1, rfl, e3.kp kp⟩
      | _ => cases py
    | _ => cases py
  · rw [if_neg hj] at hx
    obtain ⟨o, h1, h2⟩ := re.at_ j x hx
    rw [wipe_at, if_neg hj] at h1
    have Fj : F.wipe own j = F j := by
      have : ∀ vs : List Nat, j ∉ vs → F.wipe vs j = F j := by
        intro vs
        induction vs with
        | nil => intro _; rfl
        | cons v vs ih =>
          intro hn
          simp only [List.mem_cons, not_or] at hn
          unfold Fp.wipe
          rw [Fp.set_ne hn.1, ih hn.2]
      exact this own hj
    exact ⟨o, h1, by rw [Fj]; exact h2⟩
theorem lc_imp {wi : TI} {tg : TG} {tt : TT} {te : TE} {ig : IG} {own : List Nat} {mi : Env → Res Wk} {mt : Option (Env → Res Bool)} {elt : Env → Res W}
    (ii : ∀ (g : Sg) (r : Env) (σ : L2.St) (F : Fp) (R : It → Hp → Prop), RE C.Z C.B C.T g r σ F → POk C g F σ (fun k g' F' => ∀ J, WalkR C g' F' σ k J → R J g'.H) (mi r) → wi σ g.H R)
    (ig_ : ∀ (g : Sg) (w : W) (v : V) (r r' : Env) (σ : L2.St) (F : Fp) (Q : L2.St → Hp → Prop), RE C.Z C.B C.T g r σ F → RW C.Z g w v → bindG ig w r = some r' → (∀ σ' F', RE C.Z C.B C.T g r' σ' F' → Go g F g F' → (∀ vs, (∀ i ∈ slotsG ig, i ∈ vs) → L2.wipe σ' vs = L2.wipe σ vs) → Q σ' g.H) → tg v σ g.H Q)
    (it : ∀ (g : Sg) (r : Env) (σ : L2.St) (F : Fp) (Q : Bool → Hp → Prop), RE C.Z C.B C.T g r σ F → (∀ y r', tstM mt r ≠ .ex y r') → POk C g F σ (fun b g' _ => Q b g'.H) (tstM mt r) → tt σ g.H Q)
    (ie : ∀ (g : Sg) (r : Env) (σ : L2.St) (F : Fp) (Q : VK), RE C.Z C.B C.T g r σ F → (∀ y r', elt r ≠ .ex y r') → POk C g F σ (fun w g' _ => ∀ v, RW C.Z g' w v → Q v g'.H) (elt r) → te σ g.H Q)
    (ho : ∀ i ∈ slotsG ig, i ∈ own) (g : Sg) (r : Env) (σ : L2.St) (F : Fp) (Q : VK) (re : RE C.Z C.B C.T g r σ F)
    (k : POk C g F σ (fun ws g' F' => ∀ v fp, OU C.Z g' (.l (ws.map U.d)) v fp → Tmp g' F' fp → Src g F fp → Q v g'.H) (lcM elt ig own mi mt r)) : tLc wi tg tt te own σ g.H Q := by
  refine ii g r σ F _ re (POk.seq0 (show POk C g F σ _ ((mi r).bind _) from k) fun kw r1 g1 F1 t1 re1 k1 J wk => ?_)
  have k1 : POk C g F σ (fun ws g' F' => ∀ v fp, OU C.Z g' (.l (ws.map U.d)) v fp → Tmp g' F' fp → Src g F fp → Q v g'.H) (if Nat.ble kw.ws.length size && ownOk r1 own && kw.ks.all (fun q => !own.any (Nat.beq q.1)) then (match compL kw own (turnM elt ig mt) kw.ws (FM.wipe r1 own) with
    | .ok ws r2 => .ok ws (FM.back r1 r2 own)
    | _ => .bad) else .bad) := k1
  split at k1
  · rename_i hz
    rw [Bool.and_eq_true, Bool.and_eq_true] at hz
    obtain ⟨⟨hz, hown⟩, hks⟩ := hz
    have hz : kw.ws.length ≤ size := Nat.le_of_ble_eq_true hz
    have same : Same kw.ks σ (L2.wipe σ own) := fun q hq => by
      have h1 := List.all_eq_true.mp hks q hq
      rw [wipe_at, if_neg]
      intro hm
      have : own.any (Nat.beq q.1) = true := List.any_eq_true.mpr ⟨q.1, hm, Nat.beq_refl _⟩
      rw [this] at h1; cases h1
    cases ec : compL kw own (turnM elt ig mt) kw.ws (FM.wipe r1 own) with
    | bad => rw [ec] at k1; exact False.elim k1
    | ex _ _ => rw [ec] at k1; exact False.elim k1
    | ok ws rE =>
    rw [ec] at k1
    intro D hD
    have reW : RE C.Z C.B C.T g1 (FM.wipe r1 own) (L2.wipe σ own) (F1.wipe own) := by
      have rw := re1.wipe (vs := own) fun v hv => by
        obtain ⟨x, hx, _⟩ := ownOk_at hown v hv
        exact lt_of_get hx
      refine rw.sig (L2.wipe_length _ _) fun j x hx => ?_
      by_cases hj : j ∈ own
      · exact .inl (wipe_at_no r1 hj hx)
      · exact .inr (by rw [wipe_at, if_neg hj])
    obtain ⟨reD, tD⟩ := reW.lay (o := .lst []) hD
    have xD := tmp_new reW hD
    refine ⟨fun i m H => ∃ (g' : Sg) (F' : Fp) (r' : Env) (xs : List V) (acc rest : List W), H = g'.H ∧ Go g1 F1 g' F' ∧ g'.H D = some (.lst xs) ∧ Tmp g' F' [D] ∧ RE C.Z C.B C.T g' r' (L2.wipe σ own) F' ∧ RWs C.Z g' acc xs ∧ acc.length ≤ i ∧ m = kw.ws.length - i ∧ i ≤ kw.ws.length ∧ compL kw own (turnM elt ig mt) (kw.ws.drop i) r' = .ok rest rE ∧ acc ++ rest = ws,
      ⟨_, ⟨upd g1.H D (.lst []), g1.L⟩, F1.wipe own, _, [], [], ws, rfl, (Go.wipeF own).trans tD, upd_same, ⟨xD.nod, xD.nl, xD.nf⟩, reD, rfl, Nat.le_refl _, rfl, Nat.zero_le _, ec, rfl⟩, ?_⟩
    rintro i m H ⟨g', F', r', xs, acc, rest, rfl, t', hDI, xI, reI, rws, hacc, rfl, hi, ec, hws⟩
    by_cases hlt : i < kw.ws.length
    · -- a turn
      have ed : kw.ws.drop i = kw.ws[i] :: kw.ws.drop (i + 1) := List.drop_eq_getElem_cons hlt
      rw [ed] at ec
      simp only [compL] at ec
      split at ec
      · rename_i hst
        obtain ⟨wy, _⟩ := wk g' F' r' _ i t' reI same hst
        obtain ⟨hgo, hy⟩ := wy kw.ws[i] (by simp [hlt])
        refine .inr ⟨hgo, _, fun H' hN => ⟨kw.ws.length - (i + 1), by omega, hN⟩, fun x H' hx => ?_⟩
        obtain ⟨g2, t2, re2, rfl, r2⟩ := hy x H' hx
        cases hb : bindG ig kw.ws[i] r' with
        | none => simp only [turnM, hb] at ec; cases ec
        | some rb =>
          simp only [turnM, hb] at ec
          have uD : ∀ {g3 : Sg} {F3 : Fp}, Go g' F' g3 F3 → g3.H D = some (.lst xs) ∧ Tmp g3 F3 [D] := fun {g3 F3} t3 => by
            have ou : OU C.Z g' (.l (acc.map U.d)) (.ref D) [D] := ⟨D, xs, [], rfl, hDI, OUs.dat rws, rfl⟩
            refine ⟨t3.k D _ hDI (xI.nf D List.mem_cons_self), (ou.go reI t3 xI).2⟩
          refine ig_ g2 kw.ws[i] x _ rb _ F' _ re2 r2 hb fun σ2 F2 re3 t3 hw => ⟨?_, ?_⟩
          · rw [hw own ho]
            exact lwipe_wipe σ own
          · have hσ : ∀ {g4 : Sg} {r4 : Env} {F4 : Fp}, RE C.Z C.B C.T g4 r4 σ2 F4 → RE C.Z C.B C.T g4 (FM.wipe r4 own) (L2.wipe σ own) (F4.wipe own) := fun {g4 r4 F4} re4 => by
              have hl2 : σ2.length = σ.length := by
                have h1 := congrArg List.length (hw own ho)
                rw [L2.wipe_length, L2.wipe_length, L2.wipe_length] at h1
                exact h1
              have rw := re4.wipe (vs := own) fun v hv => by
                obtain ⟨x, hx, _⟩ := ownOk_at hown v hv
                have := lt_of_get hx
                rw [re1.len] at this
                rw [re4.len, hl2]; exact this
              refine rw.sig (by rw [L2.wipe_length, hl2]) fun j x hx => ?_
              by_cases hj : j ∈ own
              · exact .inl (wipe_at_no r4 hj hx)
              · refine .inr ?_
                have h1 : (L2.wipe σ2 own)[j]? = (L2.wipe (L2.wipe σ own) own)[j]? := by rw [hw own ho]
                rw [lwipe_wipe, wipe_at, if_neg hj] at h1
                exact h1.symm
            have hx1 : ∀ y r', tstM mt rb ≠ .ex y r' := fun y r' e => by rw [e] at ec; cases ec
            refine it g2 rb σ2 F2 _ re3 hx1 ?_
            cases et : tstM mt rb with
            | bad => rw [et] at ec; cases ec
            | ex y r' => exact absurd et (hx1 y r')
            | ok c r3 =>
              rw [et] at ec
              intro g3 F3 t4 re4
              have tI3 : Go g' F' g3 F3 := (t2.trans t3).trans t4
              cases c with
              | true =>
                refine iteT ?_
                have hx2 : ∀ y r', elt r3 ≠ .ex y r' := fun y r' e => by
                  simp only [Res.bind, if_true, e] at ec; cases ec
                refine ie g3 r3 σ2 F3 _ re4 hx2 ?_
                cases ee : elt r3 with
                | bad => simp only [Res.bind, if_true, ee] at ec; cases ec
                | ex y r' => exact absurd ee (hx2 y r')
                | ok u r4 =>
                  simp only [Res.bind, if_true, ee] at ec
                  intro g4 F4 t5 re5 v r4'
                  have tI4 := tI3.trans t5
                  obtain ⟨hD4, x4⟩ := uD tI4
                  cases eT : compL kw own (turnM elt ig mt) (kw.ws.drop (i + 1)) (FM.wipe r4 own) with
                  | bad => rw [eT] at ec; cases ec
                  | ex _ _ => rw [eT] at ec; cases ec
                  | ok us r5 =>
                    rw [eT] at ec
                    cases ec
                    have re6 := hσ re5
                    have kpA : Kp C.Z g4 ⟨upd g4.H D (.lst (xs ++ [v])), g4.L⟩ := ⟨fun {b ys} h => by
                      rcases h with (h | ⟨ob, h⟩) | h
                      · exact .inl (.inl ((upd_ne (fun z => by rw [z, hD4] at h; cases h)).trans h))
                      · exact .inl (.inr ⟨ob, (upd_ne (fun z => by rw [z, hD4] at h; cases h)).trans h⟩)
                      · exact .inr h, fun b o l h => ⟨l, (upd_ne (fun z => x4.nl D List.mem_cons_self (by rw [← z]; exact l))).trans h⟩, fun b o w h => (upd_ne (fun z => by rw [z, hD4] at h; cases h)).trans h⟩
                    have goA : Go g1 F1 ⟨upd g4.H D (.lst (xs ++ [v])), g4.L⟩ (F4.wipe own) := by
                      have tt := (t'.trans tI4).trans (Go.wipeF (g := g4) (F := F4) own)
                      refine ⟨tt.l, fun b o h n => ?_, fun b h => ?_, tt.n, tt.s⟩
                      · exact (upd_ne (fun z => by rw [z, hD] at h; cases h)).trans (tt.k b o h n)
                      · by_cases hbD : b = D
                        · rw [hbD]; exact hD
                        · have h : upd g4.H D (.lst (xs ++ [v])) b = none := h
                          rw [upd_ne hbD] at h
                          exact tt.a b h
                    have reA : RE C.Z C.B C.T ⟨upd g4.H D (.lst (xs ++ [v])), g4.L⟩ (FM.wipe r4 own) (L2.wipe σ own) (F4.wipe own) := re6.keep kpA (fun j b m => upd_ne (fun z => x4.nf D List.mem_cons_self j (by rw [← z]; exact (Fp.wipe_mem m).1))) (fun j b m => re6.nl j b m) (fun b l => by
                      obtain ⟨o, ho⟩ := re6.la b l
                      exact ⟨o, (upd_ne (fun z => x4.nl D List.mem_cons_self (by rw [← z]; exact l))).trans ho⟩)
                    refine ⟨xs, hD4, ?_, ⟨upd g4.H D (.lst (xs ++ [v])), g4.L⟩, F4.wipe own, _, xs ++ [v], acc ++ [u], us, rfl, goA, upd_same, ⟨x4.nod, x4.nl, fun b m j hj => x4.nf b m j (Fp.wipe_mem hj).1⟩, reA, ?_, ?_, rfl, hlt, eT, ?_⟩
                    · rw [← rws.length]
                      exact sizeLine_lt (by omega)
                    · exact ((rws.kp (tI4.kp reI)).kp kpA).append ⟨v, [], rfl, r4'.kp kpA, rfl⟩
                    · simp
                      omega
                    · rw [List.append_assoc]
                      exact hws
              | false =>
                refine iteF ?_
                simp only [Res.bind, Bool.false_eq_true, if_false] at ec
                obtain ⟨hD4, x4⟩ := uD tI3
                cases eT : compL kw own (turnM elt ig mt) (kw.ws.drop (i + 1)) (FM.wipe r3 own) with
                | bad => rw [eT] at ec; cases ec
                | ex _ _ => rw [eT] at ec; cases ec
                | ok us r5 =>
                  rw [eT] at ec
                  cases ec
                  exact ⟨g3, F3.wipe own, _, xs, acc, _, rfl, (t'.trans tI3).trans (Go.wipeF own), hD4, ⟨x4.nod, x4.nl, fun b m j hj => x4.nf b m j (Fp.wipe_mem hj).1⟩, hσ re4, rws.kp (tI3.kp reI), Nat.le_succ_of_le hacc, rfl, hlt, eT, hws⟩
      · cases ec
    · have hie : i = kw.ws.length := by omega
      subst hie
      rw [List.drop_eq_nil_of_le (Nat.le_refl _)] at ec
      simp only [compL] at ec
      split at ec
      · rename_i hst
        cases ec
        obtain ⟨_, wst⟩ := wk g' F' _ _ kw.ws.length t' reI same hst
        refine .inl ⟨wst rfl, ?_⟩
        rw [List.append_nil] at hws
        subst hws
        have tE := (t1.trans t').trans (Go.wipeF (g := g') (F := F') own)
        refine k1 g' (F'.wipe own) tE (RE.back re1 t' hown reI) (.ref D) [D] ⟨D, xs, [], rfl, hDI, OUs.dat rws, rfl⟩ ⟨xI.nod, xI.nl, fun b m j hj => xI.nf b m j (Fp.wipe_mem hj).1⟩ fun b m => ?_
        rw [List.mem_singleton.mp m]
        exact .inl (t1.a _ hD)
      · cases ec
  · exact False.elim k1
theorem noSet : ∀ {iter : Expr} {env : PySem.Env}, (match iter with | .Set _ _ _ => false | _ => true) = true → ∀ x, foldedSetIterable iter env x = pure x := by
  intro iter env h x
  cases iter <;> first | rfl | cases h
theorem su_comp {elt tg iter : Expr} {ifs : List Expr} {scope : Scope} {own : List (Str × Nat)} {ig : IG} {mi : Env → Res Wk} {mt : Option (Env → Res Bool)} {me : Env → Res W} (hc : C.X.calm = true) (hN : C.X.N.Nodup) (hi : SI C tg iter mi) (ok : BlkOk C.X.N C.X.env.scope scope own)
    (hg : ∀ s H c cl fp, SG (C.blk scope s H c cl fp) tg ig) (ht : TestOk C scope ifs mt) (he : ∀ s H c cl fp, SE (C.blk scope s H c cl fp) elt me) (hs : ∀ x, foldedSetIterable iter C.X.env x = pure x) (ho : ∀ i ∈ slotsG ig, i ∈ own.map (·.2)) :
    SU C (.ListComp elt [⟨tg, iter, ifs, 0⟩] scope pos) (fun r => (lcM me ig (own.map (·.2)) mi mt r).bind fun ws r1 => .ok (.l (ws.map U.d)) r1) := by
  obtain ⟨ti, pi, ii⟩ := hi
  obtain ⟨tg_, pg, ig_⟩ := blk_g hg
  obtain ⟨tt, pt, it⟩ := blk_ts ht
  obtain ⟨te, pe, ie⟩ := blk_e he
  refine ⟨_, pe_lc hc hN pi ok pg pt pe hs, fun g r σ F Q re k => lc_imp ii ig_ it ie ho g r σ F Q re ?_⟩
  exact k.seq0 fun ws r1 g1 F1 t1 re1 k1 => k1 g1 F1 t1 re1
end
end FM


set_option Elab.async false
set_option linter.all false
set_option maxRecDepth 100000
set_option maxHeartbeats 2000000
/-! A list comprehension of two clauses. -/
namespace FM
open PySem L2
section
variable {C : Cz} {e : Expr} {pos : Pos}
/-- a walk over data: it goes on wherever data stay -/
def WalkK (C : Cz) (g1 : Sg) (ws : List W) (J : It) : Prop := ∀ (g : Sg) (F : Fp) (r : Env) (σ' : L2.St) (i : Nat), Kp C.Z g1 g → RE C.Z C.B C.T g r σ' F →
  (∀ w, ws[i]? = some w → J.go i g.H ∧ ∀ x H', J.yld i g.H x H' → ∃ g', Go g F g' F ∧ RE C.Z C.B C.T g' r σ' F ∧ g'.H = H' ∧ RW C.Z g' w x) ∧ (i = ws.length → J.stop i g.H)
def SIk (C : Cz) (tg e : Expr) (m : Env → Res Wk) : Prop := ∃ t : TI, PI C.X tg e t ∧ ∀ (g : Sg) (r : Env) (σ : L2.St) (F : Fp) (R : It → Hp → Prop), RE C.Z C.B C.T g r σ F →
  POk C g F σ (fun k g' F' => ∀ J, k.ks = [] ∧ WalkK C g' k.ws J → R J g'.H) (m r) → t σ g.H R
theorem blk_i {scope : Scope} {tg : Expr} {m : Env → Res Wk} (h : ∀ s H c cl fp, SIk (C.blk scope s H c cl fp) tg e m) : ∃ t : TI, (∀ s H c cl fp, PI (Blk C.X scope s H c cl fp) tg e t) ∧ ∀ (g : Sg) (r : Env) (σ : L2.St) (F : Fp) (R : It → Hp → Prop), RE C.Z C.B C.T g r σ F → (∀ y r', m r ≠ .ex y r') →
    POk C g F σ (fun k g' F' => ∀ J, k.ks = [] ∧ WalkK C g' k.ws J → R J g'.H) (m r) → t σ g.H R := by
  refine ⟨fun σ H Q => ∀ s H0 c cl fp, (h s H0 c cl fp).choose σ H Q, fun s H c cl fp => ⟨fun pins s1 σ H1 Q I q => ?_⟩, fun g r σ F Q re hx k s H c cl fp => ?_⟩
  · exact (h s H c cl fp).choose_spec.1.run pins s1 σ H1 Q I (q s H c cl fp)
  · exact (h s H c cl fp).choose_spec.2 g r σ F Q re (POk.ctx (C := C) (C' := C.blk scope s H c cl fp) rfl rfl rfl rfl hx k)
def itkM (ma : Env → Res W) : Env → Res Wk := fun r => (ma r).bind fun w r1 => Res.of ((extW w).map fun ws => (⟨ws, []⟩ : Wk)) r1
theorem sik_v {tg a : Expr} {ma : Env → Res W} (ha : SE C a ma) : SIk C tg a (itkM ma) := by
  obtain ⟨t, p, i⟩ := ha
  refine ⟨_, PI.or (pi_list p) (pi_tup p), fun g ρ σ F R re k => ?_⟩
  unfold itkM at k
  cases ev : ma ρ with
  | bad => rw [ev] at k; exact False.elim k
  | ex x r1 => rw [ev] at k; exact .inl (i g ρ σ F _ re (by rw [ev]; exact k))
  | ok x r1 =>
    rw [ev] at k
    have k : POk C g F σ _ (Res.of ((extW x).map fun ws => (⟨ws, []⟩ : Wk)) r1) := k
    obtain ⟨kw, hk, q⟩ := k.of'
    obtain ⟨ws, hws, rfl⟩ := Option.map_eq_some_iff.mp hk
    cases x with
    | lis us =>
      obtain rfl : us = ws := Option.some.inj hws
      refine .inl (i g ρ σ F _ re ?_)
      rw [ev]
      intro g1 F1 t1 re1 v rv
      obtain ⟨p, xs, rfl, hq, rw⟩ := BR.lst (ws := us) rv.br rfl
      refine ⟨p, rfl, ⟨xs, sqL_of hq⟩, q g1 F1 t1 re1 _ ⟨rfl, fun g2 F2 r2 σ2 j kp re2 => ?_⟩⟩
      obtain ⟨p', xs', ep, hq', rw'⟩ := BR.lst (ws := us) (rv.kp kp).br rfl
      cases ep
      have hs := sqL_of (K := C.X.K) hq'
      refine ⟨fun w hw => ?_, fun hj => ⟨xs', hs, by rw [hj, ← rw'.length]; exact Nat.le_refl _⟩⟩
      obtain ⟨y, hy, ry⟩ := rw'.get hw
      refine ⟨⟨xs', y, hs, hy⟩, fun z H' hz => ?_⟩
      obtain ⟨rfl, hz⟩ := hz
      have := hz xs' hs
      rw [hy] at this
      cases this
      exact ⟨g2, .refl g2 F2, re2, rfl, ry⟩
    | tup us =>
      obtain rfl : us = ws := Option.some.inj hws
      refine .inr (i g ρ σ F _ re ?_)
      rw [ev]
      intro g1 F1 t1 re1 v rv
      obtain ⟨p, xs, rfl, hq, rw⟩ := rv
      refine ⟨p, rfl, ⟨xs, hq.1⟩, q g1 F1 t1 re1 _ ⟨rfl, fun g2 F2 r2 σ2 j kp re2 => ?_⟩⟩
      have rv2 : RW C.Z g1 (.tup us) (.ref p) := ⟨p, xs, rfl, hq, rw⟩
      obtain ⟨p', xs', ep, ⟨hs, _⟩, rw'⟩ := rv2.kp kp
      cases ep
      refine ⟨fun w hw => ?_, fun hj => ⟨xs', hs, by rw [hj, ← rw'.length]; exact Nat.le_refl _⟩⟩
      obtain ⟨y, hy, ry⟩ := rw'.get hw
      refine ⟨⟨xs', y, hs, hy⟩, fun z H' hz => ?_⟩
      obtain ⟨rfl, hz⟩ := hz
      have := hz xs' hs
      rw [hy] at this
      cases this
      exact ⟨g2, .refl g2 F2, re2, rfl, ry⟩
    | _ => cases hws
/-- the list under way -/
structure Acc (C : Cz) (g1 : Sg) (F1 : Fp) (D : Addr) (σ : L2.St) (H : Hp) (g : Sg) (F : Fp) (r : Env) (acc : List W) : Prop where
  h : H = g.H
  go : Go g1 F1 g F
  at_ : ∃ xs, g.H D = some (.lst xs) ∧ RWs C.Z g acc xs
  tmp : Tmp g F [D]
  re : RE C.Z C.B C.T g r σ F
theorem Acc.step {g1 g g' : Sg} {F1 F F' : Fp} {D : Addr} {σ σ' : L2.St} {H : Hp} {r r' : Env} {acc : List W} (a : Acc C g1 F1 D σ H g F r acc) (t : Go g F g' F') (re : RE C.Z C.B C.T g' r' σ' F') : Acc C g1 F1 D σ' g'.H g' F' r' acc := by
  obtain ⟨xs, hD, rw⟩ := a.at_
  have ou : OU C.Z g (.l (acc.map U.d)) (.ref D) [D] := ⟨D, xs, [], rfl, hD, OUs.dat rw, rfl⟩
  exact ⟨rfl, a.go.trans t, ⟨xs, t.k D _ hD (a.tmp.nf D List.mem_cons_self), rw.kp (t.kp a.re)⟩, (ou.go a.re t a.tmp).2, re⟩
theorem Acc.kpD {g1 g : Sg} {F1 F : Fp} {D : Addr} {σ : L2.St} {H : Hp} {r : Env} {acc : List W} {xs ys : List V} (a : Acc C g1 F1 D σ H g F r acc) (hD : g.H D = some (.lst xs)) : Kp C.Z g ⟨upd g.H D (.lst ys), g.L⟩ := ⟨fun {b ys} h => by
    rcases h with (h | ⟨ob, h⟩) | h
    · exact .inl (.inl ((upd_ne (fun z => by rw [z, hD] at h; cases h)).trans h))
    · exact .inl (.inr ⟨ob, (upd_ne (fun z => by rw [z, hD] at h; cases h)).trans h⟩)
    · exact .inr h, fun b o l h => ⟨l, (upd_ne (fun z => a.tmp.nl D List.mem_cons_self (by rw [← z]; exact l))).trans h⟩, fun b o w h => (upd_ne (fun z => by rw [z, hD] at h; cases h)).trans h⟩
/-- one more -/
theorem Acc.app {g1 g : Sg} {F1 F : Fp} {D : Addr} {σ : L2.St} {H : Hp} {r : Env} {acc : List W} {u : W} {v : V} {xs : List V} (h1 : g1.H D = none) (a : Acc C g1 F1 D σ H g F r acc) (hD : g.H D = some (.lst xs)) (rv : RW C.Z g u v) (rws : RWs C.Z g acc xs) :
    Acc C g1 F1 D σ (upd g.H D (.lst (xs ++ [v]))) ⟨upd g.H D (.lst (xs ++ [v])), g.L⟩ F r (acc ++ [u]) := by
  have kp : Kp C.Z g ⟨upd g.H D (.lst (xs ++ [v])), g.L⟩ := a.kpD hD
  have tt := a.go
  refine ⟨rfl, ⟨tt.l, fun b o h n => (upd_ne (fun z => by rw [z, h1] at h; cases h)).trans (tt.k b o h n), fun b h => ?_, tt.n, tt.s⟩, ⟨_, upd_same, (rws.kp kp).append ⟨v, [], rfl, rv.kp kp, rfl⟩⟩, ⟨a.tmp.nod, a.tmp.nl, a.tmp.nf⟩, ?_⟩
  · by_cases hb : b = D
    · rw [hb]; exact h1
    · have h : upd g.H D (.lst (xs ++ [v])) b = none := h
      rw [upd_ne hb] at h
      exact tt.a b h
  · exact a.re.keep kp (fun j b m => upd_ne (fun z => a.tmp.nf D List.mem_cons_self j (by rw [← z]; exact m))) (fun j b m => a.re.nl j b m) (fun b l => by
      obtain ⟨o, ho⟩ := a.re.la b l
      exact ⟨o, (upd_ne (fun z => a.tmp.nl D List.mem_cons_self (by rw [← z]; exact l))).trans ho⟩)
/-- wiped once more -/
theorem re_wipe {g : Sg} {F : Fp} {r : Env} {σ σ2 : L2.St} {own : List Nat} (hlt : ∀ v ∈ own, v < σ.length) (hw : L2.wipe σ2 own = L2.wipe σ own) (re : RE C.Z C.B C.T g r σ2 F) : RE C.Z C.B C.T g (FM.wipe r own) (L2.wipe σ own) (F.wipe own) := by
  have hl2 : σ2.length = σ.length := by
    have h1 := congrArg List.length hw
    rw [L2.wipe_length, L2.wipe_length] at h1
    exact h1
  have rw := re.wipe (vs := own) fun v hv => by rw [re.len, hl2]; exact hlt v hv
  refine rw.sig (by rw [L2.wipe_length, hl2]) fun j x hx => ?_
  by_cases hj : j ∈ own
  · exact .inl (wipe_at_no r hj hx)
  · refine .inr ?_
    have h1 : (L2.wipe σ2 own)[j]? = (L2.wipe σ own)[j]? := by rw [hw]
    rw [wipe_at (vs := own) (σ := σ2), if_neg hj] at h1
    exact h1.symm
theorem wipe_sub (σ : L2.St) {vs us : List Nat} (h : ∀ i ∈ us, i ∈ vs) : L2.wipe (L2.wipe σ us) vs = L2.wipe σ vs := by
  refine List.ext_getElem? fun j => ?_
  rw [wipe_at, wipe_at, wipe_at]
  by_cases hj : j ∈ vs
  · rw [if_pos hj, if_pos hj]
    by_cases hu : j ∈ us
    · rw [if_pos hu, Option.map_map]; rfl
    · rw [if_neg hu]
  · rw [if_neg hj, if_neg hj, if_neg (fun z => hj (h j z))]
variable {tg : TG} {tt : TT} {te : TE} {ig : IG} {own : List Nat} {mt : Option (Env → Res Bool)} {elt : Env → Res W}
/-- the inner loop -/
theorem lc_in (ig_ : ∀ (g : Sg) (w : W) (v : V) (r r' : Env) (σ : L2.St) (F : Fp) (Q : L2.St → Hp → Prop), RE C.Z C.B C.T g r σ F → RW C.Z g w v → bindG ig w r = some r' → (∀ σ' F', RE C.Z C.B C.T g r' σ' F' → Go g F g F' → (∀ vs, (∀ i ∈ slotsG ig, i ∈ vs) → L2.wipe σ' vs = L2.wipe σ vs) → Q σ' g.H) → tg v σ g.H Q)
    (it : ∀ (g : Sg) (r : Env) (σ : L2.St) (F : Fp) (Q : Bool → Hp → Prop), RE C.Z C.B C.T g r σ F → (∀ y r', tstM mt r ≠ .ex y r') → POk C g F σ (fun b g' _ => Q b g'.H) (tstM mt r) → tt σ g.H Q)
    (ie : ∀ (g : Sg) (r : Env) (σ : L2.St) (F : Fp) (Q : VK), RE C.Z C.B C.T g r σ F → (∀ y r', elt r ≠ .ex y r') → POk C g F σ (fun w g' _ => ∀ v, RW C.Z g' w v → Q v g'.H) (elt r) → te σ g.H Q)
    (ho : ∀ i ∈ slotsG ig, i ∈ own) {g1 : Sg} {F1 : Fp} {D : Addr} (h1 : g1.H D = none) {σ : L2.St} (hlt : ∀ v ∈ own, v < σ.length) {k : Wk} {J : It} (hks : k.ks = []) {rE : Env} {pre us : List W} (hz : (pre ++ us).length ≤ size)
    {g : Sg} {F : Fp} {r : Env} (wk : WalkK C g k.ws J) (a : Acc C g1 F1 D σ g.H g F r pre) (ec : compL k own (turnM elt ig mt) k.ws (FM.wipe r own) = .ok us rE) {Nx : Hp → Prop}
    (fin : ∀ g' F', Acc C g1 F1 D (L2.wipe σ own) g'.H g' F' rE (pre ++ us) → Nx g'.H) :
    ∃ W1 : Nat → Nat → Hp → Prop, (∃ m, W1 0 m g.H) ∧ ∀ j m H, W1 j m H → (J.stop j H ∧ Nx H) ∨ (J.go j H ∧ ∃ Nx1 : Hp → Prop, (∀ H', Nx1 H' → ∃ m', m' < m ∧ W1 (j + 1) m' H') ∧ ∀ x H', J.yld j H x H' → tg x (L2.wipe σ own) H' fun σ3 H5 => L2.wipe σ3 own = L2.wipe σ own ∧ tt σ3 H5 fun b H6 =>
        if b = true then te σ3 H6 fun y H7 => ∃ acc, H7 D = some (.lst acc) ∧ acc.length < sizeLine ∧ Nx1 (upd H7 D (.lst (acc ++ [y]))) else Nx1 H6) := by
  have still : ∀ r, k.still r = true := fun r => by unfold Wk.still; rw [hks]; rfl
  have aW : Acc C g1 F1 D (L2.wipe σ own) g.H g (F.wipe own) (FM.wipe r own) pre := a.step (Go.wipeF own) (re_wipe hlt rfl a.re)
  refine ⟨fun j m H => ∃ (g' : Sg) (F' : Fp) (r' : Env) (acc rest : List W), Kp C.Z g g' ∧ Acc C g1 F1 D (L2.wipe σ own) H g' F' r' acc ∧ m = k.ws.length - j ∧ j ≤ k.ws.length ∧ compL k own (turnM elt ig mt) (k.ws.drop j) r' = .ok rest rE ∧ acc ++ rest = pre ++ us,
    ⟨_, g, F.wipe own, _, pre, us, .refl, aW, rfl, Nat.zero_le _, ec, rfl⟩, ?_⟩
  rintro j m H ⟨g', F', r', acc, rest, kp, aI, rfl, hi, ec, hws⟩
  obtain rfl := aI.h
  by_cases hj : j < k.ws.length
  · have ed : k.ws.drop j = k.ws[j] :: k.ws.drop (j + 1) := List.drop_eq_getElem_cons hj
    rw [ed] at ec
    simp only [compL, still, if_true] at ec
    obtain ⟨wy, _⟩ := wk g' F' r' _ j kp aI.re
    obtain ⟨hgo, hy⟩ := wy k.ws[j] (by simp [hj])
    refine .inr ⟨hgo, _, fun H' hN => ⟨k.ws.length - (j + 1), by omega, hN⟩, fun x H' hx => ?_⟩
    obtain ⟨g2, t2, re2, rfl, r2⟩ := hy x H' hx
    cases hb : bindG ig k.ws[j] r' with
    | none => simp only [turnM, hb] at ec; cases ec
    | some rb =>
      simp only [turnM, hb] at ec
      refine ig_ g2 k.ws[j] x _ rb _ F' _ re2 r2 hb fun σ2 F2 re3 t3 hw => ?_
      have hw' : L2.wipe σ2 own = L2.wipe σ own := by rw [hw own ho]; exact lwipe_wipe σ own
      refine ⟨hw', ?_⟩
      have hx1 : ∀ y r', tstM mt rb ≠ .ex y r' := fun y r' e => by rw [e] at ec; cases ec
      refine it g2 rb σ2 F2 _ re3 hx1 ?_
      cases et : tstM mt rb with
      | bad => rw [et] at ec; cases ec
      | ex y r' => exact absurd et (hx1 y r')
      | ok c r3 =>
        rw [et] at ec
        intro g3 F3 t4 re4
        have tI3 : Go g' F' g3 F3 := (t2.trans t3).trans t4
        cases c with
        | true =>
          refine iteT ?_
          have hx2 : ∀ y r', elt r3 ≠ .ex y r' := fun y r' e => by
            simp only [Res.bind, if_true, e] at ec; cases ec
          refine ie g3 r3 σ2 F3 _ re4 hx2 ?_
          cases ee : elt r3 with
          | bad => simp only [Res.bind, if_true, ee] at ec; cases ec
          | ex y r' => exact absurd ee (hx2 y r')
          | ok u r4 =>
            simp only [Res.bind, if_true, ee] at ec
            intro g4 F4 t5 re5 v rv
            have tI4 := tI3.trans t5
            have a4 := aI.step (tI4.trans (Go.wipeF own)) (re_wipe hlt hw' re5)
            obtain ⟨xs, hD4, rws⟩ := a4.at_
            cases eT : compL k own (turnM elt ig mt) (k.ws.drop (j + 1)) (FM.wipe r4 own) with
            | bad => rw [eT] at ec; cases ec
            | ex _ _ => rw [eT] at ec; cases ec
            | ok vs r5 =>
              rw [eT] at ec
              cases ec
              have aA := a4.app h1 hD4 rv rws
              refine ⟨xs, hD4, ?_, _, _, _, acc ++ [u], vs, (kp.trans (tI4.kp aI.re)).trans ?_, aA, rfl, hj, eT, by rw [List.append_assoc]; exact hws⟩
              · have hl := congrArg List.length hws
                simp only [List.length_append, List.length_cons] at hl hz
                rw [← rws.length]
                exact sizeLine_lt (by omega)
              · exact a4.kpD hD4
        | false =>
          refine iteF ?_
          simp only [Res.bind, Bool.false_eq_true, if_false] at ec
          cases eT : compL k own (turnM elt ig mt) (k.ws.drop (j + 1)) (FM.wipe r3 own) with
          | bad => rw [eT] at ec; cases ec
          | ex _ _ => rw [eT] at ec; cases ec
          | ok vs r5 =>
            rw [eT] at ec
            cases ec
            exact ⟨g3, F3.wipe own, _, acc, _, kp.trans (tI3.kp aI.re), aI.step (tI3.trans (Go.wipeF own)) (re_wipe hlt hw' re4), rfl, hj, eT, hws⟩
  · have hje : j = k.ws.length := by omega
    subst hje
    rw [List.drop_eq_nil_of_le (Nat.le_refl _)] at ec
    simp only [compL, still, if_true] at ec
    cases ec
    obtain ⟨_, wst⟩ := wk g' F' _ _ k.ws.length kp aI.re
    rw [List.append_nil] at hws
    exact .inl ⟨wst rfl, fin g' F' (by rw [← hws]; exact aI)⟩
def turnM2 (elt : Env → Res W) (ig : IG) (mt : Option (Env → Res Bool)) (ig1 : IG) (m1 : Env → Res W) (mt1 : Option (Env → Res Bool)) (own1 : List Nat) (w : W) (r : Env) : Res (List W) := match bindG ig w r with
  | none => .bad
  | some r1 => (tstM mt r1).bind fun b r2 => if b then (m1 r2).bind fun u r3 => (match extW u with
      | some ws => compL ⟨ws, []⟩ own1 (turnM elt ig1 mt1) ws (FM.wipe r3 own1)
      | none => .bad) else .ok [] r2
def lcM2 (elt : Env → Res W) (ig : IG) (mi : Env → Res Wk) (mt : Option (Env → Res Bool)) (ig1 : IG) (m1 : Env → Res W) (mt1 : Option (Env → Res Bool)) (own own1 : List Nat) : Env → Res (List W) := fun r => (mi r).bind fun k r1 => if Nat.ble k.ws.length size && ownOk r1 own && k.ks.all (fun q => !own.any (Nat.beq q.1)) then (match compL2 k own (turnM2 elt ig mt ig1 m1 mt1 own1) k.ws (FM.wipe r1 own) with
    | .ok ws r2 => if Nat.ble ws.length size then .ok ws (FM.back r1 r2 own) else .bad
    | _ => .bad) else .bad
theorem lc2_imp {wi wi1 : TI} {tg1 : TG} {tt1 : TT} {ig1 : IG} {own1 : List Nat} {mi : Env → Res Wk} {m1 : Env → Res W} {mt1 : Option (Env → Res Bool)}
    (ii : ∀ (g : Sg) (r : Env) (σ : L2.St) (F : Fp) (R : It → Hp → Prop), RE C.Z C.B C.T g r σ F → POk C g F σ (fun k g' F' => ∀ J, WalkR C g' F' σ k J → R J g'.H) (mi r) → wi σ g.H R)
    (ig_ : ∀ (g : Sg) (w : W) (v : V) (r r' : Env) (σ : L2.St) (F : Fp) (Q : L2.St → Hp → Prop), RE C.Z C.B C.T g r σ F → RW C.Z g w v → bindG ig w r = some r' → (∀ σ' F', RE C.Z C.B C.T g r' σ' F' → Go g F g F' → (∀ vs, (∀ i ∈ slotsG ig, i ∈ vs) → L2.wipe σ' vs = L2.wipe σ vs) → Q σ' g.H) → tg v σ g.H Q)
    (it : ∀ (g : Sg) (r : Env) (σ : L2.St) (F : Fp) (Q : Bool → Hp → Prop), RE C.Z C.B C.T g r σ F → (∀ y r', tstM mt r ≠ .ex y r') → POk C g F σ (fun b g' _ => Q b g'.H) (tstM mt r) → tt σ g.H Q)
    (ii1 : ∀ (g : Sg) (r : Env) (σ : L2.St) (F : Fp) (R : It → Hp → Prop), RE C.Z C.B C.T g r σ F → (∀ y r', itkM m1 r ≠ .ex y r') → POk C g F σ (fun k g' F' => ∀ J, k.ks = [] ∧ WalkK C g' k.ws J → R J g'.H) (itkM m1 r) → wi1 σ g.H R)
    (ig1_ : ∀ (g : Sg) (w : W) (v : V) (r r' : Env) (σ : L2.St) (F : Fp) (Q : L2.St → Hp → Prop), RE C.Z C.B C.T g r σ F → RW C.Z g w v → bindG ig1 w r = some r' → (∀ σ' F', RE C.Z C.B C.T g r' σ' F' → Go g F g F' → (∀ vs, (∀ i ∈ slotsG ig1, i ∈ vs) → L2.wipe σ' vs = L2.wipe σ vs) → Q σ' g.H) → tg1 v σ g.H Q)
    (it1 : ∀ (g : Sg) (r : Env) (σ : L2.St) (F : Fp) (Q : Bool → Hp → Prop), RE C.Z C.B C.T g r σ F → (∀ y r', tstM mt1 r ≠ .ex y r') → POk C g F σ (fun b g' _ => Q b g'.H) (tstM mt1 r) → tt1 σ g.H Q)
    (ie : ∀ (g : Sg) (r : Env) (σ : L2.St) (F : Fp) (Q : VK), RE C.Z C.B C.T g r σ F → (∀ y r', elt r ≠ .ex y r') → POk C g F σ (fun w g' _ => ∀ v, RW C.Z g' w v → Q v g'.H) (elt r) → te σ g.H Q)
    (ho : ∀ i ∈ slotsG ig, i ∈ own) (ho1 : ∀ i ∈ slotsG ig1, i ∈ own1) (hoo : ∀ i ∈ own1, i ∈ own) (g : Sg) (r : Env) (σ : L2.St) (F : Fp) (Q : VK) (re : RE C.Z C.B C.T g r σ F)
    (k : POk C g F σ (fun ws g' F' => ∀ v fp, OU C.Z g' (.l (ws.map U.d)) v fp → Tmp g' F' fp → Src g F fp → Q v g'.H) (lcM2 elt ig mi mt ig1 m1 mt1 own own1 r)) : tLc2 wi tg tt wi1 tg1 tt1 te own own1 σ g.H Q := by
  refine ii g r σ F _ re (POk.seq0 (show POk C g F σ _ ((mi r).bind _) from k) fun kw r1 g1 F1 t1 re1 k1 J wk => ?_)
  have k1 : POk C g F σ (fun ws g' F' => ∀ v fp, OU C.Z g' (.l (ws.map U.d)) v fp → Tmp g' F' fp → Src g F fp → Q v g'.H) (if Nat.ble kw.ws.length size && ownOk r1 own && kw.ks.all (fun q => !own.any (Nat.beq q.1)) then (match compL2 kw own (turnM2 elt ig mt ig1 m1 mt1 own1) kw.ws (FM.wipe r1 own) with
    | .ok ws r2 => if Nat.ble ws.length size then .ok ws (FM.back r1 r2 own) else .bad
    | _ => .bad) else .bad) := k1
  split at k1
  · rename_i hz
    rw [Bool.and_eq_true, Bool.and_eq_true] at hz
    obtain ⟨⟨hz, hown⟩, hks⟩ := hz
    have same : Same kw.ks σ (L2.wipe σ own) := fun q hq => by
      have h1 := List.all_eq_true.mp hks q hq
      rw [wipe_at, if_neg]
      intro hm
      have : own.any (Nat.beq q.1) = true := List.any_eq_true.mpr ⟨q.1, hm, Nat.beq_refl _⟩
      rw [this] at h1; cases h1
    cases ec : compL2 kw own (turnM2 elt ig mt ig1 m1 mt1 own1) kw.ws (FM.wipe r1 own) with
    | bad => rw [ec] at k1; exact False.elim k1
    | ex _ _ => rw [ec] at k1; exact False.elim k1
    | ok ws rE =>
    rw [ec] at k1
    have k1 : POk C g F σ (fun ws g' F' => ∀ v fp, OU C.Z g' (.l (ws.map U.d)) v fp → Tmp g' F' fp → Src g F fp → Q v g'.H) (if Nat.ble ws.length size then .ok ws (FM.back r1 rE own) else .bad) := k1
    split at k1
    · rename_i hsz
      have hsz : ws.length ≤ size := Nat.le_of_ble_eq_true hsz
      intro D hD
      have hlt : ∀ v ∈ own, v < σ.length := fun v hv => by
        obtain ⟨x, hx, _⟩ := ownOk_at hown v hv
        rw [← re1.len]; exact lt_of_get hx
      have reW := re_wipe hlt rfl re1
      obtain ⟨reD, tD⟩ := reW.lay (o := .lst []) hD
      have xD := tmp_new reW hD
      refine ⟨fun i m H => ∃ (g' : Sg) (F' : Fp) (r' : Env) (acc rest : List W), Acc C g1 F1 D (L2.wipe σ own) H g' F' r' acc ∧ m = kw.ws.length - i ∧ i ≤ kw.ws.length ∧ compL2 kw own (turnM2 elt ig mt ig1 m1 mt1 own1) (kw.ws.drop i) r' = .ok rest rE ∧ acc ++ rest = ws,
        ⟨_, ⟨upd g1.H D (.lst []), g1.L⟩, F1.wipe own, _, [], ws, ⟨rfl, (Go.wipeF own).trans tD, ⟨[], upd_same, rfl⟩, ⟨xD.nod, xD.nl, xD.nf⟩, reD⟩, rfl, Nat.zero_le _, ec, rfl⟩, ?_⟩
      rintro i m H ⟨g', F', r', acc, rest, aI, rfl, hi, ec, hws⟩
      obtain rfl := aI.h
      by_cases hj : i < kw.ws.length
      · have ed : kw.ws.drop i = kw.ws[i] :: kw.ws.drop (i + 1) := List.drop_eq_getElem_cons hj
        rw [ed] at ec
        simp only [compL2] at ec
        split at ec
        · rename_i hst
          obtain ⟨wy, _⟩ := wk g' F' r' _ i aI.go aI.re same hst
          obtain ⟨hgo, hy⟩ := wy kw.ws[i] (by simp [hj])
          refine .inr ⟨hgo, _, fun H' hN => ⟨kw.ws.length - (i + 1), by omega, hN⟩, fun x H' hx => ?_⟩
          obtain ⟨g2, t2, re2, rfl, r2⟩ := hy x H' hx
          cases hb : bindG ig kw.ws[i] r' with
          | none => simp only [turnM2, hb] at ec; cases ec
          | some rb =>
            simp only [turnM2, hb] at ec
            refine ig_ g2 kw.ws[i] x _ rb _ F' _ re2 r2 hb fun σ2 F2 re3 t3 hw => ?_
            have hw' : L2.wipe σ2 own = L2.wipe σ own := by rw [hw own ho]; exact lwipe_wipe σ own
            refine ⟨hw', ?_⟩
            have hl2 : σ2.length = σ.length := by
              have h1 := congrArg List.length hw'
              rw [L2.wipe_length, L2.wipe_length] at h1
              exact h1
            have hx1 : ∀ y r', tstM mt rb ≠ .ex y r' := fun y r' e => by rw [e] at ec; cases ec
            refine it g2 rb σ2 F2 _ re3 hx1 ?_
            cases et : tstM mt rb with
            | bad => rw [et] at ec; cases ec
            | ex y r' => exact absurd et (hx1 y r')
            | ok c r3 =>
              rw [et] at ec
              intro g3 F3 t4 re4
              have tI3 : Go g' F' g3 F3 := (t2.trans t3).trans t4
              cases c with
              | true =>
                refine iteT ?_
                cases e1 : m1 r3 with
                | bad => simp only [Res.bind, if_true, e1] at ec; cases ec
                | ex y r' => simp only [Res.bind, if_true, e1] at ec; cases ec
                | ok u r4 =>
                  simp only [Res.bind, if_true, e1] at ec
                  cases eu : extW u with
                  | none => simp only [eu] at ec; cases ec
                  | some us =>
                    simp only [eu] at ec
                    have hit : itkM m1 r3 = .ok ⟨us, []⟩ r4 := by unfold itkM; rw [e1]; simp only [Res.bind, eu, Option.map, Res.of]
                    refine ii1 g3 r3 σ2 F3 _ re4 (fun y r' e => by rw [hit] at e; cases e) ?_
                    rw [hit]
                    intro g4 F4 t5 re5 J1 hJ
                    cases e2 : compL ⟨us, []⟩ own1 (turnM elt ig1 mt1) us (FM.wipe r4 own1) with
                    | bad => rw [e2] at ec; cases ec
                    | ex _ _ => rw [e2] at ec; cases ec
                    | ok vs rE2 =>
                      rw [e2] at ec
                      simp only at ec
                      cases eT : compL2 kw own (turnM2 elt ig mt ig1 m1 mt1 own1) (kw.ws.drop (i + 1)) (FM.wipe rE2 own) with
                      | bad => rw [eT] at ec; cases ec
                      | ex _ _ => rw [eT] at ec; cases ec
                      | ok vs2 r5 =>
                        rw [eT] at ec
                        cases ec
                        have a4 := aI.step (tI3.trans t5) re5
                        refine lc_in (k := ⟨us, []⟩) ig1_ it1 ie ho1 hD (fun v hv => by rw [hl2]; exact hlt v (hoo v hv)) rfl ?_ hJ.2 a4 e2 fun g5 F5 a5 => ?_
                        · have hl := congrArg List.length hws
                          simp only [List.length_append] at hl ⊢
                          omega
                        · refine ⟨g5, F5.wipe own, _, acc ++ vs, vs2, a5.step (Go.wipeF own) (re_wipe hlt ?_ a5.re), rfl, hj, eT, by rw [List.append_assoc]; exact hws⟩
                          rw [wipe_sub σ2 hoo]; exact hw'
              | false =>
                refine iteF ?_
                simp only [Res.bind, Bool.false_eq_true, if_false] at ec
                cases eT : compL2 kw own (turnM2 elt ig mt ig1 m1 mt1 own1) (kw.ws.drop (i + 1)) (FM.wipe r3 own) with
                | bad => rw [eT] at ec; cases ec
                | ex _ _ => rw [eT] at ec; cases ec
                | ok vs r5 =>
                  rw [eT] at ec
                  cases ec
                  exact ⟨g3, F3.wipe own, _, acc, _, aI.step (tI3.trans (Go.wipeF own)) (re_wipe hlt hw' re4), rfl, hj, eT, hws⟩
        · cases ec
      · have hie : i = kw.ws.length := by omega
        subst hie
        rw [List.drop_eq_nil_of_le (Nat.le_refl _)] at ec
        simp only [compL2] at ec
        split at ec
        · rename_i hst
          cases ec
          obtain ⟨_, wst⟩ := wk g' F' _ _ kw.ws.length aI.go aI.re same hst
          refine .inl ⟨wst rfl, ?_⟩
          rw [List.append_nil] at hws
          subst hws
          obtain ⟨xs, hDI, rws⟩ := aI.at_
          have tE := (t1.trans aI.go).trans (Go.wipeF (g := g') (F := F') own)
          refine k1 g' (F'.wipe own) tE (RE.back re1 aI.go hown aI.re) (.ref D) [D] ⟨D, xs, [], rfl, hDI, OUs.dat rws, rfl⟩ ⟨aI.tmp.nod, aI.tmp.nl, fun b m j hj => aI.tmp.nf b m j (Fp.wipe_mem hj).1⟩ fun b m => ?_
          rw [List.mem_singleton.mp m]
          exact .inl (t1.a _ hD)
        · cases ec
    · exact False.elim k1
  · exact False.elim k1
theorem su_comp2 {elt tg iter tg1 iter1 : Expr} {ifs ifs1 : List Expr} {scope : Scope} {own : List (Str × Nat)} {own1 : List Nat} {ig ig1 : IG} {mi : Env → Res Wk} {m1 : Env → Res W} {mt mt1 : Option (Env → Res Bool)} {me : Env → Res W} (hc : C.X.calm = true) (hN : C.X.N.Nodup) (hi : SI C tg iter mi) (ok : BlkOk C.X.N C.X.env.scope scope own)
    (hg : ∀ s H c cl fp, SG (C.blk scope s H c cl fp) tg ig) (ht : TestOk C scope ifs mt) (hi1 : ∀ s H c cl fp, SE (C.blk scope s H c cl fp) iter1 m1) (hg1 : ∀ s H c cl fp, SG (C.blk scope s H c cl fp) tg1 ig1) (ht1 : TestOk C scope ifs1 mt1) (he : ∀ s H c cl fp, SE (C.blk scope s H c cl fp) elt me)
    (hs : ∀ x, foldedSetIterable iter C.X.env x = pure x) (hs1 : ∀ env x, foldedSetIterable iter1 env x = pure x) (ho : ∀ i ∈ slotsG ig, i ∈ own.map (·.2)) (ho1 : ∀ i ∈ slotsG ig1, i ∈ own1) (hoo : ∀ i ∈ own1, i ∈ own.map (·.2)) :
    SU C (.ListComp elt [⟨tg, iter, ifs, 0⟩, ⟨tg1, iter1, ifs1, 0⟩] scope pos) (fun r => (lcM2 me ig mi mt ig1 m1 mt1 (own.map (·.2)) own1 r).bind fun ws r1 => .ok (.l (ws.map U.d)) r1) := by
  obtain ⟨ti, pi, ii⟩ := hi
  obtain ⟨tg_, pg, ig_⟩ := blk_g hg
  obtain ⟨tt, pt, it⟩ := blk_ts ht
  obtain ⟨ti1, pi1, ii1⟩ := blk_i (tg := tg1) fun s H c cl fp => sik_v (hi1 s H c cl fp)
  obtain ⟨tg1_, pg1, ig1_⟩ := blk_g hg1
  obtain ⟨tt1, pt1, it1⟩ := blk_ts ht1
  obtain ⟨te, pe, ie⟩ := blk_e he
  refine ⟨_, pe_lc2 hc hN pi ok hoo pg pt pi1 pg1 pt1 pe hs hs1, fun g r σ F Q re k => lc2_imp ii ig_ it ii1 ig1_ it1 ie ho ho1 hoo g r σ F Q re ?_⟩
  exact k.seq0 fun ws r1 g1 F1 t1 re1 k1 => k1 g1 F1 t1 re1
end
end FM


set_option Elab.async false
set_option linter.all false
set_option maxRecDepth 100000
set_option maxHeartbeats 2000000
namespace FM
open PySem L2
section
variable {C : Cz} {a b d e : Expr} {es : List Expr} {pos : Pos} {ma mb md : Env → Res W} {va vb vd : Env → Res Arg} {mt mu : Env → Res Bool} {mx : Env → Res U}
/-- a value that is no comprehension -/
def notComp : Expr → Bool
  | .ListComp _ _ _ _ => false
  | .SetComp _ _ _ _ => false
  | .DictComp _ _ _ _ _ => false
  | _ => true
theorem sw_no {tg : Option Expr} {l : Nat} {env : PySem.Env} (h : notComp e = true) : swapsWith e tg l env = pure false := by
  cases e <;> first | rfl | cases h
theorem ss_exp (h : SE C e ma) (hn : notComp e = true) : SS C (.Expr e pos) (fun r => (ma r).toS fun _ r1 => .nx r1) := by
  obtain ⟨t, p, i⟩ := h
  refine ⟨_, ps_expr p (sw_no hn), fun g r σ F D re dk => ?_⟩
  exact i g r σ F _ re (dk.seq fun w r1 g1 F1 t1 re1 k1 v rv => k1 g1 F1 σ (.refl g1 F1) re1)
theorem DOk.seq0 {g : Sg} {F : Fp} {σ : L2.St} {α : Type} {D : Ends} {P : α → Sg → Fp → Prop} {f : α → Env → SRes} : ∀ {x : Res α}, DOk C D g F (x.toS f) →
    (∀ a r1 g1 F1, Go g F g1 F1 → RE C.Z C.B C.T g1 r1 σ F1 → DOk C D g F (f a r1) → P a g1 F1) → POk C g F σ P x
  | .ok a r, h, hk => fun g' F' t' e => hk a r g' F' t' e h
  | .ex x r, h, _ => h σ
  | .bad, h, _ => h
theorem ss_ret (h : SU C e mx) : SS C (.Return (some e) pos) (fun r => (mx r).toS fun u r1 => .rt u r1) := by
  obtain ⟨t, p, i⟩ := h
  refine ⟨_, ps_ret p, fun g r σ F D re dk => ?_⟩
  exact i g r σ F _ re (dk.seq0 fun u r1 g1 F1 t1 re1 k1 v fp o x s => k1 g1 F1 σ v fp t1 re1 o x s)
def asgM (ig : IG) (ma : Env → Res W) : Env → SRes := fun r => (ma r).toS fun w r1 => match bindG ig w r1 with
    | some r2 => .nx r2
    | none => .bad
theorem ss_asg {tg : Expr} {ig : IG} (h : SE C e ma) (hg : SG C tg ig) (hst : notStar tg = true) (hs : swapsWithSole [tg] e pos.line C.X.env = pure false) (hw : swappedStores [tg] e C.X.env = pure none) : SS C (.Assign [tg] e pos) (asgM ig ma) := by
  obtain ⟨t, p, i⟩ := h
  obtain ⟨tg_, pg, ig_⟩ := hg
  refine ⟨_, ps_asg p pg hs hw (by rw [asg_star hst]; rfl), fun g r σ F D re dk => ?_⟩
  refine i g r σ F _ re (DOk.seq (show DOk C D g F ((ma r).toS _) from dk) fun w r1 g1 F1 t1 re1 k1 v rv => ?_)
  cases hb : bindG ig w r1 with
  | none => simp only [hb] at k1; exact False.elim k1
  | some r2 =>
    simp only [hb] at k1
    exact ig_ g1 w v r1 r2 σ F1 _ re1 rv hb fun σ' F' re' t' _ => k1 g1 F' σ' t' re'
def ownM (i : Nat) (mx : Env → Res U) : Env → SRes := fun r => (mx r).toS fun u r1 => match setV r1 i u with
    | some r2 => .nx r2
    | none => .bad
theorem ss_own {i : Nat} {x : Str} {npos : Pos} (hN : C.X.N.Nodup) (hi : C.X.N[i]? = some x) (hx : Loc C.X.env.scope x) (hf : C.X.fn x = true ∨ C.X.env.scope.names.lookup x = some .local) (h : SU C e mx) (hs : swapsWithSole [.Name x npos] e pos.line C.X.env = pure false) : SS C (.Assign [.Name x npos] e pos) (ownM i mx) := by
  obtain ⟨t, p, ii⟩ := h
  refine ⟨_, ps_asg p (pg_name hN hi hx hf) hs rfl (by rw [asg_star rfl]; rfl), fun g r σ F D re dk => ?_⟩
  refine ii g r σ F _ re (DOk.seq0 (show DOk C D g F ((mx r).toS _) from dk) fun u r1 g1 F1 t1 re1 k1 v fp o y s => ?_)
  cases hb : setV r1 i u with
  | none => simp only [hb] at k1; exact False.elim k1
  | some r2 =>
    simp only [hb] at k1
    obtain ⟨rfl, hlt⟩ := setV_eq hb
    exact k1 g1 _ _ (Go.bind re1 t1 s) (re1.bind hlt o y)
def parM (i j : Nat) (ma mb : Env → Res W) : Env → SRes := fun r => (ma r).toS fun x r1 => (mb r1).toS fun y r2 => match (setV r2 i (.d x)).bind fun r3 => setV r3 j (.d y) with
    | some r4 => .nx r4
    | none => .bad
theorem ss_par {i j : Nat} {x y : Str} {px py pt : Pos} {kt k2 pt2} (hc : C.X.calm = true) (hN : C.X.N.Nodup) (hi : C.X.N[i]? = some x) (hj : C.X.N[j]? = some y) (hij : i ≠ j) (hx : C.X.env.scope.names.lookup x = some .local) (hy : C.X.env.scope.names.lookup y = some .local)
    (hw : swappedStores [.Tuple [.Name x px, .Name y py] kt pt] (.Tuple [a, b] k2 pt2) C.X.env = pure (some [x, y])) (hsa : notStar a = true) (hsb : notStar b = true) (ha : SE C a ma) (hb : SE C b mb) :
    SS C (.Assign [.Tuple [.Name x px, .Name y py] kt pt] (.Tuple [a, b] k2 pt2) pos) (parM i j ma mb) := by
  obtain ⟨ta, pa, ia⟩ := ha
  obtain ⟨tb, pb, ib⟩ := hb
  refine ⟨_, ps_par hc hN hi hj hij hx hy (pa_cons pa (pa_cons pb pa_nil (star_ hsb)) (star_ hsa)) hw, fun g r σ F D re dk => ?_⟩
  refine ia g r σ F _ re (DOk.seq (show DOk C D g F ((ma r).toS _) from dk) fun w r1 g1 F1 t1 re1 k1 v rv => ?_)
  refine ib g1 r1 σ F1 _ re1 (DOk.seq (show DOk C D g1 F1 ((mb r1).toS _) from k1) fun u r2 g2 F2 t2 re2 k2 v2 rv2 => ?_)
  cases hs : (setV r2 i (.d w)).bind fun r3 => setV r3 j (.d u) with
  | none => simp only [hs] at k2; exact False.elim k2
  | some r4 =>
    simp only [hs] at k2
    obtain ⟨r3, h1, h2⟩ := Option.bind_eq_some_iff.mp hs
    obtain ⟨rfl, l1⟩ := setV_eq h1
    obtain ⟨rfl, l2⟩ := setV_eq h2
    have re3 := re2.bind (u := .d w) (v := v) (fp := []) l1 ⟨rfl, rv.kp (t2.kp re1)⟩ tmp_nil
    have re4 := re3.bind (u := .d u) (v := v2) (fp := []) l2 ⟨rfl, rv2⟩ tmp_nil
    exact ⟨v, v2, rfl, k2 g2 _ _ ((Go.set (fp := []) fun _ m => nomatch m).trans (Go.set (fp := []) fun _ m => nomatch m)) re4⟩
def parM2 (i j : Nat) (ma mb : Env → Res U) : Env → SRes := fun r => (ma r).toS fun x r1 => (mb r1).toS fun y r2 => match (setV r2 i x).bind fun r3 => setV r3 j y with
    | some r4 => .nx r4
    | none => .bad
theorem ss_par2 {i j : Nat} {x y : Str} {px py pt : Pos} {kt k2 pt2} {ma mb : Env → Res U} (hc : C.X.calm = true) (hN : C.X.N.Nodup) (hi : C.X.N[i]? = some x) (hj : C.X.N[j]? = some y) (hij : i ≠ j) (hx : C.X.env.scope.names.lookup x = some .local) (hy : C.X.env.scope.names.lookup y = some .local)
    (hw : swappedStores [.Tuple [.Name x px, .Name y py] kt pt] (.Tuple [a, b] k2 pt2) C.X.env = pure (some [x, y])) (hsa : notStar a = true) (hsb : notStar b = true) (ha : SU C a ma) (hb : SU C b mb) :
    SS C (.Assign [.Tuple [.Name x px, .Name y py] kt pt] (.Tuple [a, b] k2 pt2) pos) (parM2 i j ma mb) := by
  obtain ⟨ta, pa, ia⟩ := ha
  obtain ⟨tb, pb, ib⟩ := hb
  refine ⟨_, ps_par hc hN hi hj hij hx hy (pa_cons pa (pa_cons pb pa_nil (star_ hsb)) (star_ hsa)) hw, fun g r σ F D re dk => ?_⟩
  refine ia g r σ F _ re (DOk.seq0 (show DOk C D g F ((ma r).toS _) from dk) fun u r1 g1 F1 t1 re1 k1 v fp o tp sr => ?_)
  refine ib g1 r1 σ F1 _ re1 ?_
  cases hm : mb r1 with
  | bad => rw [hm] at k1; exact False.elim k1
  | ex z r2 => rw [hm] at k1; exact XOk.mono t1 (k1 σ)
  | ok u2 r2 =>
    rw [hm] at k1
    have k1 : DOk C D g F (match (setV r2 i u).bind fun r3 => setV r3 j u2 with
      | some r4 => .nx r4
      | none => .bad) := k1
    intro g2 F2 t2 re2 v2 fp2 o2 tp2 sr2
    cases hs : (setV r2 i u).bind fun r3 => setV r3 j u2 with
    | none => simp only [hs] at k1; exact False.elim k1
    | some r4 =>
      simp only [hs] at k1
      obtain ⟨r3, h1, h2⟩ := Option.bind_eq_some_iff.mp hs
      obtain ⟨rfl, l1⟩ := setV_eq h1
      obtain ⟨rfl, l2⟩ := setV_eq h2
      obtain ⟨o', tp'⟩ := o.go re1 t2 tp
      have dis : ∀ c ∈ fp2, c ∉ fp := fun c hc2 hc1 => by
        obtain ⟨ob, q, _⟩ := o.mu hc1
        rcases sr2 c hc2 with z | ⟨j, z⟩
        · rw [q] at z; cases z
        · exact tp.nf c hc1 j z
      have re3 := re2.bind (u := u) (v := v) (fp := fp) l1 o' tp'
      have tp3 : Tmp g2 (F2.set i fp) fp2 := ⟨tp2.nod, tp2.nl, fun c hc2 j' => by
        by_cases e : j' = i
        · subst e; rw [Fp.set_same]; exact dis c hc2
        · rw [Fp.set_ne e]; exact tp2.nf c hc2 j'⟩
      have re4 := re3.bind (u := u2) (v := v2) (fp := fp2) l2 o2 tp3
      exact ⟨v, v2, rfl, k1 g2 _ _ (Go.bind re3 (Go.bind re2 (t1.trans t2) sr) (sr2.mono t1)) re4⟩
theorem starB (h : notStar a = true) : (match (generalizing := false) a with | .Starred .. => true | _ => false) = false := by cases a <;> first | rfl | cases h
/-- x, y = a, b by names -/
theorem swap2 {x y : Str} {px py pt : Pos} {kt k2 pt2} {env : PySem.Env} (hk : env.scope.kind = .function) (hx : env.scope.names.lookup x = some .local) (hy : env.scope.names.lookup y = some .local) (hxy : x ≠ y) (hl : py.line = px.line)
    (hsa : notStar a = true) (hsb : notStar b = true) (hf : (foldedForSure 8 a && foldedForSure 8 b) = false) (hc : (constantsAlone 8 a && constantsAlone 8 b) = false) : swappedStores [.Tuple [.Name x px, .Name y py] kt pt] (.Tuple [a, b] k2 pt2) env = pure (some [x, y]) := by
  have hb : env.blockKind = .function := by unfold Env.blockKind; rw [hk]; rfl
  have kx : env.kindOf x = some .local := hx
  have ky : env.kindOf y = some .local := hy
  have s1 := starB hsa
  have s2 := starB hsb
  have e1 : (x == y) = false := beq_eq_false_iff_ne.mpr hxy
  have e2 : (y == x) = false := beq_eq_false_iff_ne.mpr (Ne.symm hxy)
  unfold swappedStores
  simp only [List.length_cons, List.length_nil, hb, List.any_cons, List.any_nil, s1, s2, List.filterMap_cons, List.filterMap_nil, kx, ky, Expr.pos, hl, List.all_cons, List.all_nil, Bool.and_true, hf, hc, List.head?_cons, Option.map_some, Option.getD_some, List.eraseDups_cons, List.filter_cons, List.filter_nil, e1, e2, beq_self_eq_true, Bool.and_self, if_true, Bool.true_and, List.eraseDups_nil, Bool.not_false, Bool.false_eq_true, if_false]
  rw [if_neg (by decide)]
  refine (if_neg ?_).trans (if_neg (by decide))
  rw [Bool.or_eq_true, Bool.or_eq_true]
  intro h
  rcases h with h | h | h
  · exact Bool.noConfusion (h.symm.trans s1)
  · exact Bool.noConfusion (h.symm.trans s2)
  · cases h
theorem OUs.dset {Z : Kx} {g : Sg} {w : W} {v : V} (h : RW Z g w v) : ∀ {us : List U} {xs : List V} {fp : List Addr} {ws : List W} (j : Nat), dats us = some ws → OUs Z g us xs fp → OUs Z g (us.set j (.d w)) (xs.set j v) fp
  | [], xs, fp, _, j, _, o => by obtain ⟨rfl, rfl⟩ := o; exact ⟨rfl, rfl⟩
  | u :: us, xs, fp, _, j, e, o => by
    obtain ⟨x, r, f1, f2, rfl, o1, o2, rfl⟩ := o
    cases u <;> first | (cases e; done) | skip
    obtain ⟨ws', e2, _⟩ := Option.map_eq_some_iff.mp e
    obtain ⟨rfl, o1⟩ := o1
    cases j with
    | zero => exact ⟨v, r, [], f2, rfl, ⟨rfl, h⟩, o2, rfl⟩
    | succ j => exact ⟨x, _, [], f2, rfl, ⟨rfl, o1⟩, OUs.dset h j e2 o2, rfl⟩
/-- name[k] = value, of a list whose items are data -/
def subM (i : Nat) (mb md : Env → Res W) : Env → SRes := fun r => (md r).toS fun v r1 => match lookU r1 i with
    | some (.l _) => (mb r1).toS fun n r2 => putS i v n r2
    | _ => .bad
theorem ss_sub {x : Str} {i : Nat} {npos pos' : Pos} (hN : C.X.N[i]? = some x) (hv : Vis C.X.env.scope x) (hdb : (x == ("__debug__" : Str)) = false) (hcd : (x == ("__classdict__" : Str)) = false) (hb : SE C b mb) (hd : SE C d md) (hn : notComp d = true) : SS C (.Assign [.Subscript (.Name x npos) b pos'] d pos) (subM i mb md) := by
  obtain ⟨tb, pb, ib⟩ := hb
  obtain ⟨td, pd, id⟩ := hd
  have pa := pe_var (pos := npos) hN hv hdb hcd
  have P : PS C.X (.Assign [.Subscript (.Name x npos) b pos'] d pos) (fun D σ H => td σ H fun v H1 => tVar i σ H1 fun x H2 => tb σ H2 fun y H3 => rSetL x y v H3 fun H4 => D.nx σ H4) := by
    refine ⟨fun pins s σ H D I h => ?_⟩
    refine wpAny_Assign_Subscript (thn (pd.run pins s σ H _ I h) fun r s1 ⟨v, H1, I1, rv, q1⟩ => thn (pa.run pins s1 σ H1 _ I1 q1) fun u s2 ⟨x, H2, I2, rx, q2⟩ => thn (pb.run pins s2 σ H2 _ I2 q2) fun iv s3 ⟨y, H3, I3, ry, q3⟩ => ?_) (sw_no hn)
    exact thn (set_list pins s3 σ H3 x y v u iv r _ I3 rx ry rv q3) fun _ s4 ⟨H4, I4, q4⟩ => ⟨σ, H4, I4, q4⟩
  refine ⟨_, P, fun g r σ F D re dk => ?_⟩
  refine id g r σ F _ re (DOk.seq (show DOk C D g F ((md r).toS _) from dk) fun wv r1 g1 F1 t1 re1 k1 v1 rv1 => ?_)
  cases hl1 : lookU r1 i with
  | none => simp only [hl1] at k1; exact False.elim k1
  | some u1 =>
    simp only [hl1] at k1
    cases u1 with
    | l us1 =>
      obtain ⟨v, _, _, _, hσ, _⟩ := re1.look hl1
      refine ⟨v, hσ, ?_⟩
      refine ib g1 r1 σ F1 _ re1 (DOk.seq (show DOk C D g1 F1 ((mb r1).toS _) from k1) fun wn r2 g2 F2 t2 re2 k2 v2 rv2 => ?_)
      unfold putS at k2
      cases hl : lookU r2 i with
      | none => simp only [hl] at k2; exact False.elim k2
      | some u =>
        simp only [hl] at k2
        cases u with
        | l us =>
          cases wn with
          | int n =>
            simp only [] at k2
            cases hj : ix us.length n with
            | none => simp only [hj] at k2; exact False.elim k2
            | some j =>
              cases hda : dats us with
              | none => simp only [hj, hda] at k2; exact False.elim k2
              | some ws =>
              simp only [hj, hda] at k2
              cases rv2
              obtain ⟨v', _, _, _, hσ2, p, xs, fs, rfl, hx, ou, hF⟩ := re2.look hl
              rw [hσ] at hσ2
              cases hσ2
              have rv1' := rv1.kp (t2.kp re1)
              obtain ⟨kp, _, kf⟩ := re2.chg (o := .lst (xs.set j v1)) hF
              have ou2 : OU C.Z ⟨upd g2.H p (.lst (xs.set j v1)), g2.L⟩ (.l (us.set j (.d wv))) (.ref p) (p :: fs) := ⟨p, xs.set j v1, fs, rfl, upd_same, OUs.dset (rv1'.kp kp) j hda (ou.kp kp kf), rfl⟩
              obtain ⟨r3, hp3, re3, t3⟩ := re2.mut hl hF hσ ou2
              simp only [hp3] at k2
              exact ⟨p, xs, n, j, rfl, rfl, hx, by rw [← ou.length]; exact (ix_N hj).1, k2 _ F2 σ t3 re3⟩
          | _ => exact False.elim k2
        | _ => cases wn <;> exact False.elim k2
    | _ => exact False.elim k1
/-! dicts -/
theorem dset_len {α : Type} (k : W) (v : α) : ∀ {ks : List W} {vs : List α}, ks.length = vs.length → (FM.dset k v ks vs).length = vs.length
  | [], [], _ => rfl
  | [], _ :: _, h => by simp at h
  | _ :: _, [], h => by simp at h
  | l :: ks, u :: vs, h => by simp only [FM.dset, List.length_cons]; rw [dset_len k v (by simpa using h)]
theorem KeysR.append : ∀ {a b : List W} {x y : List Key}, KeysR a x → KeysR b y → KeysR (a ++ b) (x ++ y)
  | [], _, _, _, h, h' => by cases h; exact h'
  | _ :: _, _, _, _, h, h' => by
    obtain ⟨k, t, rfl, h1, h2⟩ := h
    exact ⟨k, _, rfl, h1, KeysR.append h2 h'⟩
theorem dset_map {Z : Kx} {g : Sg} {w u : W} {k : Key} {v : V} (hk : keyR w k) (hu : RW Z g u v) : ∀ {ks ws : List W} {ys : List (Key × V)}, KeysR ks (ys.map (·.1)) → RWs Z g ws (ys.map (·.2)) → KeysR ks ((ys.map fun kv => if kv.1 = k then (kv.1, v) else kv).map (·.1)) ∧ RWs Z g (FM.dset w u ks ws) ((ys.map fun kv => if kv.1 = k then (kv.1, v) else kv).map (·.2))
  | [], ws, ys, h, hw => by
    have : ys = [] := List.map_eq_nil_iff.mp h
    subst this
    exact ⟨rfl, by cases ws <;> first | rfl | (cases hw; done)⟩
  | l :: ks, ws, ys, h, hw => by
    obtain ⟨q, r, e, h1, h2⟩ := h
    cases ys with
    | nil => cases e
    | cons y ys =>
      cases e
      cases ws with
      | nil => cases hw
      | cons z ws =>
        obtain ⟨x, t, et, hx, hw2⟩ := hw
        cases et
        obtain ⟨i1, i2⟩ := dset_map hk hu h2 hw2
        have e2 := keyR_beq h1 hk
        simp only [FM.dset, e2, List.map_cons]
        by_cases hl : y.1 = k
        · rw [if_pos hl]
          simp only [hl, decide_true, if_true]
          exact ⟨⟨_, _, rfl, by rw [← hl]; exact h1, i1⟩, v, _, rfl, hu, i2⟩
        · rw [if_neg hl]
          simp only [decide_eq_false hl, Bool.false_eq_true, if_false]
          exact ⟨⟨_, _, rfl, h1, i1⟩, y.2, _, rfl, hx, i2⟩
theorem dput_put {Z : Kx} {g : Sg} {w u : W} {k : Key} {v : V} (hk : keyR w k) (hu : RW Z g u v) {ks ws : List W} {ys : List (Key × V)} (h : KeysR ks (ys.map (·.1))) (hw : RWs Z g ws (ys.map (·.2))) : KeysR (dput w u ks ws).1 ((putK ys k v).map (·.1)) ∧ RWs Z g (dput w u ks ws).2 ((putK ys k v).map (·.2)) := by
  have f := dhas_val hk h
  unfold dput putK
  rw [valV_any, ← f]
  cases e : dhas w ks with
  | true => simp only [if_true]; exact dset_map hk hu h hw
  | false =>
    simp only [Bool.false_eq_true, if_false, List.map_append, List.map_cons, List.map_nil]
    exact ⟨h.append ⟨k, [], rfl, hk, rfl⟩, hw.append ⟨v, [], rfl, hu, rfl⟩⟩
def dsubM (i : Nat) (mb md : Env → Res W) : Env → SRes := fun r => (md r).toS fun v r1 => match lookU r1 i with
    | some (.c _ _) => (mb r1).toS fun n r2 => dputS i v n r2
    | _ => .bad
theorem ss_dsub {x : Str} {i : Nat} {npos pos' : Pos} (hu : C.X.A.units + 1 < cLine) (hN : C.X.N[i]? = some x) (hv : Vis C.X.env.scope x) (hdb : (x == ("__debug__" : Str)) = false) (hcd : (x == ("__classdict__" : Str)) = false) (hb : SE C b mb) (hd : SE C d md) (hn : notComp d = true) : SS C (.Assign [.Subscript (.Name x npos) b pos'] d pos) (dsubM i mb md) := by
  obtain ⟨tb, pb, ib⟩ := hb
  obtain ⟨td, pd, id⟩ := hd
  refine ⟨_, ps_dput hu (pe_var (pos := npos) hN hv hdb hcd) pb pd (sw_no hn), fun g r σ F D re dk => ?_⟩
  refine id g r σ F _ re (DOk.seq (show DOk C D g F ((md r).toS _) from dk) fun wv r1 g1 F1 t1 re1 k1 v1 rv1 => ?_)
  cases hl1 : lookU r1 i with
  | none => simp only [hl1] at k1; exact False.elim k1
  | some u1 =>
    simp only [hl1] at k1
    cases u1 with
    | c ks1 us1 =>
      obtain ⟨v, _, _, _, hσ, _⟩ := re1.look hl1
      refine ⟨v, hσ, ?_⟩
      refine ib g1 r1 σ F1 _ re1 (DOk.seq (show DOk C D g1 F1 ((mb r1).toS _) from k1) fun wn r2 g2 F2 t2 re2 k2 v2 rv2 => ?_)
      unfold dputS at k2
      cases hl : lookU r2 i with
      | none => simp only [hl] at k2; exact False.elim k2
      | some u =>
        simp only [hl] at k2
        cases u with
        | c ks us =>
          simp only [] at k2
          cases hda : dats us with
          | none => simp only [hda] at k2; exact False.elim k2
          | some ws =>
            simp only [hda] at k2
            split at k2
            · rename_i hk
              rw [Bool.and_eq_true] at hk
              obtain ⟨v', _, _, _, hσ2, p, xs, fs, rfl, ⟨ys, hy, hks, rfl⟩, ou, hF⟩ := re2.look hl
              rw [hσ] at hσ2
              cases hσ2
              obtain ⟨k, rfl, kr⟩ := key_of hk.1 rv2
              have rv1' := rv1.kp (t2.kp re1)
              obtain ⟨rfl, rws⟩ := OUs.of_dats hda ou
              obtain ⟨kp, _, _⟩ := re2.chg (o := .dK (putK ys k v1)) hF
              obtain ⟨n1, n2⟩ := dput_put kr (rv1'.kp kp) hks (rws.kp kp)
              have ou2 : OU C.Z ⟨upd g2.H p (.dK (putK ys k v1)), g2.L⟩ (.c (dput wn wv ks ws).1 ((dput wn wv ks ws).2.map U.d)) (.ref p) [p] := ⟨p, _, [], rfl, ⟨putK ys k v1, upd_same, n1, rfl⟩, OUs.dat n2, rfl⟩
              obtain ⟨r3, hp3, re3, t3⟩ := re2.mut hl hF hσ ou2
              simp only [hp3] at k2
              refine ⟨p, _, rfl, DPut.k hy ?_, k2 _ F2 σ t3 re3⟩
              have := hks.length
              rw [List.length_map] at this
              rw [← this]
              exact sizeLine_lt (by simpa [Nat.blt_eq] using hk.2)
            · exact False.elim k2
        | _ => exact False.elim k2
    | _ => exact False.elim k1
theorem ss_pass : SS C (.Pass pos) (fun r => .nx r) := ⟨_, ps_pass, fun g r σ F D re dk => dk g F σ (.refl g F) re⟩
theorem ss_brk : SS C (.Break pos) (fun r => .bk r) := ⟨_, ps_break, fun g r σ F D re dk => dk g F σ (.refl g F) re⟩
theorem ss_cont : SS C (.Continue pos) (fun r => .ct r) := ⟨_, ps_continue, fun g r σ F D re dk => dk g F σ (.refl g F) re⟩
theorem ss_unk {st : Stmt} : SS C st (fun _ => .bad) := ⟨fun _ _ _ => False, ⟨fun _ _ _ _ _ _ h => h.elim⟩, fun g r σ F D re dk => dk⟩
theorem sss_nil : SSs C [] (fun r => .nx r) := ⟨_, pss_nil, fun g r σ F D re dk => dk g F σ (.refl g F) re⟩
theorem sss_cons {st : Stmt} {sts : List Stmt} {m ms : Env → SRes} (h1 : SS C st m) (h2 : SSs C sts ms) : SSs C (st :: sts) (fun r => match m r with
    | .nx r1 => ms r1
    | x => x) := by
  obtain ⟨t, p, i⟩ := h1
  obtain ⟨u, q, j⟩ := h2
  refine ⟨_, pss_cons p q, fun g r σ F D re dk => ?_⟩
  refine i g r σ F { D with nx := u D } re ?_
  cases em : m r with
  | nx r1 =>
    simp only [em] at dk
    intro g' F' σ' t' re'
    exact j g' r1 σ' F' D re' (dk.mono t')
  | rt w r1 => simp only [em] at dk; exact dk
  | bk r1 => simp only [em] at dk; exact dk
  | ct r1 => simp only [em] at dk; exact dk
  | ex x r1 => simp only [em] at dk; exact dk
  | bad => simp only [em] at dk; exact dk
/-- the rest of a block whose text nobody reads -/
theorem sss_unk {sts : List Stmt} : SSs C sts (fun _ => .bad) := ⟨fun _ _ _ => False, ⟨fun _ _ _ _ _ _ h => h.elim⟩, fun g r σ F D re dk => dk⟩
theorem ss_if {A B : List Stmt} {m1 m2 : Env → SRes} (ht : STt C e mt) (h1 : SSs C A m1) (h2 : SSs C B m2) : SS C (.If e A B pos) (fun r => (mt r).toS fun c r1 => if c then m1 r1 else m2 r1) := by
  obtain ⟨t, p, i⟩ := ht
  obtain ⟨ta, pa, ia⟩ := h1
  obtain ⟨tb, pb, ib⟩ := h2
  refine ⟨_, ps_if p pa pb, fun g r σ F D re dk => ?_⟩
  refine i g r σ F _ re (dk.seq fun c r1 g1 F1 t1 re1 k1 => ?_)
  cases c with
  | true => exact iteT (ia g1 r1 σ F1 D re1 k1)
  | false => exact iteF (ib g1 r1 σ F1 D re1 k1)
def forM (ig : IG) (mi : Env → Res Wk) (mb : Env → SRes) : Env → SRes := fun r => (mi r).toS fun k r1 => if k.ks.isEmpty then forL (fun w r2 => match bindG ig w r2 with
      | some r3 => mb r3
      | none => .bad) k.ws r1 else .bad
theorem ss_for {tg iter : Expr} {body : List Stmt} {ig : IG} {mi : Env → Res Wk} {mb : Env → SRes} (hp : PassesOwn (model C.X.prog C.X.w) C.X.A C.X.env C.X.xe) (hc : C.X.calm = true) (hi : SI C tg iter mi) (hg : SG C tg ig) (hb : SSs C body mb) (hs : ∀ x, foldedSetIterable iter C.X.env x = pure x) :
    SS C (.For tg iter body [] pos) (forM ig mi mb) := by
  obtain ⟨ti, pi, ii⟩ := hi
  obtain ⟨tg_, pg, ig_⟩ := hg
  obtain ⟨tb, pb, ib⟩ := hb
  refine ⟨_, ps_for hp hc pi pg pb hs, fun g r σ F D re dk => ?_⟩
  refine ii g r σ F _ re (DOk.seq (show DOk C D g F ((mi r).toS _) from dk) fun kw r1 g1 F1 t1 re1 k1 J wk => ?_)
  have k1 : DOk C D g1 F1 (if kw.ks.isEmpty then forL (fun w r2 => match bindG ig w r2 with
      | some r3 => mb r3
      | none => .bad) kw.ws r1 else .bad) := k1
  split at k1
  · rename_i hks
    have hks : kw.ks = [] := List.isEmpty_iff.mp hks
    have same : ∀ σ', Same kw.ks σ σ' := fun σ' q hq => by rw [hks] at hq; cases hq
    have still : ∀ r', kw.still r' = true := fun r' => by unfold Wk.still; rw [hks]; rfl
    refine ⟨fun i m σ' H => ∃ (g' : Sg) (F' : Fp) (r' : Env), g'.H = H ∧ Go g1 F1 g' F' ∧ RE C.Z C.B C.T g' r' σ' F' ∧ m = kw.ws.length - i ∧ i ≤ kw.ws.length ∧ DOk C D g' F' (forL (fun w r2 => match bindG ig w r2 with
      | some r3 => mb r3
      | none => .bad) (kw.ws.drop i) r'), ⟨_, g1, F1, r1, rfl, .refl g1 F1, re1, rfl, Nat.zero_le _, k1⟩, ?_⟩
    rintro i m σ' H ⟨g', F', r', rfl, t', re', rfl, hi, dk'⟩
    obtain ⟨wy, wst⟩ := wk g' F' r' σ' i t' re' (same σ') (still r')
    by_cases hlt : i < kw.ws.length
    · have ed : kw.ws.drop i = kw.ws[i] :: kw.ws.drop (i + 1) := List.drop_eq_getElem_cons hlt
      rw [ed] at dk'
      simp only [forL] at dk'
      obtain ⟨hgo, hy⟩ := wy kw.ws[i] (by simp [hlt])
      refine .inr ⟨hgo, _, fun σ2 H' hN => ⟨kw.ws.length - (i + 1), by omega, hN⟩, fun x H' hx => ?_⟩
      obtain ⟨g2, t2, re2, rfl, r2⟩ := hy x H' hx
      cases hb : bindG ig kw.ws[i] r' with
      | none => simp only [hb] at dk'; exact False.elim dk'
      | some rb =>
        simp only [hb] at dk'
        refine ig_ g2 kw.ws[i] x r' rb σ' F' _ re2 r2 hb fun σ2 F2 re3 t3 _ => ?_
        refine ib g2 rb σ2 F2 _ re3 ?_
        have t23 := t2.trans t3
        have nxt : ∀ {r3 : Env}, DOk C D g' F' (forL (fun w r2 => match bindG ig w r2 with
            | some r3 => mb r3
            | none => .bad) (kw.ws.drop (i + 1)) r3) → ∀ g4 F4 σ4, Go g2 F2 g4 F4 → RE C.Z C.B C.T g4 r3 σ4 F4 → ∃ (g' : Sg) (F' : Fp) (r' : Env), g'.H = g4.H ∧ Go g1 F1 g' F' ∧ RE C.Z C.B C.T g' r' σ4 F' ∧ kw.ws.length - (i + 1) = kw.ws.length - (i + 1) ∧ i + 1 ≤ kw.ws.length ∧ DOk C D g' F' (forL (fun w r2 => match bindG ig w r2 with
            | some r3 => mb r3
            | none => .bad) (kw.ws.drop (i + 1)) r') := fun {r3} hd g4 F4 σ4 t4 re4 =>
          ⟨g4, F4, r3, rfl, (t'.trans t23).trans t4, re4, rfl, hlt, hd.mono (t23.trans t4)⟩
        cases eb : mb rb with
        | nx r3 => simp only [eb] at dk'; exact fun g4 F4 σ4 t4 re4 => nxt dk' g4 F4 σ4 t4 re4
        | ct r3 => simp only [eb] at dk'; exact fun g4 F4 σ4 t4 re4 => nxt dk' g4 F4 σ4 t4 re4
        | bk r3 => simp only [eb] at dk'; exact fun g4 F4 σ4 t4 re4 => dk' g4 F4 σ4 (t23.trans t4) re4
        | rt w3 r3 => simp only [eb] at dk'; exact DOk.mono (x := .rt w3 r3) t23 dk'
        | ex x3 r3 => simp only [eb] at dk'; exact DOk.mono (x := .ex x3 r3) t23 dk'
        | bad => simp only [eb] at dk'; exact dk'
    · have hie : i = kw.ws.length := by omega
      subst hie
      rw [List.drop_eq_nil_of_le (Nat.le_refl _)] at dk'
      exact .inl ⟨wst rfl, dk' g' F' σ' (.refl g' F') re'⟩
  · exact False.elim k1
/-- while, by the levels of the evaluator -/
theorem ss_whl {c : CF} {t : IT} {body : List IS} {sts : List Stmt} {n : Nat} (hp : PassesOwn (model C.X.prog C.X.w) C.X.A C.X.env C.X.xe) (ht : ∀ m, m < n → STt C e ((lvl c m).T t)) (hb : ∀ m, m < n → SSs C sts ((lvl c m).S body)) : SS C (.While e sts [] pos) ((lvl c n).Wh t body) := by
  have ht' : ∀ m : {m // m < n}, STt C e ((lvl c m).T t) := fun m => ht m m.2
  have hb' : ∀ m : {m // m < n}, SSs C sts ((lvl c m).S body) := fun m => hb m m.2
  have pt : PT C.X e (fun σ H Q => ∃ m : {m // m < n}, (ht' m).choose σ H Q) := ⟨fun pins s σ H Q I ⟨m, h⟩ => (ht' m).choose_spec.1.run pins s σ H Q I h⟩
  have pb : PSs C.X sts (fun D σ H => ∃ m : {m // m < n}, (hb' m).choose D σ H) := ⟨fun pins s σ H D I ⟨m, h⟩ => (hb' m).choose_spec.1.run pins s σ H D I h⟩
  refine ⟨_, ps_while hp pt pb, fun g r σ F D re dk => ?_⟩
  refine ⟨fun m σ' H => ∃ (g' : Sg) (F' : Fp) (r' : Env), g'.H = H ∧ RE C.Z C.B C.T g' r' σ' F' ∧ m ≤ n ∧ DOk C D g' F' ((lvl c m).Wh t body r'), ⟨n, g, F, r, rfl, re, Nat.le_refl _, dk⟩, ?_⟩
  rintro m σ' H ⟨g', F', r', rfl, re', hm, dk'⟩
  cases m with
  | zero => exact False.elim dk'
  | succ m =>
    have dk' : DOk C D g' F' (stepWh (lvl c m) t body r') := dk'
    unfold stepWh at dk'
    refine ⟨⟨m, by omega⟩, (ht' ⟨m, by omega⟩).choose_spec.2 g' r' σ' F' _ re' (dk'.seq fun b r1 g1 F1 t1 re1 k1 => ?_)⟩
    cases b with
    | false => exact iteF (k1 g1 F1 σ' (.refl g1 F1) re1)
    | true =>
      refine iteT ⟨_, fun σ2 H2 h => ⟨m, Nat.lt_succ_self _, h⟩, ⟨⟨m, by omega⟩, (hb' ⟨m, by omega⟩).choose_spec.2 g1 r1 σ' F1 _ re1 ?_⟩⟩
      have k1 : DOk C D g1 F1 (match (lvl c m).S body r1 with
        | .nx r2 => (lvl c m).Wh t body r2
        | .ct r2 => (lvl c m).Wh t body r2
        | .bk r2 => .nx r2
        | x => x) := k1
      show DOk C _ g1 F1 ((lvl c m).S body r1)
      have nxt : ∀ {r3 : Env}, DOk C D g1 F1 ((lvl c m).Wh t body r3) → ∀ g4 F4 σ4, Go g1 F1 g4 F4 → RE C.Z C.B C.T g4 r3 σ4 F4 → ∃ (g' : Sg) (F' : Fp) (r' : Env), g'.H = g4.H ∧ RE C.Z C.B C.T g' r' σ4 F' ∧ m ≤ n ∧ DOk C D g' F' ((lvl c m).Wh t body r') := fun {r3} hd g4 F4 σ4 t4 re4 =>
        ⟨g4, F4, r3, rfl, re4, by omega, hd.mono t4⟩
      cases eb : (lvl c m).S body r1 with
      | nx r3 => simp only [eb] at k1; exact fun g4 F4 σ4 t4 re4 => nxt k1 g4 F4 σ4 t4 re4
      | ct r3 => simp only [eb] at k1; exact fun g4 F4 σ4 t4 re4 => nxt k1 g4 F4 σ4 t4 re4
      | bk r3 => simp only [eb] at k1; exact fun g4 F4 σ4 t4 re4 => k1 g4 F4 σ4 t4 re4
      | rt w3 r3 => simp only [eb] at k1; exact k1
      | ex x3 r3 => simp only [eb] at k1; exact k1
      | bad => simp only [eb] at k1; exact k1
/-- name = [..] on one line; b: a list that is owned -/
def lcS (bo : Bool) (i : Nat) (m : Env → Res (List W)) : Env → SRes := fun r => (m r).toS fun ws r1 => match setV r1 i (if bo then .l (ws.map U.d) else .d (.lis ws)) with
    | some r2 => .nx r2
    | none => .bad
theorem ss_lc {bo : Bool} {i : Nat} {y : Str} {py spos : Pos} {elt tg iter : Expr} {ifs : List Expr} {scope : Scope} {own : List (Str × Nat)} {ig : IG} {mi : Env → Res Wk} {mt : Option (Env → Res Bool)} {me : Env → Res W} (hc : C.X.calm = true) (hN : C.X.N.Nodup) (hy : C.X.N[i]? = some y) (hyl : C.X.env.scope.names.lookup y = some .local)
    (hsw : swapsWith (.ListComp elt [⟨tg, iter, ifs, 0⟩] scope pos) (some (.Name y py)) spos.line C.X.env = pure true) (hi : SI C tg iter mi) (ok : BlkOk C.X.N C.X.env.scope scope own)
    (hg : ∀ s H c cl fp, SG (C.blk scope s H c cl fp) tg ig) (ht : TestOk C scope ifs mt) (he : ∀ s H c cl fp, SE (C.blk scope s H c cl fp) elt me) (hs : ∀ x, foldedSetIterable iter C.X.env x = pure x) (ho : ∀ i ∈ slotsG ig, i ∈ own.map (·.2)) :
    SS C (.Assign [.Name y py] (.ListComp elt [⟨tg, iter, ifs, 0⟩] scope pos) spos) (lcS bo i (lcM me ig (own.map (·.2)) mi mt)) := by
  obtain ⟨ti, pi, ii⟩ := hi
  obtain ⟨tg_, pg, ig_⟩ := blk_g hg
  obtain ⟨tt, pt, it⟩ := blk_ts ht
  obtain ⟨te, pe, ie⟩ := blk_e he
  refine ⟨_, ps_setLc hc hN hy hyl hsw pi ok pg pt pe hs, fun g r σ F D re dk => ?_⟩
  refine lc_imp ii ig_ it ie ho g r σ F _ re (DOk.seq0 (show DOk C D g F ((lcM me ig (own.map (·.2)) mi mt r).toS _) from dk) fun ws r1 g1 F1 t1 re1 k1 v fp o x s => ?_)
  cases hb : setV r1 i (if bo then U.l (ws.map U.d) else U.d (.lis ws)) with
  | none => simp only [hb] at k1; exact False.elim k1
  | some r2 =>
    simp only [hb] at k1
    obtain ⟨rfl, hlt⟩ := setV_eq hb
    cases bo with
    | true => exact k1 g1 _ _ (Go.bind re1 t1 s) (re1.bind (u := .l (ws.map U.d)) hlt o x)
    | false =>
      have al : ∀ a ∈ fp, ∃ o, g1.H a = some o := fun a ma => let ⟨o, q, _⟩ := o.mu ma; ⟨o, q⟩
      obtain ⟨re2, kp⟩ := re1.frz x al
      have rv := o.fz kp fun a ma => ⟨.inr ma, rfl⟩
      have ef : FM.fz (.l (ws.map U.d)) = .lis ws := by
        have : ∀ ws : List W, fzs (ws.map U.d) = ws := by
          intro ws
          induction ws with
          | nil => rfl
          | cons w ws ih => simp only [List.map_cons, fzs, ih, FM.fz]
        simp only [FM.fz, this]
      rw [ef] at rv
      exact k1 ⟨g1.H, fun a => g1.L a ∨ a ∈ fp⟩ _ _ ((t1.frz s).trans (Go.set (fp := []) fun _ m => nomatch m)) (re2.bind (u := .d (.lis ws)) hlt ⟨rfl, rv⟩ tmp_nil)
end
end FM


set_option Elab.async false
set_option linter.all false
namespace FM
open PySem L2
theorem swap0 {ts vs : List Expr} {k k2 : Nat} {p p2 : Pos} {env : PySem.Env} (h : vs.all (foldedForSure 8) = true) : swappedStores [.Tuple ts k p] (.Tuple vs k2 p2) env = pure none := by
  unfold swappedStores
  simp only [h, if_true]
  repeat (first | rfl | split)
end FM


set_option Elab.async false
set_option linter.all false
set_option maxRecDepth 100000
set_option maxHeartbeats 2000000
/-! t.index(x) of a tuple of texts. -/
namespace FM
open PySem L2
section
variable {C : Cz} {a b : Expr} {pos : Pos} {ma mb : Env → Res W}
theorem findS_at {x : List Nat} : ∀ {ss : List (List Nat)} {n : Nat}, findS x ss = some n → ss[n]? = some x ∧ ∀ m, m < n → ss[m]? ≠ some x
  | [], _, h => by cases h
  | s :: ss, n, h => by
    unfold findS at h
    split at h
    · rename_i e
      cases h
      exact ⟨by rw [eqS_iff.mp e]; rfl, fun m hm => absurd hm (Nat.not_lt_zero _)⟩
    · rename_i e
      obtain ⟨k, hk, rfl⟩ := Option.map_eq_some_iff.mp h
      obtain ⟨h1, h2⟩ := findS_at hk
      refine ⟨h1, fun m hm => ?_⟩
      cases m with
      | zero => intro z; exact e (eqS_iff.mpr (Option.some.inj z))
      | succ m => exact h2 m (Nat.lt_of_succ_lt_succ hm)
theorem txts_V {Z : Kx} {g : Sg} : ∀ {ws : List W} {ss : List (List Nat)} {xs : List V}, txts ws = some ss → RWs Z g ws xs → xs = (ss.map sv).map V.str
  | [], ss, xs, h, r => by cases h; cases r; rfl
  | w :: ws, ss, xs, h, r => by
    obtain ⟨x, rest, rfl, h1, h2⟩ := r
    cases w <;> first | (exfalso; cases h; done) | skip
    rename_i s
    obtain ⟨ss', h3, rfl⟩ := Option.map_eq_some_iff.mp (show (txts ws).map (s :: ·) = some ss from h)
    cases h1
    rw [txts_V h3 h2]
    rfl
def tixM (ma mb : Env → Res W) : Env → Res W := fun r => (ma r).bind fun x r1 => (match x with
    | .tup _ => (mb r1).bind fun y r2 => Res.of (indexW x y) r2
    | _ => .bad)
/-- a method of a tuple that has no dict -/
def tTM (K : PySem.W.Frag) (r : V → List V → Hp → VK → Prop) (to : TE) (t : TA) : TE := fun σ H Q => to σ H fun x H1 => (∃ p xs, x = .ref p ∧ SqD K H1 p xs) ∧ t σ H1 fun xs H2 => r x xs H2 Q
theorem tup_is {X : Cx} {pins : List (Addr × Obj)} {σ : L2.St} {H : Hp} {s : Shared} {p : Addr} {xs : List V} (I : Inv X pins σ H s) (h : SqD X.K H p xs) : s.TypeIs (.ref p) "tuple" ∧ ∃ ob, s.heap.get? p = some ob ∧ ob.dict = none := by
  obtain ⟨its, _, ⟨o, ho, hc, _⟩, _⟩ := I.tuple h.1
  refine ⟨⟨o, ho, hc⟩, ?_⟩
  rcases h.2 with ⟨ob, ys, e, hd⟩ | ⟨ob, e, hd⟩
  · exact ⟨ob, (I.hok p _ e).1, hd⟩
  · exact ⟨ob, I.kIn p ob e, hd⟩
theorem pe_tm {X : Cx} {o e : Expr} {es : List Expr} {to : TE} {t : TA} {name : Str} {apos cpos : Pos} {id : String} {r : V → List V → Hp → VK → Prop} (slot : Slot "tuple" name id) (hty : typeOf (.builtin id) = pure (.type "method_descriptor")) (hm : MtR X id r) (ho : PE X o to) (ha : PA X (e :: es) t)
    (hbase : attributeBase o name X.env (eval o X.env) = eval o X.env) (hfew : ((backTo cpos (starEach (e :: es) X.env)).all (fun x => !x.1) && (backToKw cpos (keywordEach [] X.env)).all (fun x => x.1.isSome) && decide ((e :: es).length + ([] : List Keyword).length + (if ([] : List Keyword).isEmpty then 0 else 1) < 30)) = true)
    (hline : (apos.endLine == cpos.line) = true) (hs : starEach (e :: es) X.env = (false, eval e X.env) :: starEach es X.env) (hplain : (backTo cpos (starEach es X.env)).any (·.1) = false) : PE X (.Call (.Attribute o name apos) (e :: es) [] cpos) (tTM X.K r to t) := by
  constructor
  intro pins s σ H Q I h
  refine wpAny_Call_method_late hbase hfew hline rfl (thn (ho.run pins s σ H _ I h) ?_)
  rintro v s1 ⟨x, H1, I1, r1, ⟨p, xs, rfl, hq⟩, q1⟩
  cases r1
  obtain ⟨t1, t2⟩ := tup_is I1 hq
  refine ⟨"tuple", id, PySem.F.plainAttrs_tuple, slot, hty, t1, fun a e => by cases e; exact t2, ?_⟩
  have hA := ha.run cpos pins s1 σ H1 _ I1 q1
  rw [hs] at hA ⊢
  refine Calls.callWith_builtin (by show (false || (backTo cpos (starEach es X.env)).any (·.1)) = false; rw [hplain]; rfl) (Calls.evalArgs_plain (thn hA ?_))
  rintro us s2 ⟨vs, H2, I2, r2, q2⟩
  exact hm pins s2 σ H2 (.ref p) vs (.ref p) us Q I2 rfl r2 q2
theorem se_tix {apos : Pos} (ha : SE C a ma) (hb : SE C b mb) (ho : notSuper a = true) (he : notStar b = true) (hl : (apos.endLine == pos.line) = true) : SE C (.Call (.Attribute a "index" apos) [b] [] pos) (tixM ma mb) := by
  obtain ⟨ta, pa, ia⟩ := ha
  obtain ⟨tb, pb, ib⟩ := hb
  have h1 : starEach [b] C.X.env = [(false, eval b C.X.env)] := by rw [star_ he]; rfl
  refine ⟨_, pe_tm PySem.F.slot_tuple_index PySem.F.type_tuple_index mt_tup_index pa (pa_cons pb pa_nil (star_ he)) (base_of ho) (by rw [h1]; rfl) hl (star_ he) rfl, fun g ρ σ F Q re k => ?_⟩
  refine ia g ρ σ F _ re (POk.seq (show POk C g F σ _ ((ma ρ).bind _) from k) fun x r1 g1 F1 t1 re1 k1 v1 rv1 => ?_)
  cases x <;> first | exact False.elim k1 | skip
  rename_i ws
  obtain ⟨p, xs, rfl, hq, rws⟩ := id rv1
  refine ⟨⟨p, xs, rfl, hq⟩, ?_⟩
  refine ib g1 r1 σ F1 _ re1 (POk.seq (show POk C g1 F1 σ _ ((mb r1).bind _) from k1) fun y r2 g2 F2 t2 re2 k2 v2 rv2 => ?_)
  obtain ⟨w, hw, fin⟩ := k2.of re2
  cases y <;> first | (exfalso; cases hw; done) | skip
  rename_i z
  obtain ⟨ss, h2, hw⟩ := Option.bind_eq_some_iff.mp (show ((txts ws).bind fun ss => (findS z ss).map fun (n : Nat) => W.int (n : Int)) = some w from hw)
  obtain ⟨n, h3, rfl⟩ := Option.map_eq_some_iff.mp hw
  obtain ⟨a1, a2⟩ := findS_at h3
  cases rv2
  obtain ⟨p', xs', e, hq', rws'⟩ := rv1.kp (t2.kp re1)
  cases e
  refine ⟨p, ss.map sv, sv z, n, rfl, rfl, ?_, ?_, fun m hm e => ?_, fin _ rfl⟩
  · rw [← txts_V h2 rws']; exact hq'.1
  · rw [List.getElem?_map, a1]; rfl
  · rw [List.getElem?_map] at e
    obtain ⟨y, e1, e2⟩ := Option.map_eq_some_iff.mp e
    rw [sv_inj e2] at e1
    exact a2 m hm e1
end
end FM


set_option Elab.async false
set_option linter.all false
set_option maxRecDepth 100000
set_option maxHeartbeats 2000000
/-! An own exception class: __init__(self, f): super().__init__(f); self.f = f -/
namespace PySem
namespace OwnX
open PySem.W PySem.Calls PyProof.Rows PySem.HandSPX

def iA (f : Str) (p1 p2 : Pos) : Arguments := { posonlyargs := [], args := [{ arg := "self", annotation := none, pos := p1 }, { arg := f, annotation := none, pos := p2 }], vararg := none, kwonlyargs := [], kw_defaults := [], kwarg := none, defaults := [] }
def iB (f : Str) (q1 q2 q3 q4 q5 q6 q7 q8 q9 q10 : Pos) : List Stmt :=
  [.Expr (.Call (.Attribute (.Call (.Name "super" q1) [] [] q2) "__init__" q3) [.Name f q4] [] q5) q6, .Assign [.Attribute (.Name "self" q7) f q8] (.Name f q9) q10]
/-- what a built-in base must say -/
structure BaseX (B newId initId : String) (bmB : List Value) : Prop where
  fb : ExcBaseFacts B newId initId bmB
  sf : StoreFacts B bmB "object.__setattr__" "object"
  kf : KxsFacts B initId
/-- what the written part says of a class at C, and of its __init__, at fI; n its name, f its field -/
structure XTxt (P : Program) (K : Frag) (mg : Str → Option Value) (n f : Str) (C fI : Addr) (sc : Scope) (ar : Arguments) (bd : List Stmt) (B newId initId : String) (bmB : List Value) : Prop where
  bx : BaseX B newId initId bmB
  gC : mg n = some (.ref C)
  cls : excInitIn K C bmB newId = true
  ov : excOver K C bmB = true
  hdC : hasDictIn K C = true
  sa : findIn K (.ref C) "__setattr__" = some (some (.builtin "object.__setattr__"))
  ga : findIn K (.ref C) "__getattribute__" = some (some (.builtin "BaseException.__getattribute__"))
  gg : findIn K (.ref C) "__getattr__" = some none
  noN : findIn K (.ref C) f = some none
  tk : takerIn K C f = some none
  iC : findIn K (.ref C) "__init__" = some (some (.ref fI))
  tC : isFn K (.ref fI) = true
  kC : keepIn K (.ref C) = true
  exC : subIn K (.ref C) (.type "BaseException") = some true
  exB : subIn K (.ref C) (.type B) = some true
  slf : mroIn K C (.ref C) = some true
  tyC : typeIn K (.ref C) = some (.type "type")
  th : nsIn K cStatics "thirdparty.any" = some none
  su : mg "super" = none
  sI : ks_superIn K C C "__init__" = some (some (.builtin initId))
  fn : ∃ (oc : Value) (od : Option Addr) (q : Str) (doc pm : Value) (an : Option Addr) (cda cc : Addr) (ct : Value) (osl : Array (Option Value)),
    K.lookup fI = some ⟨oc, od, .func (ksFn "__init__" q ar bd sc .none .none doc pm an (.ref cda) ct cc), osl⟩ ∧ codeIn K (.ref cda) q = true ∧
    (∃ ccl cdd vs ccs file tf, K.lookup cda = some ⟨ccl, cdd, .fields vs, ccs⟩ ∧ vs[2]? = some (.str file tf) ∧ ((P.main.file : Str) == file) = true) ∧
    ∃ cl cld csl, K.lookup cc = some ⟨cl, cld, .cell (some (.ref C)), csl⟩
  top : (P.main.scope.names.lookup ("super" : Str)).isSome = false
  arg : ∃ p1 p2, ar = iA f p1 p2
  bod : ∃ q1 q2 q3 q4 q5 q6 q7 q8 q9 q10, bd = iB f q1 q2 q3 q4 q5 q6 q7 q8 q9 q10 ∧ (q3.endLine == q5.line) = true
  bi : ∀ (q : Str) (doc pm : Value) (an : Option Addr) (cdv ct : Value) (cc : Addr) (x v : Value), bindArgs (ksFn "__init__" q ar bd sc .none .none doc pm an cdv ct cc) ⟨[x, v], []⟩ = pure [(("self" : Str), x), (f, v)]
  fne : f ≠ "self" ∧ (f == ("__debug__" : Str)) = false
  sk : sc.kind = .function
  sco : sc.isCoroutine = false
  sge : sc.isGenerator = false
  ssu : sc.names.lookup ("super" : Str) = some .globalImplicit
  scl : sc.names.lookup ("__class__" : Str) = some .free
  sse : sc.names.lookup ("self" : Str) = some .local
  sfl : sc.names.lookup f = some .local
  snc : ∀ x ∈ sc.names, x.2 ≠ .cell
theorem one_size (v : Value) : [v].length ≤ sizeLine := by
  rw [sizeLine_eq]
  exact (by decide : 1 ≤ 16777216)
/-- what __init__ leaves of a fresh exception at x -/
structure InitEnd (h h' : Heap) (x C dx t1 : Addr) (f : Str) (v : Value) : Prop where
  keep : ∀ b o, b ≠ x → h.get? b = some o → h'.get? b = some o
  obj : h'.get? x = some { cls := .ref C, dict := some dx, data := .fields #[.ref t1, .none, .none, .none, .bool false, .none] }
  dbig : h.objs.size ≤ dx
  dne : dx ≠ x
  ns : h'.Ns1 dx (fun y => if y = f then some v else none)
/-- one made -/
structure OwnMade (h h' : Heap) (e C d : Addr) (f : Str) (v : Value) : Prop where
  keep : ∀ b o, h.get? b = some o → h'.get? b = some o
  new : h.objs.size ≤ e
  obj : ∃ oe vs, h'.get? e = some oe ∧ oe.cls = .ref C ∧ oe.dict = some d ∧ oe.data = .fields vs ∧ vs[1]? = some .none
  dbig : h.objs.size ≤ d
  dne : d ≠ e
  ns : h'.Ns1 d (fun y => if y = f then some v else none)
section
variable {prog : Program} {w : World} {A : Around} {E : Value → Shared → Prop} {R : Result → Shared → Prop} {s : Shared} {K : Frag} {mg : Str → Option Value} {n f : Str} {C fI : Addr} {sc : Scope} {ar : Arguments} {bd : List Stmt} {B newId initId : String} {bmB : List Value}
/-- super().__init__(..) called -/
theorem call_mw (FB : ExcBaseFacts B newId initId bmB) (X : K.In s.heap) (q : excInitIn K C bmB newId = true) {u e t0 : Addr} {rest : List Value} {Q : Value → Shared → Prop}
    (he : s.heap.get? e = some (excO C t0)) (hu : s.heap.get? u = some (kxs_mw initId e)) (hrest : rest.length ≤ sizeLine)
    (hq : ∀ h' t1, (∀ b o, b ≠ e → s.heap.get? b = some o → h'.get? b = some o) → h'.get? e = some (excO C t1) → Q .none { s with heap := h' }) :
    wpAny (model prog w) A (call (.ref u) rest) Q E s := by
  obtain ⟨nm, N', qn, bs, bm, hdct, sn, sub, ab, col, dd, k0, k1, k2, k3, k5, hC, hT⟩ := excInit_of X q
  obtain ⟨hh, g, d, tk, os⟩ := s
  refine wpAny_call (codeAny_of_tree ?_)
  show wpAny _ A.in1 (callAny (.ref u) ⟨rest, []⟩) _ _ _
  simp only [callAny]
  refine wpAny_bind (wpAny_load hu ?_)
  simp only [kxs_mw, show (Value.type "method-wrapper" == Value.type "method" || Value.type "method-wrapper" == Value.type "builtin_function_or_method" || Value.type "method-wrapper" == Value.type "method-wrapper") = true by decide, if_true]
  refine KFB.if_so (by decide) ?_
  refine wpAny_bind (check_bound_init FB.toExcCallFacts hC he rfl ?_)
  refine wpAny_bind (wpAny_pure (wpAny_pure ?_))
  refine ⟨plainId_quiet FB.init.plain _, codeAny_builtin FB.initEntry ?_⟩
  exact exc_init_tree (cls := .ref C) (t0 := t0) (dv := none) (c2 := .none) (c3 := .none) (b4 := .bool false) he hrest fun h' k e' t' => hq h' _ k e'
theorem osa0 {x : Addr} {fv : Array Value} {name : Str} {tk : Tok} {v : Value} (SF : StoreFacts B bmB "object.__setattr__" "object") (X : K.In s.heap) (hx : s.heap.get? x = some { cls := .ref C, data := .fields fv }) (hp : excOver K C bmB = true) (ht : takerIn K C name = some none) (hh : hasDictIn K C = true)
    (hq : ∀ h' tk' dx, (∀ b o, b ≠ x → s.heap.get? b = some o → h'.get? b = some o) → s.heap.objs.size ≤ dx → dx ≠ x → h'.get? x = some { cls := .ref C, dict := some dx, data := .fields fv } →
      h'.Ns1 dx (fun y => if y = name then some v else none) → R (.ok (.ret .none)) { s with heap := h', toks := tk' }) :
    codeAny (model prog w) A (.call (.builtin "object.__setattr__") ⟨[.ref x, .str name tk, v], []⟩) R s := by
  obtain ⟨hp', g, d, t, os⟩ := s
  have hxs : x ≠ hp'.objs.size := Nat.ne_of_lt (Heap.lt_size hx)
  refine osa_openX (od := none) SF X ⟨hx, rfl, rfl, trivial⟩ hp ht fun b => ?_
  obtain ⟨cd, hc, hd'⟩ := any_some hh
  have hcls : W.Looks (model prog w) hp' (classData C) cd := W.looks_clsIn X hc
  obtain ⟨nm, bs, mro, ns, qn, hd, sn, sb, ab, col, del⟩ := cd
  dsimp only at hd'
  subst hd'
  show wpAny _ _ (Builtin.ObjectAttr.storeInOwnDict (.ref x) (.ref C) (.str name tk) name v b) _ _ _
  unfold Builtin.ObjectAttr.storeInOwnDict Builtin.ObjectAttr.ownDictForStores
  repeat (first | with_reducible refine HandSPX.store_in_new ?_ ?_ | with_reducible refine wpAny_loadPart_at hx ?_ | with_reducible refine hcls.at ?_ | wp_step)
  · exact ⟨_, #[], _, (Heap.get?_update_ne _ _ _ _ hxs.symm).trans (Heap.get?_push_at rfl rfl), rfl, fun e he => absurd he (by simp), fun _ => rfl⟩
  · intro h' tk' hn' hs
    have hx₁ : (hp'.push { cls := .type "dict", data := .dict #[] }).get? x = some { cls := .ref C, data := .fields fv } := Heap.get?_push_of_some _ hx
    refine hq h' tk' hp'.objs.size (fun b o hb ho => ?_) (Nat.le_refl _) hxs.symm ?_ hn'
    · exact (hs.2 b (Nat.ne_of_lt (Heap.lt_size ho))).trans ((Heap.get?_update_ne _ _ _ _ hb).trans (Heap.get?_push_of_some _ ho))
    · exact (hs.2 x hxs).trans (Heap.get?_update_self _ hx₁ rfl)
end
end OwnX
end PySem


set_option Elab.async false
set_option linter.all false
set_option maxRecDepth 100000
set_option maxHeartbeats 2000000
namespace PySem
namespace OwnX
open PySem.W PySem.Calls PyProof.Rows PySem.HandSPX
section
variable {prog : Program} {w : World} {A : Around} {E : Value → Shared → Prop} {R : Result → Shared → Prop} {s : Shared} {K : Frag} {mg : Str → Option Value} {n f : Str} {C fI : Addr} {sc : Scope} {ar : Arguments} {bd : List Stmt} {B newId initId : String} {bmB : List Value}
theorem own_init (T : XTxt prog K mg n f C fI sc ar bd B newId initId bmB) {x t0 : Addr} {v : Value} (X : K.In s.heap) (hlim : s.heap.NoLimit) (G : s.heap.Ns mainGlobals mg) (Bl : ∃ mb, s.heap.Ns builtinsNs mb ∧ ∀ x : Str, x ≠ "__name__" → mb x = bootBuiltins x)
    (hx : s.heap.get? x = some (excO C t0)) (hnx : K.lookup x = none) (hroom : A.depth < recursionLimit)
    (hq : ∀ h' tk dx t1, InitEnd s.heap h' x C dx t1 f v → R (.ok (.ret .none)) { s with heap := h', toks := tk }) :
    codeAny (model prog w) A (.call (.ref fI) ⟨[.ref x, v], []⟩) R s := by
  obtain ⟨oc, od, q, doc, pm, an, cda, cc, ct, osl, ho, hcd, ⟨ccl, cdd, vs, ccs, file, tf, hcode, hvs, hfile⟩, cl, cld, csl, hcell⟩ := T.fn
  obtain ⟨p1, p2, rfl⟩ := T.arg
  obtain ⟨q1, q2, q3, q4, q5, q6, q7, q8, q9, q10, rfl, hln⟩ := T.bod
  obtain ⟨mb, hmb, hbt⟩ := Bl
  have I0 : InstAt s.heap x (excO C t0) C none := ⟨hx, rfl, rfl, trivial⟩
  obtain ⟨cdC, hcC, _⟩ := any_some T.hdC
  obtain ⟨oD, hD1, hD2⟩ : ∃ oD, s.heap.get? C = some oD ∧ oD.data = .cls cdC := by
    have hc := hcC
    unfold clsIn at hc
    split at hc
    · rename_i c d cd' sl hoo
      cases hc
      exact ⟨_, X _ _ hoo, rfl⟩
    · cases hc
  have hxC : x ≠ C := ks_ne X I0 hcC
  have hfs : (f == ("self" : Str)) = false := by simpa using T.fne.1
  refine ks_codeAny_call_defAt (fd := ksFn "__init__" q (iA f p1 p2) (iB f q1 q2 q3 q4 q5 q6 q7 q8 q9 q10) sc .none .none doc pm an (.ref cda) ct cc) (body := iB f q1 q2 q3 q4 q5 q6 q7 q8 q9 q10) (binds := [("self", .ref x), (f, v)])
    hroom (X _ _ ho) rfl hlim (codeRec_of X hcd) rfl (BindsTo.of_eq (T.bi _ _ _ _ _ _ _ _ _)) T.snc (fun y hy => ?_) (fun h₁ hns k₁ => ?_) T.sco T.sge T.sk
  · simp only [List.mem_cons, List.not_mem_nil, or_false] at hy
    rcases hy with rfl | rfl
    · exact T.sse
    · exact T.sfl
  have X₁ : K.In h₁ := X.keeps k₁
  obtain ⟨hp, g, d, t, os⟩ := s
  have vself : (fun y => List.lookup y ([((("self" : Str)), (Value.ref x)), (f, v)] : List (Str × Value)).reverse) "self" = some (.ref x) := by
    show List.lookup ("self" : Str) [(f, v), (("self" : Str), Value.ref x)] = _
    have e : (("self" : Str) == f) = false := by
      rw [beq_eq_false_iff_ne]
      exact fun z => T.fne.1 z.symm
    rw [List.lookup_cons, e]
    simp [List.lookup]
  have vf : (fun y => List.lookup y ([((("self" : Str)), (Value.ref x)), (f, v)] : List (Str × Value)).reverse) f = some v := by
    show List.lookup f [(f, v), (("self" : Str), Value.ref x)] = _
    simp [List.lookup]
  show wpAt _ _ _ (execs (_ :: _) _) _ _ _
  refine ks_wpAt_execs_cons (ks_wpAt_Expr_any (ks_wpAt_MethodCall (pl := ?pl) ?_ ?he) ?_ ?_)
  case he =>
    show (do
      let ov ← attributeBase (.Call (.Name "super" q1) [] [] q2) "__init__" (ksEnv q sc hp.objs.size fI (.ref cda) cc) (eval (.Call (.Name "super" q1) [] [] q2) (ksEnv q sc hp.objs.size fI (.ref cda) cc))
      standAt q3.atName
      methodCall (.Call (.Name "super" q1) [] [] q2) "__init__" q3 q5 (ksEnv q sc hp.objs.size fI (.ref cda) cc) ov 1 (backTo q5 (starEach [.Name f q4] (ksEnv q sc hp.objs.size fI (.ref cda) cc))) []) = _
    unfold methodCall methodCallPos
    simp only [hln, Bool.or_true, if_true]
    rfl
  · refine ks_wpAt_super_base (env := ksEnv q sc hp.objs.size fI (.ref cda) cc) (ar := { arg := "self", annotation := none, pos := p1 }) T.ssu T.scl (by decide +kernel) rfl (X₁ _ _ ho) rfl rfl rfl (X₁ _ _ hcode) rfl hvs hfile T.top ?_
    refine ks_loadName_global T.sk T.ssu (loadGlobal_builtin (env := ksEnv q sc hp.objs.size fI (.ref cda) cc) (G.keeps k₁) T.su (hmb.keeps k₁) ((hbt "super" (by decide)).trans (by kernel_rfl)) ⟨rfl, ?_⟩)
    refine wpAny_loadName_free T.sk T.scl rfl ⟨_, X₁ _ _ hcell, rfl⟩ ?_
    refine wpAny_loadName_local T.sk T.sse hns vself ?_
    refine ks_wpAny_isType_cls (k₁ _ _ hD1) hD2 ⟨rfl, ?_⟩
    refine ks_wpAny_call_super (k₁ _ _ hD1) hD2 (k₁ _ _ hx) rfl (fun c e => by cases e) (looks_mroIn X₁ T.slf) (fun h₂ e₂ k₂ => ?_)
    have X₂ : K.In h₂ := X₁.keeps k₂
    have hx₂ := k₂ _ _ (k₁ _ _ hx)
    have I₂ : InstAt h₂ x (excO C t0) C none := ⟨hx₂, rfl, rfl, trivial⟩
    have hI : Looks (model prog w) h₂ (isInstance (.ref x) (.type B)) true := I₂.type.andThen (looks_subIn X₂ T.exB)
    have hm := T.sI
    unfold ks_superIn at hm
    rw [hcC] at hm
    refine kxs_getMethod T.bx.kf e₂ (looks_opaque X₂ T.th) (l₀ := cdC.mro) (fun A Q E s k q => wpAny_bind ((looks_clsIn X₂ hcC) A _ E s k (wpAny_pure q))) rfl X₂ hm hI hxC (by decide +kernel) ?_
    refine kxs_callWith (i := initId) (x := x) rfl ?_
    refine evalArgs_plain (spliced_cons ?_)
    have gb : ∀ b o, hp.get? b = some o → h₂.get? b = some o := fun b o z => k₂ b o (k₁ b o z)
    have k₃ : ∀ b o, h₂.get? b = some o → (h₂.push (kxs_mw initId x)).get? b = some o := fun b o z => Heap.get?_push_of_some _ z
    refine wpAny_Name (wpAny_loadName_local T.sk T.sfl ((hns.keeps k₂).keeps k₃) vf ?_) T.fne.2
    refine spliced_nil ⟨(show (h₂.push (kxs_mw initId x)).get? h₂.objs.size = some (kxs_mw initId x) from Heap.get?_push_at rfl rfl), ?_⟩
    show wpAny _ _ (call (.ref h₂.objs.size) [v]) _ _ _
    refine call_mw T.bx.fb (X₂.keeps k₃) T.cls (k₃ _ _ hx₂) (show (h₂.push (kxs_mw initId x)).get? h₂.objs.size = some (kxs_mw initId x) from Heap.get?_push_at rfl rfl) (one_size v) fun h₄ t1 k₄ hx₄ => ?_
    have X₄ : K.In h₄ := fun b o e => k₄ b o (fun z => by rw [z, hnx] at e; cases e) (k₃ _ _ (X₂ _ _ e))
    have hL : hp.objs.size ≠ x := Nat.ne_of_gt (Heap.lt_size hx)
    have hns₄ : h₄.Ns hp.objs.size _ := ((hns.keeps k₂).keeps k₃).at (fun o z => k₄ _ _ hL z)
    refine wpAt_of_wpAny ?_
    refine wpAny_execs_cons (plainObj_wpAny_Assign_Attribute ?_)
    refine wpAny_Name (wpAny_loadName_local T.sk T.sfl hns₄ vf ?_) T.fne.2
    refine wpAny_Name (wpAny_loadName_local T.sk T.sse hns₄ vself ?_) (by decide)
    refine set_plain X₄ (ox := excO C t1) (od := none) ⟨hx₄, rfl, rfl, trivial⟩ T.sa ?_
    refine osa0 T.bx.sf X₄ hx₄ T.ov T.tk T.hdC (fun h₅ tk₅ dx k₅ dn dne hx₅ hn₅ => ?_)
    have z : hp.objs.size ≤ h₄.objs.size := Nat.le_of_lt hns₄.lt
    exact wpAny_execs_nil (hq h₅ tk₅ dx t1 ⟨fun b o hb e => k₅ b o hb (k₄ b o hb (k₃ _ _ (gb b o e))), hx₅, Nat.le_trans z dn, dne, hn₅⟩)
  · show (sc.kind == .module && _) = false
    rw [T.sk]
    rfl
  · rfl
theorem own_made (T : XTxt prog K mg n f C fI sc ar bd B newId initId bmB) {v : Value} (X : K.In s.heap) (hlim : s.heap.NoLimit) (G : s.heap.Ns mainGlobals mg) (Bl : ∃ mb, s.heap.Ns builtinsNs mb ∧ ∀ x : Str, x ≠ "__name__" → mb x = bootBuiltins x) (hroom : A.depth + 1 < recursionLimit)
    (hq : ∀ h' tk e d, OwnMade s.heap h' e C d f v → R (.ok (.ret (.ref e))) { s with heap := h', toks := tk }) :
    codeAny (model prog w) A (.call (.ref C) ⟨[v], []⟩) R s := by
  obtain ⟨nm, N', qn, bs, bm, hdct, sn, sub, ab, col, dd, k0, k1, k2, k3, k5, hC, hT⟩ := excInit_of X T.cls
  obtain ⟨oI, hoI, hcI⟩ : ∃ oI, s.heap.get? fI = some oI ∧ oI.cls = .type "function" := by
    obtain ⟨o, ho, hc⟩ := Option.map_eq_some_iff.mp (show (K.lookup fI).map (·.cls) = some (.type "function") from beq_iff_eq.mp T.tC)
    exact ⟨o, X _ _ ho, hc⟩
  obtain ⟨hp, g, dr, tk, os⟩ := s
  have k : ∀ b o, hp.get? b = some o → ((hp.push (kdv_tup [v])).push (excO C hp.objs.size)).get? b = some o := fun b o e => Heap.get?_push_of_some _ (Heap.get?_push_of_some _ e)
  have hget : ((hp.push (kdv_tup [v])).push (excO C hp.objs.size)).get? (hp.objs.size + 1) = some (excO C hp.objs.size) := by heap_get
  have hnx : K.lookup (hp.objs.size + 1) = none := by
    cases e : K.lookup (hp.objs.size + 1) with
    | none => rfl
    | some o =>
      have z : hp.get? (hp.objs.size + 1) = some o := X _ _ e
      exact absurd (Nat.lt_of_succ_lt (Heap.lt_size z)) (Nat.lt_irrefl _)
  obtain ⟨mb, hmb, hbt⟩ := Bl
  refine call_own T.bx.fb hT hC (looks_findIn X T.iC) (fun self => exc_bind hoI hcI self) (one_size v) ?_
  refine own_init (s := ⟨(hp.push (kdv_tup [v])).push (excO C hp.objs.size), g, dr, tk, os⟩) T (X.keeps k) (hlim.keeps k) (G.keeps k) ⟨mb, hmb.keeps k, hbt⟩ hget hnx ?_ fun h' tk' dx t1 ⟨k', hx, dn, dne, hns⟩ => ?_
  · show A.depth + 1 < recursionLimit
    exact hroom
  · have old : ∀ b o, hp.get? b = some o → h'.get? b = some o := fun b o e => k' b o (Nat.ne_of_lt (Nat.lt_succ_of_lt (Heap.lt_size e))) (k b o e)
    have z : hp.objs.size + 1 + 1 ≤ dx := by
      first
        | (simpa only [Heap.size_push] using dn)
        | exact dn
        | (have q := dn; rw [Heap.size_push, Heap.size_push] at q; exact q)
    exact ⟨rfl, hq h' tk' (hp.objs.size + 1) dx ⟨old, Nat.le_succ _, ⟨_, _, hx, rfl, rfl, rfl, rfl⟩, Nat.le_trans (Nat.le_trans (Nat.le_succ _) (Nat.le_succ _)) z, dne, hns⟩⟩
end
end OwnX
end PySem


set_option Elab.async false
set_option linter.all false
set_option maxRecDepth 100000
set_option maxHeartbeats 2000000
namespace PySem.W
open PySem PySem.Spec PySem.Calls PyProof.Rows
section
variable {prog : Program} {w : World} {A : Around} {E : Value → Shared → Prop} {s : Shared} {K : Frag} {x D : Addr} {ox : Obj} {od : Option Obj}
theorem findObj_dataD {C : Addr} {name : Str} {a g : Value} (hc : (clsIn K C).isSome = true) (ha : findIn K (.ref C) name = some (some a)) (hg : specialIn K a "__get__" = some (some g)) (ht : takesIn K a = some true) : findObj K C od name = some (.bind g a) := by
  obtain ⟨cd, hc⟩ := Option.isSome_iff_exists.mp hc
  unfold findObj
  rw [hc, Option.bind_some, ha, Option.bind_some]
  simp [hg, ht]
theorem kin_classD {Q : Option Value → Shared → Prop} (hga : findIn K (.ref D) "__getattribute__" = some (some (.builtin "BaseException.__getattribute__"))) (hgt : findIn K (.ref D) "__getattr__" = some none) (hsub : subIn K (.ref D) (.type "BaseException") = some true)
    (hdct : hasDictIn K D = true) (ha : findIn K (.ref D) "__class__" = some (some (.builtin "object.__class__")))
    (hn : specialIn K (.builtin "object.__class__") "__get__" = some (some (.builtin "getset_descriptor.__get__"))) (htk : takesIn K (.builtin "object.__class__") = some true) (hm : mroIn K D (.type "object") = some true)
    (X : K.In s.heap) (I : InstAt s.heap x ox D od) (h : Q (some (.ref D)) { s with toks := s.toks + 1 }) : wpAny (model prog w) A (getAttr? (.ref x) "__class__") Q E s := by
  have hf : findObj K D od "__class__" = some (.bind (.builtin "getset_descriptor.__get__") (.builtin "object.__class__")) := findObj_dataD (by obtain ⟨cd, hc, _⟩ := any_some hdct; rw [hc]; rfl) ha hn htk
  obtain ⟨hp, g, d, t, os⟩ := s
  have L0 := I.type (M := model prog w)
  have L1 := looks_findIn (M := model prog w) X hga
  have L2 := looks_findIn (M := model prog w) X hgt
  have L3 := looks_find (M := model prog w) X I hf
  have sub : Looks (model prog w) hp (isInstance (.ref x) (.type "BaseException")) true := L0.andThen (looks_subIn X hsub)
  have hx0 : (false && onTheHeap (Value.builtin "BaseException.__getattribute__")) = false := rfl
  have hx2 : (Value.builtin "BaseException.__getattribute__" == Value.builtin "object.__getattribute__") = false := by decide +kernel
  have hx1 : (onTheHeap (Value.ref D) && Value.builtin "BaseException.__getattribute__" == Value.builtin "object.__getattribute__") = false := by rw [hx2]; rfl
  unfold getAttr? getAttrBy? getAttrBy
  refine wpAny_bind (wpAny_mkText (wpAny_bind (wpAny_attempt (wpAny_holding (wpAny_bind (L0.at (wpAny_bind (L1.at ?_))))))))
  show wpAny _ _ (if (onTheHeap (Value.ref D) && Value.builtin "BaseException.__getattribute__" == Value.builtin "object.__getattribute__") = true then _ else _) _ _ _
  rw [hx1, if_neg Bool.false_ne_true]
  unfold getAttrByItsOwn hookBefore
  refine wpAny_bind ?_
  rw [if_pos (show onTheHeap (Value.ref D) = true from rfl)]
  refine L2.at ?_
  refine wpAny_bind (wpAny_attempt (wpAny_holding ?_))
  unfold callGetattribute
  rw [hx0, if_neg Bool.false_ne_true]
  unfold boundAndCalled
  rw [PySem.F.excAttr_ValueError.ga.bind (.ref x)]
  refine wpAny_bind (wpAny_pure ?_)
  show wpAny _ _ (call (.builtin "BaseException.__getattribute__") [.ref x, .str "__class__" t]) _ _ _
  refine wpAny_call (codeAny_call_builtin PySem.F.excAttr_ValueError.ga.plain PySem.F.entry_bexc_ga ?_)
  refine @check_slot (model prog w) _ _ ⟨hp, g, d, t + 1, os⟩ "BaseException.__getattribute__" "BaseException" "__getattribute__" (.ref x) [.str "__class__" t] [] _ (by decide +kernel) (by decide +kernel) sub (PySem.F.args_bexc_ga (.ref x) (.str "__class__" t)) ?_
  unfold Builtin.«object.__getattribute__»
  refine wpAny_bind (wpAny_of_eq (a := ((Value.ref x : Value), [Value.str "__class__" t])) (by first | rfl | (simp only [slotArgs]; rfl)) ?_)
  refine wpAny_bind (wpAny_pure (wpAny_bind (L0.at (wpAny_bind (L3.at ?_)))))
  show wpAny _ _ (holding [Value.builtin "object.__class__"] (call (.builtin "getset_descriptor.__get__") [.builtin "object.__class__", .ref x, .ref D]) >>= ret) _ _ _
  refine wpAny_bind (wpAny_holding (wpAny_call (class_get (s := ⟨hp, g, d, t + 1, os⟩) (ox := ox) (od := od) X I hm ?_)))
  refine wpAny_pure ?_
  show wpAny _ _ (handedOut (.ref D)) _ _ _
  rw [handedOut_of (v := .ref D) rfl]
  first
    | exact wpAny_pure (wpAny_pure h)
    | exact wpAny_pure h
    | exact wpAny_pure (wpAny_bind (wpAny_pure (wpAny_pure h)))
theorem kitx_excD (C : L2.ExcC K D) : KitX K (.ref x) (.ref D) (fun h => InstAt h x ox D od) where
  ty := fun _ _ _ I => I.type
  it := fun _ _ X _ => by
    obtain ⟨cdD, hcD, _⟩ := any_some C.hd
    unfold clsIn at hcD
    split at hcD
    · rename_i c' d' cd' sl' ho
      intro A' Q' E' s' k q
      unfold isType loadHead
      exact wpAny_bind (wpAny_loadPart (k _ _ (X _ _ ho)) (wpAny_pure q))
    · cases hcD
  ne := fun h tp dd its n sl X htp => by
    obtain ⟨cdD, hcD, _⟩ := any_some C.hd
    refine Bool.eq_false_iff.mpr fun q => ?_
    have e : D = tp := Value.ref.inj (beq_iff_eq.mp q)
    subst e
    unfold clsIn at hcD
    split at hcD
    · rename_i c' d' cd' sl' ho
      have z := (X _ _ ho).symm.trans htp
      cases z
    · cases hcD
  ca := fun X I k => kin_classD C.hg C.hk C.hs C.hd C.ha C.hn C.ht C.hm X I k
end
end PySem.W
namespace L2
open PySem PySem.Spec PyProof.Rows PySem.OwnX
theorem relO_own {f : Str} {v : V} {v' : Value} (r : RelV v v') (y : Str) : RelO (List.lookup y [(f, v)]) (if y = f then some v' else none) := by
  by_cases hw : y = f
  · subst hw
    rw [if_pos rfl]
    have q : List.lookup y [(y, v)] = some v := by simp [List.lookup]
    rw [q]
    exact r
  · rw [if_neg hw]
    have qw : (y == f) = false := by simpa using hw
    have q2 : List.lookup y [(f, v)] = none := by simp [List.lookup, qw]
    rw [q2]
    trivial
section
variable {X : Cx} {n f : Str} {C fI : Addr} {sc : Scope} {ar : Arguments} {bd : List Stmt} {B newId initId : String} {bmB : List Value}
/-- Cls(e) -/
def tMkOwn (C : Addr) (f : Str) (te : TE) : St → Hp → XK → Prop := fun σ H Q => te σ H fun v H1 => ∀ d, H1 d = none → Q (.ref C) (some d) (upd H1 d (.xd [(f, v)]))
theorem pmk_ownF {a : Expr} {te : TE} {p pos : Pos} {k : Nat} (T : XTxt X.prog X.K X.mg n f C fI sc ar bd B newId initId bmB) (hr : Room k X.A) (ha : PE X a te) (hg : Gl X n) (hdb : (n == ("__debug__" : Str)) = false)
    (he : starEach (a :: []) X.env = (false, eval a X.env) :: starEach [] X.env) :
    PMk X (.Call (.Name n p) [a] [] pos) (tMkOwn C f te) := by
  intro pins s σ H Q I h
  refine wpAny_Call_Name_kw (ld_glob I hg T.gC ?_ hdb)
  refine PySem.W.callWith_K (h₀ := X.base) I.ok.mod.kin T.kC (thn ((pa_cons ha pa_nil he).run pos pins s σ H (fun vs H1 => match vs with | [v] => ∀ d, H1 d = none → Q (.ref C) (some d) (upd H1 d (.xd [(f, v)])) | _ => False) I h) fun us s1 hh => ?_) he rfl
  obtain ⟨vs, H1, I1, r1, q1⟩ := hh
  refine ⟨I1.kIn, ?_⟩
  cases r1 with
  | nil => exact q1.elim
  | cons rv rn =>
    rename_i v v' vs' us'
    cases rn with
    | cons _ _ => exact q1.elim
    | nil =>
    have q1 : ∀ d, H1 d = none → Q (.ref C) (some d) (upd H1 d (.xd [(f, v)])) := q1
    show wpAny _ _ (call (.ref C) [v']) _ _ _
    have hlim := I1.nolimit
    have hglob : s1.heap.Ns mainGlobals X.mg := I1.mod.glob.keeps I1.bk
    obtain ⟨mb, hb1, hb2⟩ := I1.mod.blt
    obtain ⟨hp, g, dr, tk, os⟩ := s1
    refine wpAny_call (own_made T I1.kIn hlim hglob ⟨mb, hb1.keeps I1.bk, hb2⟩ (by have := hr.dp; omega) fun h' tk' e d M => ?_)
    show MkP X pins σ Q (.ref e) ⟨h', g, dr, tk', os⟩
    obtain ⟨oe, fv, hoe, hc, hd, hdat, h1⟩ := M.obj
    have hns := M.ns
    obtain ⟨G', g1, g2⟩ := restrict h' fun b => decide (b ≠ e)
    have gk : ∀ b, b ≠ e → G'.get? b = h'.get? b := fun b hb => g1 b (decide_eq_true hb)
    have ge : G'.get? e = none := g2 e (by simp)
    have old : ∀ b o, hp.get? b = some o → G'.get? b = some o := fun b o q => (gk b (Nat.ne_of_lt (Nat.lt_of_lt_of_le (Heap.lt_size q) M.new))).trans (M.keep b o q)
    have ob : ObjOk X.prog X.w (upd H1 d (.xd [(f, v)])) G' d (.xd [(f, v)]) :=
      ⟨_, hns.at (fun o q => (gk d M.dne).trans q), fun y => relO_own rv y⟩
    have J : Inv X pins σ (upd H1 d (.xd [(f, v)])) ⟨G', g, dr, tk', os⟩ := I1.laid (t' := tk') old M.dbig ob
    refine ⟨e, oe, fv, ⟨G', g, dr, tk', os⟩, _, .ref C, some d, rfl, J, fun b o q => ?_, ge, hoe, ⟨hc, hd⟩, hdat, h1, ?_, rfl, I1.bare, raises_own T.exC T.tyC, q1 d (I1.hok.fresh M.dbig)⟩
    · by_cases hb : b = e
      · have q' : G'.get? b = some o := q
        rw [hb, ge] at q'; cases q'
      · exact (gk b hb).symm.trans q
    · rw [upd_ne (Ne.symm M.dne)]
      exact I1.hok.fresh M.new
/-- e.f, e the exception that the suite holds (at a; its class cls, its dict d) -/
def tByOwn (f : Str) (a : Addr) (dd : Addr) (te : TE) : TE := fun σ H Q => te σ H fun x H1 => x = .ref a ∧ ∃ (v : V), H1 dd = some (.xd [(f, v)]) ∧ Q v H1
theorem pe_byOwn {a dd : Addr} {oe : Obj} {pn : List (Addr × Obj)} {e : Expr} {te : TE} {pos : Pos} (ga : PySem.W.findIn X.K (.ref C) "__getattribute__" = some (some (.builtin "BaseException.__getattribute__"))) (gg : PySem.W.findIn X.K (.ref C) "__getattr__" = some none) (exC : PySem.W.subIn X.K (.ref C) (.type "BaseException") = some true) (hdC : PySem.W.hasDictIn X.K C = true) (noN : PySem.W.findIn X.K (.ref C) f = some none)
    (hz : Zc (.ref C) (some dd) oe) (hf : ∃ vs, oe.data = .fields vs) (he : PE (X.suite a ((a, oe) :: pn)) e te)
    (hb : attributeBase e f X.env (eval e X.env) = eval e X.env) :
    PE (X.suite a ((a, oe) :: pn)) (.Attribute e f pos) (tByOwn f a dd te) := by
  refine ⟨fun pins s σ H Q I h => ?_⟩
  refine attr_of hb (thn (he.run pins s σ H _ I h) fun u s1 hh => ?_)
  obtain ⟨x, H1, I1, rx, ex, v, ea, q⟩ := hh
  subst ex
  obtain rfl : u = Value.ref a := rx
  obtain ⟨ha, _⟩ := I1.pin (a, oe) (List.mem_append_left _ List.mem_cons_self)
  obtain ⟨vs, hd⟩ := hf
  have hx : ObjOk X.prog X.w H1 s1.heap dd (.xd [(f, v)]) := I1.hok dd _ ea
  obtain ⟨mA, hns, hr⟩ := hx
  obtain ⟨od, ho, hl⟩ := lookIn_ns hns
  have l : List.lookup f [(f, v)] = some v := by simp [List.lookup]
  obtain ⟨u, hu, ru⟩ := RelO.some_of (v := v) (o := mA f) (by rw [← l]; exact hr f)
  have J : PySem.W.InstAt s1.heap a oe C (some od) := ⟨ha, hz.1, by unfold PySem.W.notCls; rw [hd] <;> rfl, by rw [hz.2]; exact ho⟩
  exact HandSPX.exc_get I1.kIn J ga gg exC (PySem.W.findObj_own hdC noN rfl (by rw [hl, hu])) (handed_of ru) ⟨v, H1, I1.tok _, ru, q⟩
/-- isinstance(e, c), e the exception that the suite holds, with a dict of its own -/
def rIsD (K : PySem.W.Frag) (D a dd : Addr) : List V → Hp → VK → Prop := fun xs H Q => ∃ (c : V) (cv : Value) (b : Bool) (fs : List (Str × V)), xs = [.ref a, c] ∧ (∀ u, RelV c u → u = cv) ∧ PySem.W.kitOne K (.ref D) cv = some b ∧ H dd = some (.xd fs) ∧ Q (.bl b) H
theorem call_isD {a D dd : Addr} {oe : Obj} {pn : List (Addr × Obj)} (C : ExcC X.K D) (hz : Zc (.ref D) (some dd) oe) (hf : ∃ vs, oe.data = .fields vs) : CallR (X.suite a ((a, oe) :: pn)) (.builtin "isinstance") (rIsD X.K D a dd) := by
  intro pins s σ H xs us Q I r h
  obtain ⟨c, cv, b, fs, rfl, hcv, e, hdd, q⟩ := h
  cases r with
  | cons rx rr =>
    cases rr with
    | cons rt rr =>
      cases rr
      cases rx
      have ec := hcv _ rt
      subst ec
      obtain ⟨hget, _⟩ := I.pin (a, oe) (List.mem_append.mpr (.inl List.mem_cons_self))
      obtain ⟨vs, hv⟩ := hf
      have hx : ObjOk X.prog X.w H s.heap dd (.xd fs) := I.hok dd _ hdd
      obtain ⟨mA, hns, _⟩ := hx
      obtain ⟨od, ho, _⟩ := lookIn_ns hns
      have J : PySem.W.InstAt s.heap a oe D (some od) := ⟨hget, hz.1, by unfold PySem.W.notCls; rw [hv] <;> rfl, by rw [hz.2]; exact ho⟩
      exact PySem.W.kia_one (PySem.W.kitx_excD C) I.kIn J e (fun z => nomatch z) fun tk => ⟨.bl b, H, I.kept (t' := tk) fun _ _ z => z, rfl, q⟩
end
end L2


set_option Elab.async false
set_option linter.all false
set_option maxRecDepth 100000
set_option maxHeartbeats 2000000
namespace FM
open PySem L2
section
variable {C : Cz} {a b d e : Expr} {es : List Expr} {pos : Pos} {ma mb md : Env → Res W} {va vb vd : Env → Res Arg} {mt mu : Env → Res Bool} {mx : Env → Res U}
/-- a new exception's dict is laid, and nobody changes it -/
theorem RE.layX {Z : Kx} {B : Nat → Option V} {T : Option Ct} {g : Sg} {r : Env} {σ : L2.St} {F : Fp} (re : RE Z B T g r σ F) {a : Addr} {o : HO} (n : g.H a = none) :
    RE Z B T ⟨upd g.H a o, fun b => g.L b ∨ b ∈ [a]⟩ r σ F ∧ Go g F ⟨upd g.H a o, fun b => g.L b ∨ b ∈ [a]⟩ F ∧ Kp Z g ⟨upd g.H a o, fun b => g.L b ∨ b ∈ [a]⟩ := by
  obtain ⟨re2, t2⟩ := re.lay (o := o) n
  have x := tmp_new re n
  have x2 : Tmp { g with H := upd g.H a o } F [a] := ⟨x.nod, x.nl, x.nf⟩
  obtain ⟨re3, kp⟩ := re2.frz x2 (fun b m => by rw [List.mem_singleton.mp m]; exact ⟨o, upd_same⟩)
  have t3 : Go g F ⟨upd g.H a o, fun b => g.L b ∨ b ∈ [a]⟩ F := t2.frz (fun b m => by rw [List.mem_singleton.mp m]; exact .inl n)
  exact ⟨re3, t3, t3.kp re⟩
/-- raise Cls(e) -/
def rseM (c k : Nat) (ma : Env → Res W) : Env → SRes := fun r => (ma r).toS fun w r1 => .ex ⟨c, [k], [w]⟩ r1
theorem ss_rse {c k j : Nat} {n : Str} {p pos2 : Pos} {fI : Addr} {sc : Scope} {ar : Arguments} {bd : List Stmt} {Bn newId initId : String} {bmB : List Value} (T : OwnX.XTxt C.X.prog C.X.K C.X.mg n (nmS k) (C.ca c) fI sc ar bd Bn newId initId bmB)
    (hc : C.X.calm = true) (tk : Takes C.X C.W) (hr : Room j C.X.A) (ha : SE C a ma) (hs : notStar a = true) (hg : Gl C.X n) (hdb : (n == ("__debug__" : Str)) = false) :
    SS C (.Raise (some (.Call (.Name n p) [a] [] pos)) none pos2) (rseM c k ma) := by
  obtain ⟨t, pa, i⟩ := ha
  refine ⟨_, ps_raise hc tk (pmk_ownF T hr pa hg hdb (star_ hs)), fun g r σ F D re dk => ?_⟩
  refine i g r σ F _ re (DOk.seq (show DOk C D g F ((ma r).toS _) from dk) fun w r1 g1 F1 t1 re1 k1 v rv d hd => ?_)
  obtain ⟨re2, t2, kp⟩ := re1.layX (o := .xd [(nmS k, v)]) hd
  exact k1 σ ⟨upd g1.H d (.xd [(nmS k, v)]), fun b => g1.L b ∨ b ∈ [d]⟩ F1 d [v] t2 re2 ⟨_, upd_same, rfl, rfl⟩ (.inr List.mem_cons_self) ⟨v, [], rfl, rv.kp kp, rfl⟩
/-- the canonical reading of a suite -/
def tCan (C : Cz) (m : Env → SRes) : TS := fun D σ H => ∃ g r F, g.H = H ∧ RE C.Z C.B C.T g r σ F ∧ DOk C D g F (m r)
theorem SSs.can {sts : List Stmt} {m : Env → SRes} (h : SSs C sts m) : PSs C.X sts (tCan C m) := by
  obtain ⟨t, p, i⟩ := h
  refine ⟨fun pins s σ H D I q => ?_⟩
  obtain ⟨g, r, F, rfl, re, dk⟩ := q
  exact p.run pins s σ g.H D I (i g r σ F D re dk)
/-- the exception's name is bound -/
theorem RE.inX {Z : Kx} {B : Nat → Option V} {g : Sg} {r : Env} {σ : L2.St} {F : Fp} {i c : Nat} {ks : List Nat} {ws : List W} {xs : List V} {a d : Addr} {e : En} (re : RE Z B none g r σ F) (hi : nth r i = some e) (hp : plainE e = true) (xd : XD g ks xs d) (ld : g.L d) (rw : RWs Z g ws xs) :
    RE Z B (some ⟨i, a, c, d⟩) g (r.set i (.x c ks ws)) (σ.set i (some (.ref a))) F := by
  rw [nth_iff] at hi
  have hF : F i = [] := by
    obtain ⟨o, _, h⟩ := re.at_ i e hi
    cases e with
    | no => exact h
    | m u => cases u with
      | d w => obtain ⟨v, _, h2⟩ := h; exact h2.1
      | _ => cases hp
    | _ => cases hp
  refine ⟨by rw [List.length_set, List.length_set]; exact re.len, fun j x hx => ?_, fun j hj => re.out j (by rwa [List.length_set] at hj), re.nod, re.dis, re.nl, re.la⟩
  by_cases hj : j = i
  · subst hj
    have hl := lt_of_get hi
    rw [List.getElem?_set_self hl] at hx
    cases hx
    refine ⟨some (.ref a), List.getElem?_set_self (by rw [← re.len]; exact hl), hF, ⟨j, a, c, d⟩, rfl, rfl, rfl, rfl, xs, xd, ld, rw⟩
  · rw [List.getElem?_set_ne (Ne.symm hj)] at hx
    obtain ⟨o, h1, h2⟩ := re.at_ j x hx
    refine ⟨o, by rw [List.getElem?_set_ne (Ne.symm hj)]; exact h1, ?_⟩
    cases x with
    | no => exact h2
    | m u => exact h2
    | t u => exact h2
    | x c' ks' ws' => obtain ⟨_, t, ht, _⟩ := h2; cases ht
/-- and gone -/
theorem RE.outX {Z : Kx} {B : Nat → Option V} {g : Sg} {r : Env} {σ : L2.St} {F : Fp} {i c : Nat} {a d : Addr} (re : RE Z B (some ⟨i, a, c, d⟩) g r σ F) : RE Z B none g (r.set i .no) (σ.set i none) (F.set i []) := by
  refine ⟨by rw [List.length_set, List.length_set]; exact re.len, fun j x hx => ?_, fun j hj => ?_, fun j => ?_, fun j k b hj hk => ?_, fun j b hj => ?_, re.la⟩
  · by_cases hj : j = i
    · subst hj
      have hl : j < r.length := by
        have := lt_of_get hx
        rwa [List.length_set] at this
      rw [List.getElem?_set_self hl] at hx
      cases hx
      exact ⟨none, List.getElem?_set_self (by rw [← re.len]; exact hl), Fp.set_same⟩
    · rw [List.getElem?_set_ne (Ne.symm hj)] at hx
      obtain ⟨o, h1, h2⟩ := re.at_ j x hx
      refine ⟨o, by rw [List.getElem?_set_ne (Ne.symm hj)]; exact h1, ?_⟩
      rw [Fp.set_ne hj]
      cases x with
      | no => exact h2
      | m u => exact h2
      | t u => exact h2
      | x c' ks' ws' => obtain ⟨_, t, ht, hi, _⟩ := h2; cases ht; exact absurd hi.symm hj
  · by_cases hji : j = i
    · subst hji; exact Fp.set_same
    · rw [Fp.set_ne hji]; exact re.out j (by rwa [List.length_set] at hj)
  · by_cases hji : j = i
    · subst hji; rw [Fp.set_same]; exact List.nodup_nil
    · rw [Fp.set_ne hji]; exact re.nod j
  · have h1 : j ≠ i := fun z => by subst z; rw [Fp.set_same] at hj; cases hj
    have h2 : k ≠ i := fun z => by subst z; rw [Fp.set_same] at hk; cases hk
    rw [Fp.set_ne h1] at hj
    rw [Fp.set_ne h2] at hk
    exact re.dis j k b hj hk
  · have h1 : j ≠ i := fun z => by subst z; rw [Fp.set_same] at hj; cases hj
    rw [Fp.set_ne h1] at hj
    exact re.nl j b hj
theorem Go.outX {g g' : Sg} {F F' : Fp} {i : Nat} (t : Go g F g' F') : Go g F g' (F'.set i []) := ⟨t.l, t.k, t.a, t.n, fun j b hj => by
  by_cases h : j = i
  · subst h; rw [Fp.set_same] at hj; cases hj
  · rw [Fp.set_ne h] at hj; exact t.s j b hj⟩
theorem Tmp.outX {g : Sg} {F : Fp} {i : Nat} {fp : List Addr} (t : Tmp g F fp) : Tmp g (F.set i []) fp := ⟨t.nod, t.nl, fun a m j hj => by
  by_cases h : j = i
  · subst h; rw [Fp.set_same] at hj; cases hj
  · rw [Fp.set_ne h] at hj; exact t.nf a m j hj⟩
/-- the context of a suite -/
def Cz.suite (C : Cz) (a : Addr) (oe : Obj) (pn : List (Addr × Obj)) (i c : Nat) (d : Addr) : Cz := ⟨C.X.suite a ((a, oe) :: pn), C.ca, fun _ _ _ _ => False, C.B, some ⟨i, a, c, d⟩⟩
def tryM (cs no : List Nat) (i : Nat) (mb ms : Env → SRes) : Env → SRes := fun r => match mb r with
  | .ex x r1 => if cs.any (Nat.beq x.c) then (match nth r1 i with
    | some e => if plainE e then unX i (ms (r1.set i (.x x.c x.ks x.ws))) else .bad
    | none => .bad) else if no.any (Nat.beq x.c) then .ex x r1 else .bad
  | y => y
def endX (i : Nat) (D : Ends) : Ends := { nx := fun σ' H' => D.nx (σ'.set i none) H', rt := D.rt, bk := fun σ' H' => D.bk (σ'.set i none) H', ct := fun σ' H' => D.ct (σ'.set i none) H' }
theorem DOk.unX {C' : Cz} {g : Sg} {F : Fp} {D : Ends} {i c : Nat} {a d : Addr} (hT : C.T = none) (hz : C'.Z = C.Z) (hB : C'.B = C.B) (hT' : C'.T = some ⟨i, a, c, d⟩) : ∀ {x : SRes}, DOk C D g F (FM.unX i x) → DOk C' (endX i D) g F x
  | .nx r, h => fun g' F' σ t re => h g' _ _ t.outX (by rw [hT, ← hz, ← hB]; rw [hT'] at re; exact re.outX)
  | .bk r, h => fun g' F' σ t re => h g' _ _ t.outX (by rw [hT, ← hz, ← hB]; rw [hT'] at re; exact re.outX)
  | .ct r, h => fun g' F' σ t re => h g' _ _ t.outX (by rw [hT, ← hz, ← hB]; rw [hT'] at re; exact re.outX)
  | .rt u r, h => fun g' F' σ v fp t re o x s => h g' _ (σ.set i none) v fp t.outX (by rw [hT, ← hz, ← hB]; rw [hT'] at re; exact re.outX) (by rw [← hz]; exact o) x.outX s
  | .ex x r, h => False.elim h
  | .bad, h => False.elim h
theorem ss_try {cs no : List Nat} {i : Nat} {x n : Str} {c : Nat} {body suite : List Stmt} {b₀ : Stmt} {np pos' : Pos} {mb ms : Env → SRes} (hT : C.T = none) (hs : C.X.stack = C.X.env :: C.X.outer) (hf : C.X.env.frame = some C.X.env.locals) (hN : C.X.N.Nodup) (hi : C.X.N[i]? = some n) (hln : C.X.env.kindOf n = some .local) (hc : Names C.X x (.ref (C.ca c))) (tk : Takes C.X C.W)
    (hcs : ∀ k ∈ cs, PySem.W.exmOne C.X.K (.ref (C.ca k)) (.ref (C.ca c)) = some true) (hno : ∀ k ∈ no, PySem.W.exmOne C.X.K (.ref (C.ca k)) (.ref (C.ca c)) = some false)
    (hb : ∀ (W : WX) (pn : List (Addr × Obj)) (xe : Value → Shared → Prop), Takes (C.X.tr pn xe) W → PassesOwn (model C.X.prog C.X.w) C.X.A C.X.env xe → SSs ⟨C.X.tr pn xe, C.ca, W, C.B, C.T⟩ body mb)
    (hsu : ∀ (a : Addr) (oe : Obj) (k : Nat) (d : Addr) (pn : List (Addr × Obj)), k ∈ cs → Zc (.ref (C.ca k)) (some d) oe → (∃ vs, oe.data = .fields vs) → SSs (C.suite a oe pn i k d) (b₀ :: suite) ms) :
    SS C (.Try body [.ExceptHandler (some (.Name x np)) (some n) (b₀ :: suite) pos'] [] [] pos) (tryM cs no i mb ms) := by
  let ts : Addr → Value → Option Addr → TS := fun a cls d D σ H => ∃ k dd, k ∈ cs ∧ cls = .ref (C.ca k) ∧ d = some dd ∧ tCan ⟨C.X, C.ca, fun _ _ _ _ => False, C.B, some ⟨i, a, k, dd⟩⟩ ms D σ H
  have P := ps_try_as (X := C.X) (pos := pos) (np := np) (pos' := pos') (body := body) (suite := suite) (b₀ := b₀) (Wout := C.W) (ts := ts) (tb := fun W => tCan ⟨C.X, C.ca, W, C.B, C.T⟩ mb) hs hf hN hi hln hc tk
    (fun W pn xe t p => (hb W pn xe t p).can)
    (fun a oe cls d pn hz hv => ⟨fun pins s σ H D I h => by
      obtain ⟨k, dd, hk, rfl, rfl, h⟩ := h
      exact (hsu a oe k dd pn hk hz hv).can.run pins s σ H D I h⟩)
  refine ⟨_, P, fun g r σ F D re dk => ?_⟩
  refine ⟨g, r, F, rfl, re, ?_⟩
  unfold tryM at dk
  cases hm : mb r with
  | nx r1 => rw [hm] at dk; exact dk
  | rt u r1 => rw [hm] at dk; exact dk
  | bk r1 => rw [hm] at dk; exact dk
  | ct r1 => rw [hm] at dk; exact dk
  | bad => rw [hm] at dk; exact dk
  | ex y r1 =>
    rw [hm] at dk
    dsimp only at dk
    intro σ1 g' F' d xs t1 re1 xd ld rw
    show ∃ b, PySem.W.exmOne C.X.K (.ref (C.ca y.c)) (.ref (C.ca c)) = some b ∧ _
    cases h1 : cs.any (Nat.beq y.c) with
    | true =>
      obtain ⟨k, hk, ek⟩ := List.any_eq_true.mp h1
      have ek := Nat.eq_of_beq_eq_true ek
      subst ek
      rw [h1, if_pos rfl] at dk
      refine ⟨true, hcs _ hk, fun _ a na => ?_, fun z => nomatch z⟩
      cases hn : nth r1 i with
      | none => rw [hn] at dk; exact False.elim dk
      | some e =>
        rw [hn] at dk
        cases hp : plainE e with
        | false => simp only [hp] at dk; exact False.elim dk
        | true =>
          simp only [hp, if_true] at dk
          refine ⟨y.c, d, hk, rfl, rfl, g', r1.set i (.x y.c y.ks y.ws), F', rfl, ?_, ?_⟩
          · have re1' : RE C.Z C.B none g' r1 σ1 F' := by
              have := re1
              rw [show (⟨C.X, C.ca, _, C.B, C.T⟩ : Cz).T = none from hT] at this
              exact this
            exact re1'.inX (c := y.c) hn hp xd ld rw
          · exact DOk.unX (C := C) (C' := ⟨C.X, C.ca, fun _ _ _ _ => False, C.B, some ⟨i, a, y.c, d⟩⟩) hT rfl rfl rfl (DOk.mono (C := C) t1 dk)
    | false =>
      rw [h1] at dk
      simp only [Bool.false_eq_true, if_false] at dk
      cases h2 : no.any (Nat.beq y.c) with
      | false => simp only [h2, Bool.false_eq_true, if_false] at dk; exact False.elim dk
      | true =>
        simp only [h2, if_true] at dk
        obtain ⟨k, hk, ek⟩ := List.any_eq_true.mp h2
        have ek := Nat.eq_of_beq_eq_true ek
        subst ek
        exact ⟨false, hno _ hk, fun z => Bool.noConfusion z, fun _ => dk σ1 g' F' d xs t1 re1 xd ld rw⟩
def xflM (i k : Nat) : Env → Res W := fun r => match nth r i with
    | some (.x _ [l] [w]) => if Nat.beq l k then .ok w r else .bad
    | _ => .bad
theorem se_xfl {i j k c : Nat} {n f : Str} {oe : Obj} {pn : List (Addr × Obj)} {at_ dd : Addr} {npos : Pos} (E : ExcC C.X.K (C.ca c)) (hf : f = nmS k) (noN : PySem.W.findIn C.X.K (.ref (C.ca c)) f = some none) (hz : Zc (.ref (C.ca c)) (some dd) oe) (hv : ∃ vs, oe.data = .fields vs)
    (hN : C.X.N[i]? = some n) (hvis : Vis C.X.env.scope n) (hd : (n == ("__debug__" : Str)) = false) (hcd : (n == ("__classdict__" : Str)) = false) :
    SE (C.suite at_ oe pn j c dd) (.Attribute (.Name n npos) f pos) (xflM i k) := by
  have P := pe_byOwn (X := C.X) (C := C.ca c) (f := f) (a := at_) (dd := dd) (oe := oe) (pn := pn) (pos := pos) E.hg E.hk E.hs E.hd noN hz hv (pe_var (X := C.X.suite at_ ((at_, oe) :: pn)) (pos := npos) hN hvis hd hcd) rfl
  refine ⟨_, P, fun g r σ F Q re k1 => ?_⟩
  unfold xflM at k1
  cases hn : nth r i with
  | none => rw [hn] at k1; exact False.elim k1
  | some e =>
    rw [hn] at k1
    cases e with
    | x c' ks ws =>
      rcases ks with _ | ⟨l, _ | ⟨l2, ks⟩⟩
      · exact False.elim k1
      rotate_left
      · exact False.elim k1
      rcases ws with _ | ⟨w, _ | ⟨w2, ws⟩⟩
      · exact False.elim k1
      rotate_left
      · exact False.elim k1
      · dsimp only at k1
        split at k1
        · rename_i hl
          have hl := Nat.eq_of_beq_eq_true hl
          subst hl
          rw [nth_iff] at hn
          obtain ⟨o, ho, _, t, ht, hi, hc, rfl, xs, ⟨fs, xd1, xd2, xd3⟩, ld, rw⟩ := re.at_ i _ hn
          cases ht
          obtain ⟨v, r', rfl, rv, rr⟩ := rw
          cases rr
          refine ⟨_, ho, rfl, v, ?_, k1.now re v rv⟩
          match fs, xd2, xd3 with
          | [(a1, a2)], e1, e2 =>
            have q1 : a1 = nmS l := List.head_eq_of_cons_eq e1
            have q2 : a2 = v := List.head_eq_of_cons_eq e2
            rw [q1, q2] at xd1
            rw [hf]
            exact xd1
        · exact False.elim k1
    | no => exact False.elim k1
    | m u => exact False.elim k1
    | t u => exact False.elim k1
/-- isinstance(e, c) of the caught exception -/
def xisM (i : Nat) (cs no : List Nat) : Env → Res W := fun r => match nth r i with
    | some (.x c [_] [_]) => if cs.any (Nat.beq c) then .ok (.bl true) r else if no.any (Nat.beq c) then .ok (.bl false) r else .bad
    | _ => .bad
theorem se_xis {i j c : Nat} {cs no : List Nat} {n : Str} {oe : Obj} {pn : List (Addr × Obj)} {at_ dd : Addr} {npos p : Pos} {ce : Expr} {cw : V} {cv : Value} (E : ExcC C.X.K (C.ca c)) (hz : Zc (.ref (C.ca c)) (some dd) oe) (hv : ∃ vs, oe.data = .fields vs)
    (hN : C.X.N[i]? = some n) (hvis : Vis C.X.env.scope n) (hd : (n == ("__debug__" : Str)) = false) (hcd : (n == ("__classdict__" : Str)) = false) (hg : Gl C.X "isinstance") (hm : C.X.mg "isinstance" = none)
    (pc : PE (C.X.suite at_ ((at_, oe) :: pn)) ce (tC cw)) (hcv : ∀ u, RelV cw u → u = cv) (hst : notStar ce = true) (hcs : ∀ k ∈ cs, PySem.W.kitOne C.X.K (.ref (C.ca k)) cv = some true) (hno : ∀ k ∈ no, PySem.W.kitOne C.X.K (.ref (C.ca k)) cv = some false) :
    SE (C.suite at_ oe pn j c dd) (.Call (.Name "isinstance" p) [.Name n npos, ce] [] pos) (xisM i cs no) := by
  have P := pe_blt (X := C.X.suite at_ ((at_, oe) :: pn)) (pos := pos) (p := p) (.inl ⟨_, rfl⟩) (call_isD (X := C.X) (a := at_) (D := C.ca c) (dd := dd) (oe := oe) (pn := pn) E hz hv) hg hm (by decide +kernel) (pa_cons (pe_var (X := C.X.suite at_ ((at_, oe) :: pn)) (pos := npos) hN hvis hd hcd) (pa_cons pc pa_nil (star_ hst)) rfl) (by decide +kernel) (by decide +kernel) (by rw [List.all_cons, List.all_cons, hst]; rfl)
  refine ⟨_, P, fun g r σ F Q re k1 => ?_⟩
  unfold xisM at k1
  cases hn : nth r i with
  | none => rw [hn] at k1; exact False.elim k1
  | some e =>
    rw [hn] at k1
    cases e with
    | x c' ks ws =>
      rcases ks with _ | ⟨l, _ | ⟨l2, ks⟩⟩
      · exact False.elim k1
      rotate_left
      · exact False.elim k1
      rcases ws with _ | ⟨w, _ | ⟨w2, ws⟩⟩
      · exact False.elim k1
      rotate_left
      · exact False.elim k1
      · dsimp only at k1
        rw [nth_iff] at hn
        obtain ⟨o, ho, _, t, ht, hi, hc, rfl, xs, ⟨fs, xd1, xd2, xd3⟩, ld, rw⟩ := re.at_ i _ hn
        cases ht
        dsimp only at hc
        subst hc
        split at k1
        · rename_i h1
          obtain ⟨k, hk, ek⟩ := List.any_eq_true.mp h1
          have ek := Nat.eq_of_beq_eq_true ek
          subst ek
          exact ⟨_, ho, cw, cv, true, fs, rfl, hcv, hcs _ hk, xd1, k1.now re _ rfl⟩
        · split at k1
          · rename_i h1
            obtain ⟨k, hk, ek⟩ := List.any_eq_true.mp h1
            have ek := Nat.eq_of_beq_eq_true ek
            subst ek
            exact ⟨_, ho, cw, cv, false, fs, rfl, hcv, hno _ hk, xd1, k1.now re _ rfl⟩
          · exact False.elim k1
    | no => exact False.elim k1
    | m u => exact False.elim k1
    | t u => exact False.elim k1
end
end FM


set_option Elab.async false
set_option linter.all false
set_option maxRecDepth 100000
set_option maxHeartbeats 2000000
namespace L2
open PySem PySem.Spec PyProof.Rows
/-- match: cases that are texts -/
def tCs (r : R2) : List (Str × TS) → V → TS
  | [], _ => fun D σ H => D.nx σ H
  | (k, tb) :: l, v => fun D σ H => r v (.str k) H fun x H' => ∃ b, x = .bl b ∧ if b = true then tb D σ H' else tCs r l v D σ H'
inductive CasesOk (X : Cx) : List MatchCase → List (Str × TS) → Prop
  | nil : CasesOk X [] []
  | cons {k : Str} {j : Nat} {cp vp : Pos} {body : List Stmt} {tb : TS} {rest : List MatchCase} {l : List (Str × TS)} (hb : PSs X body tb) (r : CasesOk X rest l) :
      CasesOk X (⟨.MatchValue (.Constant (.str k) j cp) vp, none, body⟩ :: rest) ((k, tb) :: l)
section
variable {X : Cx}
theorem cases_run {r : R2} (ho : OpR X (compareOp .Eq) r) {cs : List MatchCase} {l : List (Str × TS)} (h : CasesOk X cs l) : ∀ (first : Bool) (pins : List (Addr × Obj)) (s : Shared) (σ : St) (H : Hp) (D : Ends) (v : V) (u : Value), Inv X pins σ H s → RelV v u → tCs r l v D σ H →
    wpAny (model X.prog X.w) X.A (matchCases cs X.env u first) (SP X pins D) X.xe s := by
  induction h with
  | nil => exact fun first pins s σ H D v u I rv q => wpAny_matchCases_nil ⟨σ, H, I, q⟩
  | @cons k j cp vp body tb rest l hb hr ih =>
    intro first pins s σ H D v u I rv q
    refine wpAny_matchCases_cons (wpAny_matchPattern_Value ?_)
    refine thn (pe_str.run pins s σ H (fun x H1 => x = .str k ∧ r v (.str k) H1 fun x H' => ∃ b, x = .bl b ∧ if b = true then tb D σ H' else tCs r l v D σ H') I ⟨rfl, q⟩) fun x s1 ⟨y, H1, I1, r1, e, q1⟩ => ?_
    subst e
    refine thn (ho pins s1 σ H1 v (.str k) u x _ I1 rv r1 q1) fun c s2 ⟨z, H2, I2, r2, b, e, q2⟩ => ?_
    subst e
    cases r2
    refine wpAny_truthy_bool ?_
    cases b with
    | true => exact wpAny_assignInOrder_none (hb.run pins s2 σ H2 D I2 q2)
    | false => exact ih false pins s2 σ H2 D v u I2 rv q2
theorem ps_mat {r : R2} {e : Expr} {te : TE} {pos : Pos} {cs : List MatchCase} {l : List (Str × TS)} (ho : OpR X (compareOp .Eq) r) (he : PE X e te) (h : CasesOk X cs l) : PS X (.Match e cs pos) (fun D σ H => te σ H fun v H1 => tCs r l v D σ H1) :=
  ⟨fun pins s σ H D I q => wpAny_Match (thn (he.run pins s σ H _ I q) fun u s1 ⟨v, H1, I1, rv, q1⟩ => cases_run ho h true pins s1 σ H1 D v u I1 rv q1)⟩
end
end L2
namespace FM
open PySem L2
section
variable {C : Cz} {a b d e : Expr} {es : List Expr} {pos : Pos} {ma mb md : Env → Res W}
def pickM (w : W) (r : Env) : List (W × (Env → SRes)) → SRes
  | [] => .nx r
  | (k, b) :: cs => match eqW w k with
    | some true => b r
    | some false => pickM w r cs
    | none => .bad
/-- the cases and their readings -/
inductive MatR (C : Cz) : List MatchCase → List (W × (Env → SRes)) → Prop
  | nil : MatR C [] []
  | cons {s : List Nat} {k : Str} {j : Nat} {cp vp : Pos} {body : List Stmt} {m : Env → SRes} {rest : List MatchCase} {l : List (W × (Env → SRes))} (hk : k = sv s) (hb : SSs C body m) (r : MatR C rest l) :
      MatR C (⟨.MatchValue (.Constant (.str k) j cp) vp, none, body⟩ :: rest) ((.str s, m) :: l)
theorem mat_ok {r : R2} (hr : ∀ (g : Sg) (x y : W) (b : Bool) (vx vy : V) (Q : VK), cmpW .eq x y = some b → BR C.Z g x vx → BR C.Z g y vy → Q (.bl b) g.H → r vx vy g.H Q) {cs : List MatchCase} {l : List (W × (Env → SRes))} (h : MatR C cs l) :
    ∃ tl, CasesOk C.X cs tl ∧ ∀ (g : Sg) (ρ : Env) (σ : L2.St) (F : Fp) (D : Ends) (w : W) (v : V), RE C.Z C.B C.T g ρ σ F → RW C.Z g w v → DOk C D g F (pickM w ρ l) → tCs r tl v D σ g.H := by
  induction h with
  | nil => exact ⟨[], .nil, fun g ρ σ F D w v re rv dk => dk g F σ (.refl g F) re⟩
  | @cons s k j cp vp body m rest l hk hb hr' ih =>
    obtain ⟨tl, c, q⟩ := ih
    obtain ⟨t, p, i⟩ := hb
    refine ⟨(k, t) :: tl, .cons p c, fun g ρ σ F D w v re rv dk => ?_⟩
    unfold pickM at dk
    cases he : eqW w (.str s) with
    | none => rw [he] at dk; exact False.elim dk
    | some b =>
      refine hr g w (.str s) b v (.str k) _ he rv.br (show V.str k = V.str (sv s) by rw [hk]) ⟨b, rfl, ?_⟩
      rw [he] at dk
      cases b with
      | true => rw [if_pos rfl]; exact i g ρ σ F D re dk
      | false => rw [if_neg (by decide)]; exact q g ρ σ F D w v re rv dk
def matM (ma : Env → Res W) (l : List (W × (Env → SRes))) : Env → SRes := fun r => (ma r).toS fun w r1 => pickM w r1 l
theorem ss_mat (hu : C.X.A.units + 64 < cLine) {cs : List MatchCase} {l : List (W × (Env → SRes))} (h : SE C e ma) (hc : MatR C cs l) : SS C (.Match e cs pos) (matM ma l) := by
  obtain ⟨t, p, i⟩ := h
  obtain ⟨r, ho, hr⟩ := cmpR (C := C) hu .eq
  obtain ⟨tl, c, q⟩ := mat_ok hr hc
  refine ⟨_, ps_mat ho p c, fun g ρ σ F D re dk => ?_⟩
  exact i g ρ σ F _ re (DOk.seq (show DOk C D g F ((ma ρ).toS _) from dk) fun w r1 g1 F1 t1 re1 k1 v rv => q g1 r1 σ F1 D w v re1 rv k1)

/-! ### {k: v, ..} -/
def RPs (Z : Kx) (g : Sg) : List (W × W) → List (V × V) → Prop
  | [], vs => vs = []
  | q :: qs, vs => ∃ x y r, vs = (x, y) :: r ∧ RW Z g q.1 x ∧ RW Z g q.2 y ∧ RPs Z g qs r
theorem RPs.kp {Z : Kx} {g g' : Sg} (t : Kp Z g g') : ∀ {qs : List (W × W)} {vs : List (V × V)}, RPs Z g qs vs → RPs Z g' qs vs
  | [], _, h => h
  | q :: qs, _, h => by
    obtain ⟨x, y, r, e, h1, h2, h3⟩ := h
    exact ⟨x, y, r, e, h1.kp t, h2.kp t, RPs.kp t h3⟩
def SP2 (C : Cz) (pos : Pos) (ks : List (Option Expr)) (vs : List Expr) (m : Env → Res (List (W × W))) : Prop := ∃ trs, PPs C.X pos ks vs trs ∧ ∀ (g : Sg) (r : Env) (σ : L2.St) (F : Fp) (Q : List (V × V) → Hp → Prop), RE C.Z C.B C.T g r σ F →
  POk C g F σ (fun ws g' _ => ∀ vs, RPs C.Z g' ws vs → Q vs g'.H) (m r) → tPairs trs σ g.H Q
def prM (f : IE → Env → Res W) (p : IE × IE) (r : Env) : Res (W × W) := (f p.1 r).bind fun k r1 => (f p.2 r1).bind fun v r2 => .ok (k, v) r2
theorem sp_nil {f : IE → Env → Res W} : SP2 C pos [] [] (evs (prM f) []) := ⟨_, pps_nil, fun g r σ F Q re k => k.now re [] rfl⟩
theorem sp_cons {f : IE → Env → Res W} {x y : Expr} {ks : List (Option Expr)} {vs : List Expr} {p : IE × IE} {is : List (IE × IE)} (h1 : SE C x (f p.1)) (h2 : SE C y (f p.2)) (h3 : SP2 C pos ks vs (evs (prM f) is)) : SP2 C pos (some x :: ks) (y :: vs) (evs (prM f) (p :: is)) := by
  obtain ⟨ta, pa, ia⟩ := h1
  obtain ⟨tb, pb, ib⟩ := h2
  obtain ⟨tc, pc, ic⟩ := h3
  refine ⟨_, pps_cons pa pb pc, fun g r σ F Q re k => ?_⟩
  have k : POk C g F σ (fun ws g' _ => ∀ vs, RPs C.Z g' ws vs → Q vs g'.H) ((f p.1 r).bind fun k r1 => (f p.2 r1).bind fun v r2 => (evs (prM f) is r2).bind fun ws r3 => .ok ((k, v) :: ws) r3) := by
    have e : evs (prM f) (p :: is) r = ((f p.1 r).bind fun k r1 => (f p.2 r1).bind fun v r2 => (evs (prM f) is r2).bind fun ws r3 => .ok ((k, v) :: ws) r3) := by
      show (prM f p r).bind _ = _
      unfold prM
      cases f p.1 r with
      | ok k r1 =>
        show ((f p.2 r1).bind fun v r2 => Res.ok (k, v) r2).bind _ = (f p.2 r1).bind _
        cases f p.2 r1 <;> rfl
      | ex x r1 => rfl
      | bad => rfl
    rw [← e]
    exact k
  refine ia g r σ F _ re (k.seq fun w r1 g1 F1 t1 re1 k1 v rv => ?_)
  refine ib g1 r1 σ F1 _ re1 (k1.seq fun w2 r2 g2 F2 t2 re2 k2 v2 rv2 => ?_)
  refine ic g2 r2 σ F2 _ re2 (k2.seq fun ws r3 g3 F3 t3 re3 k3 vs rvs => ?_)
  exact k3.now re3 ((v, v2) :: vs) ⟨v, v2, vs, rfl, (rv.kp (t2.kp re1)).kp (t3.kp re2), rv2.kp (t3.kp re2), rvs⟩
theorem kp_upd {Z : Kx} {g : Sg} {a : Addr} {u o : HO} (hu : g.H a = some u) (mu : mutO u = true) (nl : ¬ g.L a) : Kp Z g ⟨upd g.H a o, g.L⟩ := by
  refine ⟨fun {b xs} h => ?_, fun b o' l q => ⟨l, ?_⟩, fun b ob w h => (upd_ne (fun z => by rw [z, hu] at h; cases h; cases mu)).trans h⟩
  · rcases h with (h | ⟨ob, h⟩) | h
    · exact .inl (.inl ((upd_ne (fun z => by rw [z, hu] at h; cases h; cases mu)).trans h))
    · exact .inl (.inr ⟨ob, (upd_ne (fun z => by rw [z, hu] at h; cases h; cases mu)).trans h⟩)
    · exact .inr h
  · exact (upd_ne (fun z => nl (by rw [← z]; exact l))).trans q
/-- the keys are keys -/
theorem rps_keys {Z : Kx} {g : Sg} : ∀ {qs : List (W × W)} {vs : List (V × V)}, RPs Z g qs vs → (qs.all fun q => keyOk q.1) = true → ∃ kvs : List (Key × V), vs = kvs.map (fun kv => (kV kv.1, kv.2)) ∧ kvs.length = qs.length ∧
    ∀ (ks ws : List W) (ys : List (Key × V)), KeysR ks (ys.map (·.1)) → RWs Z g ws (ys.map (·.2)) → KeysR (dall ks ws qs).1 ((mergeK ys kvs).map (·.1)) ∧ RWs Z g (dall ks ws qs).2 ((mergeK ys kvs).map (·.2))
  | [], _, h, _ => by cases h; exact ⟨[], rfl, rfl, fun ks ws ys h1 h2 => ⟨h1, h2⟩⟩
  | q :: qs, _, h, hk => by
    obtain ⟨x, y, r, rfl, h1, h2, h3⟩ := h
    rw [List.all_cons, Bool.and_eq_true] at hk
    obtain ⟨kvs, e, hl, hm⟩ := rps_keys h3 hk.2
    obtain ⟨k, rfl, hkr⟩ := key_of hk.1 h1
    refine ⟨(k, y) :: kvs, by rw [List.map_cons, ← e], by simp [hl], fun ks ws ys a1 a2 => ?_⟩
    obtain ⟨b1, b2⟩ := dput_put hkr h2 a1 a2
    exact hm _ _ _ b1 b2
def dltM (m : Env → Res (List (W × W))) : Env → Res U := fun r => (m r).bind fun qs r1 => if (qs.all fun q => keyOk q.1) && Nat.ble qs.length 15 && Nat.blt 0 qs.length then .ok (.c (dall [] [] qs).1 ((dall [] [] qs).2.map U.d)) r1 else .bad
theorem su_dlt {ks : List (Option Expr)} {vs : List Expr} {m : Env → Res (List (W × W))} (h : SP2 C pos ks vs m) (hall : ks.all (·.isSome) = true) (hl : ks.length = vs.length) (h0 : ks ≠ []) (h15 : ks.length ≤ 15) : SU C (.Dict ks vs pos) (dltM m) := by
  obtain ⟨trs, p, i⟩ := h
  refine ⟨_, pe_disp p hall hl h0 h15, fun g ρ σ F Q re k p hp => ?_⟩
  obtain ⟨re2, t2⟩ := re.lay (o := .dK []) hp
  have x := tmp_new re hp
  refine i { g with H := upd g.H p (.dK []) } ρ σ F _ re2 ?_
  unfold dltM at k
  cases hm : m ρ with
  | bad => rw [hm] at k; exact False.elim k
  | ex y r1 => rw [hm] at k; exact XOk.mono t2 k
  | ok qs r1 =>
    rw [hm] at k
    intro g1 F1 t1 re1 ws rws
    have k : POk C g F σ (fun u g' F' => ∀ v fp, OU C.Z g' u v fp → Tmp g' F' fp → Src g F fp → Q v g'.H) (if (qs.all fun q => keyOk q.1) && Nat.ble qs.length 15 && Nat.blt 0 qs.length then .ok (.c (dall [] [] qs).1 ((dall [] [] qs).2.map U.d)) r1 else .bad) := k
    have pF : ∀ j, p ∉ F j := fun j => x.nf p List.mem_cons_self j
    have hp1 : g1.H p = some (.dK []) := t1.k p _ upd_same pF
    have t02 := t2.trans t1
    have pF1 : ∀ j, p ∉ F1 j := fun j hj => by
      rcases t1.s j p hj with e | ⟨k, hk⟩
      · rw [show ({ g with H := upd g.H p (.dK []) } : Sg).H p = some (.dK []) from upd_same] at e; cases e
      · exact pF k hk
    have pL1 : ¬ g1.L p := fun l => by
      rcases t1.n p l with l | l | ⟨k, hk⟩
      · exact x.nl p List.mem_cons_self l
      · rw [show ({ g with H := upd g.H p (.dK []) } : Sg).H p = some (.dK []) from upd_same] at l; cases l
      · exact pF k hk
    split at k
    · rename_i hc
      rw [Bool.and_eq_true, Bool.and_eq_true] at hc
      obtain ⟨kvs, e, hlk, hmg⟩ := rps_keys rws hc.1.1
      refine ⟨hp1, kvs, e, by rw [hlk]; exact Nat.le_of_ble_eq_true hc.1.2, ?_⟩
      obtain ⟨b1, b2⟩ := hmg [] [] [] rfl rfl
      have kp : Kp C.Z g1 ⟨upd g1.H p (.dK (mergeK [] kvs)), g1.L⟩ := kp_upd hp1 rfl pL1
      have la : ∀ a, g1.L a → ∃ o, upd g1.H p (.dK (mergeK [] kvs)) a = some o := fun a l => by
        obtain ⟨o, ho⟩ := re1.la a l
        exact ⟨o, (upd_ne (fun z : a = p => pL1 (by rw [← z]; exact l))).trans ho⟩
      have re3 : RE C.Z C.B C.T ⟨upd g1.H p (.dK (mergeK [] kvs)), g1.L⟩ r1 σ F1 := re1.keep kp (fun j a m => upd_ne fun z => pF1 j (z ▸ m)) re1.nl la
      have t3 : Go g F ⟨upd g1.H p (.dK (mergeK [] kvs)), g1.L⟩ F1 := ⟨t02.l, fun b o hb n => (upd_ne fun z => by rw [z, hp] at hb; cases hb).trans (t02.k b o hb n), fun b hb => by
          by_cases z : b = p
          · rw [z]; exact hp
          · exact t02.a b ((upd_ne z).symm.trans hb), t02.n, t02.s⟩
      refine k _ F1 t3 re3 (.ref p) [p] ⟨p, _, [], rfl, ⟨mergeK [] kvs, upd_same, b1, rfl⟩, OUs.dat (b2.kp kp), rfl⟩ ⟨x.nod, fun a m => by rw [List.mem_singleton.mp m]; exact pL1, fun a m j => by rw [List.mem_singleton.mp m]; exact pF1 j⟩ fun a m => by rw [List.mem_singleton.mp m]; exact .inl hp
    · exact False.elim k
end
end FM


set_option Elab.async false
set_option linter.all false
set_option maxRecDepth 100000
set_option maxHeartbeats 2000000
/-! Objects: fields, methods, properties, instances made. -/
namespace FM
open PySem L2
/-! ### fields -/
theorem fget_lookup {α : Type} {k : Nat} (hk : k < 2 ^ 512) : ∀ {ks : List Nat} {vs : List α} {v : α} {fs : List (Str × V)}, (∀ l ∈ ks, l < 2 ^ 512) → fs.map (·.1) = ks.map nmS → fget k ks vs = some v → ∃ (i : Nat) (x : V), vs[i]? = some v ∧ (fs.map (·.2))[i]? = some x ∧ fs.lookup (nmS k) = some x
  | [], vs, v, fs, _, _, h => by cases vs <;> cases h
  | l :: ks, [], v, fs, _, _, h => by cases h
  | l :: ks, u :: vs, v, [], _, h1, _ => by cases h1
  | l :: ks, u :: vs, v, (n, x) :: fs, hl, h1, h => by
    simp only [List.map_cons, List.cons.injEq] at h1
    unfold fget at h
    cases hb : Nat.beq l k with
    | true =>
      have := Nat.eq_of_beq_eq_true hb
      subst this
      rw [hb, if_pos rfl] at h
      cases h
      refine ⟨0, x, rfl, rfl, ?_⟩
      rw [List.lookup_cons, ← h1.1, beq_self_eq_true]
    | false =>
      rw [hb] at h
      obtain ⟨i, y, q2, q3, q4⟩ := fget_lookup hk (ks := ks) (vs := vs) (fs := fs) (fun m hm => hl m (List.mem_cons_of_mem _ hm)) h1.2 h
      refine ⟨i + 1, y, by simpa using q2, by simpa using q3, ?_⟩
      rw [List.lookup_cons]
      have hne : (nmS k == n) = false := by
        rw [h1.1]
        refine beq_eq_false_iff_ne.mpr fun z => ?_
        have := nmS_inj hk (hl l List.mem_cons_self) z
        subst this
        rw [Nat.beq_refl] at hb; cases hb
      rw [hne]
      exact q4
theorem OUs.get {Z : Kx} {g : Sg} : ∀ {us : List U} {vs : List V} {fp : List Addr} {i : Nat} {u : U} {v : V}, OUs Z g us vs fp → us[i]? = some u → vs[i]? = some v → ∃ f, OU Z g u v f
  | [], _, _, _, _, _, _, e, _ => by simp at e
  | w :: us, _, _, 0, _, _, h, e, e2 => by
    obtain ⟨x, r, f1, f2, rfl, h1, h2, rfl⟩ := h
    simp at e e2
    subst e; subst e2
    exact ⟨f1, h1⟩
  | w :: us, _, _, i + 1, _, _, h, e, e2 => by
    obtain ⟨x, r, f1, f2, rfl, h1, h2, rfl⟩ := h
    exact OUs.get h2 (by simpa using e) (by simpa using e2)
/-- a field, read off a thing -/
theorem OU.fld {Z : Kx} {g : Sg} {u : U} {v : V} {fp : List Addr} {c k : Nat} {w : W} (hk : k < 2 ^ 512) (h : OU Z g u v fp) (q : fldU c k u = some w) : ∃ a dx fs x, v = .ref a ∧ g.H a = some (.ins (Z.ca c) dx fs) ∧ fs.lookup (nmS k) = some x ∧ RW Z g w x := by
  cases u with
  | d y =>
    cases y with
    | obj d ks ws =>
      dsimp only [fldU] at q
      split at q
      · rename_i hd
        have := Nat.eq_of_beq_eq_true hd
        subst this
        obtain ⟨_, a, xs, rfl, _, ⟨dx, fs, h1, h2, h3, h4⟩, h5⟩ := h
        obtain ⟨i, x, q1, q2, q3⟩ := fget_lookup hk h4 h2 q
        rw [h3] at q2
        obtain ⟨x', q4, q5⟩ := RWs.get h5 q1
        rw [q2] at q4
        cases q4
        exact ⟨a, dx, fs, x, rfl, h1, q3, q5⟩
      · cases q
    | _ => cases q
  | o d ks us =>
    dsimp only [fldU] at q
    split at q
    · rename_i hd
      have := Nat.eq_of_beq_eq_true hd
      subst this
      obtain ⟨u', q0, q1⟩ := Option.bind_eq_some_iff.mp q
      obtain ⟨a, xs, fs', rfl, ⟨dx, fs, h1, h2, h3, h4⟩, h5, _⟩ := h
      obtain ⟨i, x, p1, p2, p3⟩ := fget_lookup hk h4 h2 q0
      rw [h3] at p2
      obtain ⟨f, h6⟩ := OUs.get h5 p1 p2
      cases u' with
      | d w' => cases q1; exact ⟨a, dx, fs, x, rfl, h1, p3, h6.2⟩
      | _ => cases q1
    · cases q
  | _ => cases q
section
variable {C : Cz} {a b e o : Expr} {es : List Expr} {pos apos : Pos} {va : Env → Res Arg}
def fldM (cl k : Nat) (va : Env → Res Arg) : Env → Res W := fun r => (va r).bind fun x r1 => Res.of (fldV r1 cl k x) r1
theorem se_fld {cl k : Nat} (hc : Cls C.X.K (C.ca cl)) (hn : NoAttr C.X.K (C.ca cl) (nmS k)) (hk : k < 2 ^ 512) (ho : notSuper e = true) (h : SV C e va) : SE C (.Attribute e (nmS k) pos) (fldM cl k va) := by
  obtain ⟨t, p, i⟩ := h
  refine ⟨_, pe_fld p (base_of ho), fun g r σ F Q re q => ?_⟩
  refine i g r σ F _ re (POk.seq (show POk C g F σ _ ((va r).bind _) from q) fun x r1 g1 F1 t1 re1 k1 v rv => ?_)
  obtain ⟨w, e1, k2⟩ := POk.of re1 k1
  have fin : ∀ {u : U} {fp : List Addr}, OU C.Z g1 u v fp → fldU cl k u = some w → ∃ a D dx fs y, v = .ref a ∧ g1.H a = some (.ins D dx fs) ∧ Cls C.X.K D ∧ NoAttr C.X.K D (nmS k) ∧ fs.lookup (nmS k) = some y ∧ Q y g1.H := fun ou eu => by
    obtain ⟨a, dx, fs, y, rfl, h1, h2, h3⟩ := ou.fld hk eu
    exact ⟨a, _, dx, fs, y, rfl, h1, hc, hn, h2, k2 y h3⟩
  cases x with
  | w y => exact fin (u := .d y) (fp := []) ⟨rfl, rv⟩ e1
  | fr u => obtain ⟨fp, ou, _⟩ := rv; exact fin ou e1
  | sl j =>
    obtain ⟨u, e2, e3⟩ := Option.bind_eq_some_iff.mp (show (lookU r1 j).bind (fldU cl k) = some w from e1)
    obtain ⟨v', x, _, _, h3, h4⟩ := re1.look e2
    have rv : σ[j]? = some (some v) := rv
    rw [rv] at h3
    cases h3
    exact fin h4 e3
/-! ### a field is stored -/
theorem fput_put {k : Nat} (hk : k < 2 ^ 512) {u : U} {v : V} : ∀ {ks : List Nat} {us : List U} {fs : List (Str × V)}, (∀ l ∈ ks, l < 2 ^ 512) → ks.length = us.length → fs.map (·.1) = ks.map nmS → (putF (nmS k) v fs).map (·.1) = (fput k u ks us).1.map nmS ∧ (∀ l ∈ (fput k u ks us).1, l < 2 ^ 512)
  | [], us, fs, hl, he, h1 => by
    have : fs = [] := by cases fs with | nil => rfl | cons _ _ => cases h1
    subst this
    exact ⟨rfl, fun l hl => by simp [fput] at hl; subst hl; exact hk⟩
  | l :: ks, [], fs, hl, he, h1 => by cases he
  | l :: ks, w :: us, [], hl, he, h1 => by cases h1
  | l :: ks, w :: us, (n, x) :: fs, hl, he, h1 => by
    simp only [List.map_cons, List.cons.injEq] at h1
    obtain ⟨q1, q2⟩ := fput_put hk (u := u) (v := v) (ks := ks) (us := us) (fs := fs) (fun m hm => hl m (List.mem_cons_of_mem _ hm)) (Nat.succ.inj he) h1.2
    unfold fput putF
    cases hb : Nat.beq l k with
    | true =>
      have := Nat.eq_of_beq_eq_true hb
      subst this
      rw [if_pos h1.1, if_pos rfl]
      exact ⟨by simp [h1.1, h1.2], hl⟩
    | false =>
      have hne : ¬ n = nmS k := fun z => by
        rw [h1.1] at z
        have := nmS_inj (hl l List.mem_cons_self) hk z
        subst this
        rw [Nat.beq_refl] at hb; cases hb
      rw [if_neg hne, if_neg (by simp)]
      refine ⟨by simp [h1.1, q1], fun m hm => ?_⟩
      rcases List.mem_cons.mp hm with rfl | hm
      · exact hl _ List.mem_cons_self
      · exact q2 m hm
theorem OUs.put {Z : Kx} {g : Sg} {k : Nat} (hk : k < 2 ^ 512) {u : U} {v : V} {f : List Addr} (h : OU Z g u v f) : ∀ {ks : List Nat} {us : List U} {fs : List (Str × V)} {fp : List Addr}, (∀ l ∈ ks, l < 2 ^ 512) → ks.length = us.length → fs.map (·.1) = ks.map nmS → OUs Z g us (fs.map (·.2)) fp →
    ∃ fp', OUs Z g (fput k u ks us).2 ((putF (nmS k) v fs).map (·.2)) fp' ∧ ∀ x, fp'.count x ≤ fp.count x + f.count x
  | [], us, fs, fp, hl, he, h1, ou => by
    have : fs = [] := by cases fs with | nil => rfl | cons _ _ => cases h1
    subst this
    have : us = [] := by cases us with | nil => rfl | cons _ _ => cases he
    subst this
    exact ⟨f ++ [], ⟨v, [], f, [], rfl, h, ⟨rfl, rfl⟩, rfl⟩, fun x => by simp⟩
  | l :: ks, [], fs, fp, hl, he, h1, ou => by cases he
  | l :: ks, w :: us, [], fp, hl, he, h1, ou => by cases h1
  | l :: ks, w :: us, (n, x) :: fs, fp, hl, he, h1, ou => by
    simp only [List.map_cons, List.cons.injEq] at h1
    obtain ⟨y, r, f1, f2, e, o1, o2, rfl⟩ := ou
    cases e
    obtain ⟨fp', q1, q2⟩ := OUs.put hk h (ks := ks) (us := us) (fs := fs) (fun m hm => hl m (List.mem_cons_of_mem _ hm)) (Nat.succ.inj he) h1.2 o2
    unfold fput putF
    cases hb : Nat.beq l k with
    | true =>
      have := Nat.eq_of_beq_eq_true hb
      subst this
      rw [if_pos h1.1, if_pos rfl]
      exact ⟨f ++ f2, ⟨v, _, f, f2, rfl, h, o2, rfl⟩, fun x => by rw [List.count_append, List.count_append]; omega⟩
    | false =>
      have hne : ¬ n = nmS k := fun z => by
        rw [h1.1] at z
        have := nmS_inj (hl l List.mem_cons_self) hk z
        subst this
        rw [Nat.beq_refl] at hb; cases hb
      rw [if_neg hne, if_neg (by simp)]
      refine ⟨f1 ++ fp', ⟨x, _, f1, fp', rfl, o1, q1, rfl⟩, fun z => ?_⟩
      have := q2 z
      rw [List.count_append, List.count_append]; omega
/-- what a name has is changed, and takes up something new -/
theorem RE.mutF {g g0 : Sg} {ρ : Env} {σ : L2.St} {F F0 : Fp} {i : Nat} {u u' : U} {a : Addr} {fs fs' fp : List Addr} {ob : HO} (re : RE C.Z C.B C.T g ρ σ F) (hl : lookU ρ i = some u) (hF : F i = a :: fs) (hv : σ[i]? = some (some (.ref a))) (x : Tmp g F fp) (t0 : Go g0 F0 g F) (sr : Src g0 F0 fp)
    (hc : ∀ z, fs'.count z ≤ fs.count z + fp.count z) (h : OU C.Z ⟨upd g.H a ob, g.L⟩ u' (.ref a) (a :: fs')) : ∃ r' F', putV ρ i u' = some r' ∧ RE C.Z C.B C.T ⟨upd g.H a ob, g.L⟩ r' σ F' ∧ Go g0 F0 ⟨upd g.H a ob, g.L⟩ F' := by
  obtain ⟨kp, k1, k2⟩ := re.chg (o := ob) hF
  have am : a ∈ F i := by rw [hF]; exact List.mem_cons_self
  obtain ⟨v, y, hy, cy, hσ, _⟩ := re.look hl
  rw [hv] at hσ
  cases hσ
  have hi := lt_of_get hy
  have nd := re.nod i
  rw [hF] at nd
  have nd1 := List.nodup_cons.mp nd
  have mem : ∀ z ∈ fs', z ∈ fs ∨ z ∈ fp := fun z m => by
    have h1 := List.count_pos_iff.mpr m
    have h2 := hc z
    rcases Nat.eq_zero_or_pos (fs.count z) with h3 | h3
    · exact .inr (List.count_pos_iff.mp (by omega))
    · exact .inl (List.count_pos_iff.mp h3)
  have nfp : ∀ z ∈ fp, z ∉ a :: fs := fun z m m' => x.nf z m i (by rw [hF]; exact m')
  have nod : (a :: fs').Nodup := by
    rw [List.nodup_cons]
    refine ⟨fun m => ?_, List.nodup_iff_count.mpr fun z => ?_⟩
    · rcases mem a m with m | m
      · exact nd1.1 m
      · exact nfp a m List.mem_cons_self
    · have h1 := hc z
      have h2 := List.nodup_iff_count.mp nd1.2 z
      have h3 := List.nodup_iff_count.mp x.nod z
      by_cases hz : z ∈ fp
      · have : fs.count z = 0 := List.count_eq_zero.mpr fun m => nfp z hz (List.mem_cons_of_mem _ m)
        omega
      · have : fp.count z = 0 := List.count_eq_zero.mpr hz
        omega
  have fin : ∀ {w : En}, RN C.Z ⟨upd g.H a ob, g.L⟩ C.B C.T i (some (.ref a)) (a :: fs') w → RE C.Z C.B C.T ⟨upd g.H a ob, g.L⟩ (ρ.set i w) σ (F.set i (a :: fs')) := fun {w} hw => by
    have := re.put (i := i) (o := some (.ref a)) (fp := a :: fs') (x := w) (g' := ⟨upd g.H a ob, g.L⟩) kp k1 hi hw nod (fun b m => by
      rcases List.mem_cons.mp m with rfl | m
      · exact re.nl i b am
      · rcases mem b m with m | m
        · exact re.nl i b (by rw [hF]; exact List.mem_cons_of_mem _ m)
        · exact x.nl b m) (fun j hj b m mj => by
      rcases List.mem_cons.mp m with rfl | m
      · exact hj (re.dis j i b mj am)
      · rcases mem b m with m | m
        · exact hj (re.dis j i b mj (by rw [hF]; exact List.mem_cons_of_mem _ m))
        · exact x.nf b m j mj) (fun j _ b m => re.nl j b m) (fun b l => by
      obtain ⟨q, hq⟩ := re.la b l
      exact ⟨q, (upd_ne (fun z => re.nl i a am (by rw [← z]; exact l))).trans hq⟩)
    rw [set_self hv] at this
    exact this
  have go : Go g0 F0 ⟨upd g.H a ob, g.L⟩ (F.set i (a :: fs')) := by
    have go1 : Go g F ⟨upd g.H a ob, g.L⟩ F := ⟨fun _ l => l, fun b ob' e n => (upd_ne (fun z => n i (by rw [z]; exact am))).trans e, fun b e => by
      by_cases hb : b = a
      · subst hb
        have e : upd g.H b ob b = none := e
        rw [upd_same] at e; cases e
      · have e : upd g.H a ob b = none := e
        rw [upd_ne hb] at e; exact e, fun b l => .inl l, fun j b m => .inr ⟨j, m⟩⟩
    have go2 := t0.trans go1
    refine ⟨go2.l, go2.k, go2.a, go2.n, fun j b m => ?_⟩
    by_cases hj : j = i
    · subst hj
      rw [Fp.set_same] at m
      rcases List.mem_cons.mp m with rfl | m
      · exact go2.s j b am
      · rcases mem b m with m | m
        · exact go2.s j b (by rw [hF]; exact List.mem_cons_of_mem _ m)
        · exact sr b m
    · rw [Fp.set_ne hj] at m
      exact go2.s j b m
  unfold putV
  rw [nth_iff, hy]
  cases y with
  | no => cases cy
  | m w => exact ⟨_, _, rfl, fin ⟨_, rfl, h⟩, go⟩
  | t w =>
    obtain ⟨p, hp1, hp2⟩ := re.at_ i _ hy
    rw [hv] at hp1
    cases hp1
    obtain ⟨v, hb, ev, _⟩ := hp2
    cases ev
    exact ⟨_, _, rfl, fin ⟨_, hb, rfl, h⟩, go⟩
  | x c ks ws => cases cy
def fsetM (cl i k : Nat) (mx : Env → Res U) : Env → SRes := fun r => (mx r).toS fun u r1 => (match lookU r1 i with
    | some (.o d ks us) => if Nat.beq d cl && Nat.blt ks.length 900 then (match putV r1 i (.o d (fput k u ks us).1 (fput k u ks us).2) with
      | some r2 => .nx r2
      | none => .bad) else .bad
    | _ => .bad)
theorem ss_fset {cl i k : Nat} {x : Str} {npos pos' : Pos} {mx : Env → Res U} (hc : Cls C.X.K (C.ca cl)) (hn : NoAttr C.X.K (C.ca cl) (nmS k)) (hk : k < 2 ^ 512) (hN : C.X.N[i]? = some x) (hv : Vis C.X.env.scope x) (hdb : (x == ("__debug__" : Str)) = false) (hcd : (x == ("__classdict__" : Str)) = false) (h : SU C e mx) (hnc : notComp e = true) :
    SS C (.Assign [.Attribute (.Name x npos) (nmS k) pos'] e pos) (fsetM cl i k mx) := by
  obtain ⟨t, p, ii⟩ := h
  refine ⟨_, ps_fld (pe_var (pos := npos) hN hv hdb hcd) p (sw_no hnc), fun g r σ F D re dk => ?_⟩
  refine ii g r σ F _ re (DOk.seq0 (show DOk C D g F ((mx r).toS _) from dk) fun u r1 g1 F1 t1 re1 k1 v fp ou y s => ?_)
  cases hl : lookU r1 i with
  | none => simp only [hl] at k1; exact False.elim k1
  | some u1 =>
    simp only [hl] at k1
    cases u1 with
    | o d ks us =>
      dsimp only at k1
      split at k1
      · rename_i hz
        rw [Bool.and_eq_true, Nat.blt_eq] at hz
        have := Nat.eq_of_beq_eq_true hz.1
        subst this
        obtain ⟨v', _, _, _, hσ, a, xs, fs, rfl, ⟨dx, fl, h1, h2, h3, h4⟩, h5, hF⟩ := re1.look hl
        refine ⟨.ref a, hσ, a, _, dx, fl, rfl, h1, hc, hn, ?_, ?_⟩
        · have := congrArg List.length h2
          simp only [List.length_map] at this
          omega
        · obtain ⟨kp, _, kf⟩ := re1.chg (o := .ins (C.ca d) dx (putF (nmS k) v fl)) hF
          have kfp : ∀ b ∈ fp, upd g1.H a (.ins (C.ca d) dx (putF (nmS k) v fl)) b = g1.H b := fun b m => upd_ne fun z => y.nf b m i (by rw [hF, z]; exact List.mem_cons_self)
          have hle : ks.length = us.length := by
            have q1 := h5.length
            have q2 := congrArg List.length h2
            have q3 := congrArg List.length h3
            simp only [List.length_map] at q2 q3
            omega
          subst h3
          obtain ⟨fp', q1, q2⟩ := OUs.put hk (ou.kp kp kfp) h4 hle h2 (h5.kp kp kf)
          obtain ⟨q3, q4⟩ := fput_put hk (u := u) (v := v) h4 hle h2
          obtain ⟨r2, F2, e1, e2, e3⟩ := re1.mutF (u' := .o d (fput k u ks us).1 (fput k u ks us).2) (ob := .ins (C.ca d) dx (putF (nmS k) v fl)) hl hF hσ y t1 s q2 ⟨a, _, fp', rfl, ⟨dx, _, upd_same, q3, rfl, q4⟩, q1, rfl⟩
          simp only [e1] at k1
          exact k1 _ F2 σ e3 e2
      · exact False.elim k1
    | _ => exact False.elim k1
end
end FM


set_option Elab.async false
set_option linter.all false
set_option maxRecDepth 100000
set_option maxHeartbeats 2000000
/-! Methods, properties, lengths of own objects; instances made. -/
namespace FM
open PySem L2
theorem any_all {α : Type} (f : α → Bool) : ∀ {l : List α}, l.any f = false → (l.all fun x => !f x) = true
  | [], _ => rfl
  | a :: l, h => by
    rw [List.any_cons, Bool.or_eq_false_iff] at h
    rw [List.all_cons, h.1, any_all f h.2]; rfl
theorem mth_eval {o : Expr} {m : Str} {es : List Expr} {apos pos : Pos} {env : PySem.Env} (ho : notSuper o = true) (hs : es.all notStar = true) (hn : es.length < 29) (hl : (apos.endLine == pos.line) = true) :
    eval (.Call (.Attribute o m apos) es [] pos) env = (do
      let ov ← eval o env
      standAt apos.atName
      let (f, first) ← holding [ov] (getMethod ov m (do return (← importBound o env).getD true))
      callWith pos f first (backTo pos (starEach es env)) (backToKw pos (keywordEach [] env))) := by
  have h1 : methodCallForm (es.length + ([] : List Keyword).length) (backTo pos (starEach es env)) (backToKw pos (keywordEach [] env)) = true := by
    unfold methodCallForm
    rw [any_all _ (star_any (pos := pos) (env := env) hs)]
    show (true && true && decide (es.length + 0 + 0 < 30)) = true
    rw [decide_eq_true (by omega)]; rfl
  show (do
    let ov ← attributeBase o m env (eval o env)
    standAt apos.atName
    methodCall o m apos pos env ov (es.length + ([] : List Keyword).length) (backTo pos (starEach es env)) (backToKw pos (keywordEach [] env))) = _
  rw [base_of ho]
  have h2 : ∀ ov, methodCall o m apos pos env ov (es.length + ([] : List Keyword).length) (backTo pos (starEach es env)) (backToKw pos (keywordEach [] env)) = (do
      let (f, first) ← holding [ov] (getMethod ov m (do return (← importBound o env).getD true))
      callWith pos f first (backTo pos (starEach es env)) (backToKw pos (keywordEach [] env))) := fun ov => by
    unfold methodCall
    rw [h1]
    unfold calleeOf methodCallPos
    rw [hl]
    rfl
  simp only [h2]
/-- o.m(..): what it asks -/
def tMth (D : Addr) (m : Str) (sp : Sp) (dvs : List V) (E : St → XK) (ta : TE) (t : TA) : TE := fun σ H Q => ta σ H fun x H1 => ∃ a dx fs, x = .ref a ∧ H1 a = some (.ins D dx fs) ∧ fs.lookup m = none ∧ t σ H1 fun vs H2 => sp (.ref a :: (vs ++ dvs)) H2 Q (E σ)
section
variable {X : Cx} {CX : CXT} {k : Nat} {D f : Addr} {fd : FuncData} {ps : List Str} {sp : Sp} {dvs : List V} {ds : List Value} {E : St → XK} {m : Str} {pos apos : Pos} {o e : Expr} {es : List Expr} {ta : TE} {t : TA}
theorem pe_mth (he : PE X o ta) (c : Cls X.K D) (hm : Meth X.K D m f) (F : FnOk X.prog X.w X.K X.mg X.base CX k f fd ps sp) (hr : Room k X.A) (hb : Binds X.K fd ps ds) (hd : Vals dvs ds) (hx : ∀ σ, PassesAt CX X σ (E σ)) (ha : PA X (e :: es) t)
    (ho : notSuper o = true) (hs : (e :: es).all notStar = true) (hn : (e :: es).length < 29) (hl : (apos.endLine == pos.line) = true) : PE X (.Call (.Attribute o m apos) (e :: es) [] pos) (tMth D m sp dvs E ta t) := by
  have hs' : notStar e = true ∧ es.all notStar = true := by rwa [List.all_cons, Bool.and_eq_true] at hs
  refine ⟨fun pins s σ H Q I h => ?_⟩
  refine PySem.W.methodCall_KW (pl := do return (← importBound o X.env).getD true) (thn (he.run pins s σ H _ I h) fun u s1 ⟨x, H1, I1, rx, a, dx, fs, ex, ea, l, q⟩ => ?_) (mth_eval ho hs hn hl)
  subst ex
  obtain rfl : u = Value.ref a := rx
  refine getmeth_ok I1 ea c hm l ?_
  refine PySem.W.callWith_K (first := [.ref a]) (h₀ := X.base) I.ok.mod.kin hm.kp (thn (ha.run pos pins s1 σ H1 _ I1 q) fun us s2 ⟨vs, H2, I2, r, q2⟩ => ⟨I2.kIn, ?_⟩) (star_ hs'.1) (star_any hs'.2)
  exact run_fnSD (us := .ref a :: us) (vs := .ref a :: vs) F hr hb hd (hx σ) I2 (.cons rfl r) q2
theorem pe_mth0 (he : PE X o ta) (c : Cls X.K D) (hm : Meth X.K D m f) (F : FnOk X.prog X.w X.K X.mg X.base CX k f fd ps sp) (hr : Room k X.A) (hb : Binds X.K fd ps ds) (hd : Vals dvs ds) (hx : ∀ σ, PassesAt CX X σ (E σ))
    (ho : notSuper o = true) (hl : (apos.endLine == pos.line) = true) : PE X (.Call (.Attribute o m apos) [] [] pos) (tMth D m sp dvs E ta tNil) := by
  refine ⟨fun pins s σ H Q I h => ?_⟩
  refine PySem.W.methodCall_KW (pl := do return (← importBound o X.env).getD true) (thn (he.run pins s σ H _ I h) fun u s1 ⟨x, H1, I1, rx, a, dx, fs, ex, ea, l, q⟩ => ?_) (mth_eval ho rfl (by decide) hl)
  subst ex
  obtain rfl : u = Value.ref a := rx
  refine getmeth_ok I1 ea c hm l ?_
  exact PySem.W.callWith_K0 (first := [.ref a]) I1.kIn hm.kp (run_fnSD (us := [.ref a]) (vs := [.ref a]) F hr hb hd (hx σ) I1 (.cons rfl .nil) q)
end
end FM


set_option Elab.async false
set_option linter.all false
set_option maxRecDepth 100000
set_option maxHeartbeats 2000000
namespace FM
open PySem L2
section
variable {C : Cz} {g g0 g1 g2 : Sg} {F F0 F1 F2 : Fp} {σ : L2.St} {ρ ρ1 : Env}
theorem avs_cons {a : AV} {v : V} {as : List AV} {vs : List V} {f1 f2 : List Addr} (t1 : Go g F g1 F1) (re1 : RE C.Z C.B C.T g1 ρ1 σ F1) (a1 : AV1 C g1 σ a v f1) (x1 : Tmp g1 F1 f1) (s1 : Src g F f1) (t2 : Go g1 F1 g2 F2) (a2 : AVs C g2 σ as vs f2) (x2 : Tmp g2 F2 f2) (s2 : Src g1 F1 f2) :
    AVs C g2 σ (a :: as) (v :: vs) (f1 ++ f2) ∧ Tmp g2 F2 (f1 ++ f2) ∧ Src g F (f1 ++ f2) := by
  obtain ⟨a1', x1'⟩ := a1.go re1 t2 x1
  refine ⟨⟨v, vs, f1, f2, rfl, a1', a2, rfl⟩, ⟨?_, fun b m => ?_, fun b m => ?_⟩, fun b m => ?_⟩
  · refine List.nodup_append.mpr ⟨x1'.nod, x2.nod, fun b mb c mc e => ?_⟩
    subst e
    obtain ⟨ob, q⟩ := a1.al mb
    rcases s2 b mc with h | ⟨j, h⟩
    · rw [q] at h; cases h
    · exact x1.nf b mb j h
  · exact (List.mem_append.mp m).elim (x1'.nl b) (x2.nl b)
  · exact (List.mem_append.mp m).elim (x1'.nf b) (x2.nf b)
  · exact (List.mem_append.mp m).elim (s1 b) (Src.mono t1 s2 b)
theorem avs_dfl {ds : List W} {dvs : List V} (h : RWs C.Z g ds dvs) : AVs C g σ (ds.map AV.d) dvs [] := by
  induction ds generalizing dvs with
  | nil => cases h; exact ⟨rfl, rfl⟩
  | cons w ds ih =>
    obtain ⟨x, r, rfl, h1, h2⟩ := h
    exact ⟨x, r, [], [], rfl, ⟨rfl, h1⟩, ih h2, rfl⟩
theorem avs_app {ds : List W} {dvs : List V} (h : RWs C.Z g ds dvs) : ∀ {as : List AV} {vs : List V} {fp : List Addr}, AVs C g σ as vs fp → AVs C g σ (as ++ ds.map AV.d) (vs ++ dvs) fp
  | [], vs, fp, q => by
    obtain ⟨rfl, rfl⟩ := q
    exact avs_dfl h
  | a :: as, vs, fp, q => by
    obtain ⟨v, r, f1, f2, rfl, h1, h2, rfl⟩ := q
    exact ⟨v, r ++ dvs, f1, f2, rfl, h1, avs_app h h2, rfl⟩
/-- the receiver of a method -/
theorem fs_none {ks : List Nat} {m : Nat} (hm : m < 2 ^ 512) : ∀ {fs : List (Str × V)}, (∀ k ∈ ks, k < 2 ^ 512) → fs.map (·.1) = ks.map nmS → ks.any (Nat.beq m) = false → fs.lookup (nmS m) = none := by
  induction ks with
  | nil => intro fs _ h _; cases fs with | nil => rfl | cons _ _ => cases h
  | cons k ks ih =>
    intro fs hl h1 h2
    cases fs with
    | nil => rfl
    | cons q fs =>
      obtain ⟨n, x⟩ := q
      simp only [List.map_cons, List.cons.injEq] at h1
      rw [List.any_cons, Bool.or_eq_false_iff] at h2
      rw [List.lookup_cons]
      have hne : (nmS m == n) = false := by
        rw [h1.1]
        refine beq_eq_false_iff_ne.mpr fun z => ?_
        have := nmS_inj hm (hl k List.mem_cons_self) z
        subst this
        rw [Nat.beq_refl] at h2; cases h2.1
      rw [hne]
      exact ih (fun l hl' => hl l (List.mem_cons_of_mem _ hl')) h1.2 h2.2
theorem clsA_ok {cl m : Nat} {a : AV} {v : V} {fp : List Addr} (hm : m < 2 ^ 512) (re : RE C.Z C.B C.T g ρ σ F) (av : AV1 C g σ a v fp) (h : clsA ρ cl m a = true) : ∃ p dx fs, v = .ref p ∧ g.H p = some (.ins (C.ca cl) dx fs) ∧ fs.lookup (nmS m) = none := by
  have fin : ∀ {d : Nat} {ks : List Nat} {p : Addr} {xs : List V}, ObjR C.Z g p d ks xs → (Nat.beq d cl && !ks.any (Nat.beq m)) = true → ∃ q dx fs, V.ref p = .ref q ∧ g.H q = some (.ins (C.ca cl) dx fs) ∧ fs.lookup (nmS m) = none := fun ob hz => by
    rw [Bool.and_eq_true, Bool.not_eq_true'] at hz
    have := Nat.eq_of_beq_eq_true hz.1
    subst this
    obtain ⟨dx, fs, h1, h2, h3, h4⟩ := ob
    exact ⟨_, dx, fs, rfl, h1, fs_none hm h4 h2 hz.2⟩
  cases a with
  | d w =>
    cases w with
    | obj d ks ws =>
      obtain ⟨_, p, xs, rfl, _, ob, _⟩ := av
      exact fin ob h
    | _ => cases h
  | r i =>
    dsimp only [clsA] at h
    obtain ⟨_, hσ⟩ := av
    cases hl : lookU ρ i with
    | none => rw [hl] at h; cases h
    | some u =>
      rw [hl] at h
      obtain ⟨v', _, _, _, hσ', ou⟩ := re.look hl
      rw [hσ] at hσ'
      cases hσ'
      cases u with
      | o d ks us =>
        obtain ⟨p, xs, fs, rfl, ob, _⟩ := ou
        exact fin ob h
      | d w =>
        cases w with
        | obj d ks ws =>
          obtain ⟨_, p, xs, rfl, _, ob, _⟩ := ou
          exact fin ob h
        | _ => cases h
      | _ => cases h
  | u u => cases h
end
section
variable {C : Cz} {e o : Expr} {es : List Expr} {pos apos : Pos}
def mthM (c : CF) (cl m f : Nat) (mo : Env → Res AV) (ma : Env → Res (List AV)) (ds : List W) : Env → Res U := fun r => (mo r).bind fun x r1 => if clsA r1 cl m x then (ma r1).bind fun vs r2 => runC c f (x :: (vs ++ ds.map AV.d)) r2 else .bad
/-- what is known of a method -/
structure MthAt (C : Cz) (c : CF) (cl m f n : Nat) (ds : List W) : Prop where
  cls : Cls C.X.K (C.ca cl)
  ml : m < 2 ^ 512
  ex : ∃ (k : Nat) (fa : Addr) (fd : FuncData) (ps : List Str) (dV : List Value) (dvs : List V), FnOk C.X.prog C.X.w C.X.K C.X.mg C.X.base (L2.CX C.X.prog C.X.w) k fa fd ps (spOf C.Z c f ps.length) ∧ Room (k + 1) C.X.A ∧ Meth C.X.K (C.ca cl) (nmS m) fa ∧ Binds C.X.K fd ps dV ∧ Vals dvs dV ∧ (∀ g, RWs C.Z g ds dvs) ∧ ps.length = n + 1 + ds.length
theorem mth_core {c : CF} {cl m f : Nat} {ds : List W} {mo : Env → Res AV} {h : IA → Env → Res AV} {is : List IA} {ta : TE} {t : TA} {n : Nat} {dvs : List V} (ml : m < 2 ^ 512) (hd : ∀ g, RWs C.Z g ds dvs) (hn : n = is.length + 1 + ds.length)
    (io : ∀ (g : Sg) (r : Env) (σ : L2.St) (F : Fp) (Q : VK), RE C.Z C.B C.T g r σ F → POk C g F σ (fun a g' F' => ∀ v fp, AV1 C g' σ a v fp → Tmp g' F' fp → Src g F fp → Q v g'.H) (mo r) → ta σ g.H Q)
    (ia : ∀ (g : Sg) (r : Env) (σ : L2.St) (F : Fp) (Q : List V → Hp → Prop), RE C.Z C.B C.T g r σ F → POk C g F σ (fun as g' F' => ∀ vs fp, AVs C g' σ as vs fp → Tmp g' F' fp → Src g F fp → Q vs g'.H) (evs h is r) → t σ g.H Q)
    (g : Sg) (ρ : Env) (σ : L2.St) (Fp : Fp) (Q : VK) (re : RE C.Z C.B C.T g ρ σ Fp) (k : POk C g Fp σ (fun u g' F' => ∀ v fp, OU C.Z g' u v fp → Tmp g' F' fp → Src g Fp fp → Q v g'.H) (mthM c cl m f mo (evs h is) ds ρ)) :
    tMth (C.ca cl) (nmS m) (spOf C.Z c f n) dvs (WE C.W) ta t σ g.H Q := by
  refine io g ρ σ Fp _ re (POk.seq0 (show POk C g Fp σ _ ((mo ρ).bind _) from k) fun x r1 g1 F1 t1 re1 k1 v fp av xt sr => ?_)
  split at k1
  · rename_i hc
    obtain ⟨p, dx, fs, rfl, h1, h2⟩ := clsA_ok ml re1 av hc
    refine ⟨p, dx, fs, rfl, h1, h2, ?_⟩
    have k2 : POk C g1 F1 σ (fun as g2 F2 => ∃ r2, RE C.Z C.B C.T g2 r2 σ F2 ∧ POk C g Fp σ (fun u g' F' => ∀ v fp, OU C.Z g' u v fp → Tmp g' F' fp → Src g Fp fp → Q v g'.H) (runC c f (x :: (as ++ ds.map AV.d)) r2)) (evs h is r1) := POk.mono t1 (POk.seq0 k1 fun as r2 g2 F2 t2 re2 k3 => ⟨r2, re2, k3⟩)
    refine ia g1 r1 σ F1 _ re1 ((POk.fact (P := fun as => as.length = is.length) (fun as r e => evs_len e) k2).imp fun as g2 F2 t2 q vs f2 a2 x2 s2 => ?_)
    obtain ⟨hl, r2, re2, k3⟩ := q
    obtain ⟨a3, x3, s3⟩ := avs_cons t1 re1 av xt sr t2 (avs_app (hd g2) a2) x2 s2
    refine run_call (t1.trans t2) re2 x3 s3 a3 ?_ k3
    simp only [List.length_cons, List.length_append, List.length_map, hl]; omega
  · exact False.elim k1
theorem su_mth {c : CF} {cl m f : Nat} {ds : List W} {mo : Env → Res AV} {h : IA → Env → Res AV} {is : List IA} (M : MthAt C c cl m f is.length ds) (tk : Takes C.X C.W) (ho : notSuper o = true) (hs : es.all notStar = true) (hn : es.length < 29) (hl : (apos.endLine == pos.line) = true) (hle : es.length = is.length) (h1 : SA1 C o mo) (h2 : SAA C es (evs h is)) :
    SU C (.Call (.Attribute o (nmS m) apos) es [] pos) (mthM c cl m f mo (evs h is) ds) := by
  obtain ⟨k, fa, fd, ps, dV, dvs, F, hr, hm, hb, hv, hd, hp⟩ := M.ex
  obtain ⟨ta, pa, ia⟩ := h1
  obtain ⟨tb, pb, ib⟩ := h2
  cases es with
  | nil =>
    have hz : is = [] := by cases is with | nil => rfl | cons _ _ => cases hle
    subst hz
    refine ⟨_, pe_mth0 (E := WE C.W) pa M.cls hm F (hr.mono (Nat.le_succ k)) hb hv (fun σ => passAt tk σ) ho hl, fun g ρ σ Fp Q re k => ?_⟩
    exact mth_core (t := tNil) (is := []) (h := h) M.ml hd (by rw [hp]) ia (fun g r σ F Q re k => k.now re [] [] ⟨rfl, rfl⟩ tmp_nil (fun _ m => nomatch m)) g ρ σ Fp Q re k
  | cons e es =>
    refine ⟨_, pe_mth (E := WE C.W) pa M.cls hm F (hr.mono (Nat.le_succ k)) hb hv (fun σ => passAt tk σ) pb ho hs hn hl, fun g ρ σ Fp Q re k => ?_⟩
    exact mth_core M.ml hd (by rw [hp]) ia ib g ρ σ Fp Q re k
end
end FM


set_option Elab.async false
set_option linter.all false
set_option maxRecDepth 100000
set_option maxHeartbeats 2000000
namespace FM
open PySem L2
/-- nothing is let out -/
abbrev EN : XK := fun _ _ _ => False
theorem cx_no {P : Program} {w : World} {outer : List PySem.Env} {H : Hp} {s : Shared} {u : Value} {s' : Shared} (h : L2.CX P w outer H s EN u s') : False := by
  obtain ⟨a, B, H', cls, d, _, _, _, _, _, _, _, z⟩ := h
  exact z
section
variable {C : Cz} {e o : Expr} {es : List Expr} {pos apos p : Pos}
abbrev Cz.mute (C : Cz) : Cz := ⟨C.X, C.ca, fun _ _ _ _ => False, C.B, C.T⟩
theorem POk.nox {g : Sg} {F : Fp} {σ : L2.St} {α : Type} {Q : α → Sg → Fp → Prop} {x : Res α} (h : POk C g F σ Q (noX x)) : POk C.mute g F σ Q x := by
  cases x with
  | ok a r => exact h
  | ex y r => exact False.elim h
  | bad => exact False.elim h
theorem AV1.mute {g : Sg} {σ : L2.St} : ∀ {a : AV} {v : V} {fp : List Addr}, AV1 C g σ a v fp → AV1 C.mute g σ a v fp
  | .d _, _, _, h => h
  | .r _, _, _, h => h
  | .u _, _, _, h => h
/-- a call of one lent or handed thing, from which nothing leaves -/
theorem run_one {c : CF} {f : Nat} {g g1 : Sg} {F F1 : Fp} {σ : L2.St} {ρ1 : Env} {x : AV} {v : V} {fp : List Addr} {Q : VK} (t1 : Go g F g1 F1) (re1 : RE C.Z C.B C.T g1 ρ1 σ F1) (av : AV1 C g1 σ x v fp) (xt : Tmp g1 F1 fp) (sr : Src g F fp)
    (k : POk C g F σ (fun u g' F' => ∀ v fp, OU C.Z g' u v fp → Tmp g' F' fp → Src g F fp → Q v g'.H) (noX (runC c f [x] ρ1))) : spOf C.Z c f 1 [v] g1.H Q EN := by
  have a3 : AVs C.mute g1 σ [x] [v] fp := ⟨v, [], fp, [], rfl, av.mute, ⟨rfl, rfl⟩, (List.append_nil fp).symm⟩
  exact run_call (C := C.mute) (c := c) (f := f) (n := 1) (g := g) (g1 := g1) (F := F) (F1 := F1) (ρ := ρ1) t1 re1 xt sr a3 rfl (POk.nox k)
/-- what is known of a property -/
structure PrpAt (C : Cz) (c : CF) (cl : Nat) (n : Str) (f : Nat) : Prop where
  cls : Cls C.X.K (C.ca cl)
  ex : ∃ (k : Nat) (pa fa : Addr) (fd : FuncData) (ps : List Str), FnOk C.X.prog C.X.w C.X.K C.X.mg C.X.base (L2.CX C.X.prog C.X.w) k fa fd ps (spOf C.Z c f ps.length) ∧ Room (k + 1) C.X.A ∧ PropOf C.X.K (C.ca cl) n pa fa ∧ Binds C.X.K fd ps [] ∧ ps.length = 1
def prpM (c : CF) (cl f : Nat) (mo : Env → Res AV) : Env → Res U := fun r => (mo r).bind fun x r1 => if clsA r1 cl 0 x then noX (runC c f [x] r1) else .bad
theorem su_prp {c : CF} {cl f : Nat} {n : Str} {mo : Env → Res AV} (M : PrpAt C c cl n f) (ho : notSuper o = true) (h1 : SA1 C o mo) : SU C (.Attribute o n pos) (prpM c cl f mo) := by
  obtain ⟨k, pa, fa, fd, ps, F, hr, hp, hb, hl⟩ := M.ex
  obtain ⟨ta, pe, io⟩ := h1
  refine ⟨_, pe_prop pe M.cls hp F hr hb .nil (E := EN) (fun _ _ _ _ _ _ _ h => (cx_no h).elim) (base_of ho), fun g ρ σ Fp Q re k => ?_⟩
  refine io g ρ σ Fp _ re (POk.seq0 (show POk C g Fp σ _ ((mo ρ).bind _) from k) fun x r1 g1 F1 t1 re1 k1 v fp av xt sr => ?_)
  split at k1
  · rename_i hc
    obtain ⟨q, dx, fs, rfl, h1, _⟩ := clsA_ok (by decide +kernel) re1 av hc
    refine ⟨q, dx, fs, rfl, h1, ?_⟩
    rw [hl]
    exact run_one t1 re1 av xt sr k1
  · exact False.elim k1
/-! ### len of an own object -/
theorem run_in1 {X : Cx} {CX : CXT} {k : Nat} {f : Addr} {fd : FuncData} {ps : List Str} {sp : Sp} {pins : List (Addr × Obj)} {σ : St} {H : Hp} {s : Shared} {Q : VK} {us : List Value} {vs : List V} {E : XK} {E' : Value → Shared → Prop} (F : FnOk X.prog X.w X.K X.mg X.base CX k f fd ps sp) (hr : Room (k + 1) X.A) (hb : Binds X.K fd ps [])
    (hx : ∀ e s', CX X.stack H s E e s' → False) (I : Inv X pins σ H s) (r : Vals vs us) (h : sp vs H Q E) : wpAny (model X.prog X.w) X.A.in1 (call (.ref f) us) (EP X pins σ Q) E' s := by
  have hl : (us ++ []).length = ps.length := by
    rw [List.append_nil, ← r.length]
    exact F.len _ _ _ _ h
  have hz := hb s us I.kIn hl
  rw [List.append_nil] at hz
  refine wpAny_call (codeAny_mono (F.run X.A.in1 X.stack s H ⟨us, []⟩ us vs Q E hr.in1 I.env0.in1 hz r h) fun r s' hq => ?_)
  cases r with
  | error e => exact (hx e s' hq).elim
  | ok fl =>
    cases fl with
    | ret u => exact I.after hq
    | next => exact False.elim hq
    | brk => exact False.elim hq
    | cont => exact False.elim hq
def rOln (D : Addr) (sp : Sp) : List V → Hp → VK → Prop := fun xs H Q => ∃ a dx fs, xs = [.ref a] ∧ H a = some (.ins D dx fs) ∧ sp [.ref a] H (fun v H' => ∃ i : Int, v = .int i ∧ 0 ≤ i ∧ i < 2 ^ 63 ∧ Q (.int i) H') EN
structure LenAt (C : Cz) (c : CF) (cl f : Nat) : Prop where
  ex : ∃ (k : Nat) (fa : Addr) (fd : FuncData) (ps : List Str), FnOk C.X.prog C.X.w C.X.K C.X.mg C.X.base (L2.CX C.X.prog C.X.w) k fa fd ps (spOf C.Z c f ps.length) ∧ Room (k + 1) C.X.A ∧ Meth C.X.K (C.ca cl) "__len__" fa ∧ Binds C.X.K fd ps [] ∧ ps.length = 1
theorem call_oln {X : Cx} {k : Nat} {D f : Addr} {fd : FuncData} {ps : List Str} {sp : Sp} (F : FnOk X.prog X.w X.K X.mg X.base (L2.CX X.prog X.w) k f fd ps sp) (hr : Room (k + 1) X.A) (hm : Meth X.K D "__len__" f) (hb : Binds X.K fd ps []) : CallR X (.builtin "len") (rOln D sp) := by
  intro pins s σ H xs us Q I r h
  obtain ⟨a, dx, fs, rfl, ha, hs⟩ := h
  cases r with
  | cons r1 r2 =>
    cases r2
    cases r1
    obtain ⟨mA, J, _⟩ := ins_get I.hok ha
    obtain ⟨od, J, _⟩ := J.look
    obtain ⟨m, hF⟩ := I.fr
    refine PySem.W.len_K hF I.ok.mod.kin J hm.at_ hm.fn ?_
    refine wpAny_mono (run_in1 (us := [.ref a]) (vs := [.ref a]) (E' := X.xe) F hr hb (fun e s' z => cx_no z) I (.cons rfl .nil) hs) (fun v s' hv => ?_) fun _ _ z => z
    obtain ⟨y, H', I', ry, i, rfl, h0, h1, q⟩ := hv
    obtain ⟨t, rfl⟩ := ry
    exact ⟨⟨h0, h1⟩, ⟨.int i, H', I'.tok _, ⟨_, rfl⟩, q⟩⟩
def olnM (c : CF) (cl f : Nat) (mo : Env → Res AV) : Env → Res W := fun r => (mo r).bind fun x r1 => if clsA r1 cl 0 x then (noX (runC c f [x] r1)).bind fun u r2 => Res.of (lenU u) r2 else .bad
theorem se_oln {c : CF} {cl f : Nat} {mo : Env → Res AV} (M : LenAt C c cl f) (hg : Gl C.X "len") (hm : C.X.mg "len" = none) (hn : notStar e = true) (h1 : SA1 C e mo) : SE C (.Call (.Name "len" p) [e] [] pos) (olnM c cl f mo) := by
  obtain ⟨k, fa, fd, ps, F, hr, hme, hb, hl⟩ := M.ex
  obtain ⟨ta, pe, io⟩ := h1
  refine ⟨_, pe_blt (.inl ⟨_, rfl⟩) (call_oln F hr hme hb) hg hm PySem.boot_len (pa_cons pe pa_nil (star_ hn)) (by decide) (by decide) (by rw [List.all_cons, hn]; rfl), fun g ρ σ Fp Q re k => ?_⟩
  refine io g ρ σ Fp _ re (POk.seq0 (show POk C g Fp σ _ ((mo ρ).bind _) from k) fun x r1 g1 F1 t1 re1 k1 v fp av xt sr => ?_)
  split at k1
  · rename_i hc
    obtain ⟨q, dx, fs, rfl, h1, _⟩ := clsA_ok (by decide +kernel) re1 av hc
    refine ⟨q, dx, fs, rfl, h1, ?_⟩
    rw [hl]
    refine run_one t1 re1 av xt sr ((k1.seq fun u r2 g2 F2 t2 re2 k2 => ?_ : POk C g Fp σ (fun u g' F' => ∀ v fp, OU C.Z g' u v fp → Tmp g' F' fp → Src g Fp fp → ∃ i : Int, v = .int i ∧ 0 ≤ i ∧ i < 2 ^ 63 ∧ Q (.int i) g'.H) _))
    intro v fp ou _ _
    obtain ⟨w, e1, k3⟩ := POk.of re2 k2
    cases u with
    | d y =>
      cases y with
      | int i =>
        dsimp only [lenU] at e1
        split at e1
        · rename_i hz
          cases e1
          simp only [Bool.and_eq_true, decide_eq_true_eq] at hz
          obtain ⟨_, rfl⟩ := ou
          exact ⟨i, rfl, hz.1, by omega, k3 _ rfl⟩
        · cases e1
      | _ => cases e1
    | _ => cases e1
  · exact False.elim k1
end
end FM


set_option Elab.async false
set_option linter.all false
set_option maxRecDepth 100000
set_option maxHeartbeats 2000000
/-! Instances made. -/
namespace FM
open PySem L2
/-- C(..): what it asks -/
def tMk (D : Addr) (sp : Sp) (dvs : List V) (E : St → XK) (t : TA) : TE := fun σ H Q => t σ H fun vs H1 => ∀ x dx, H1 x = none → H1 dx = none → dx ≠ x → sp (.ref x :: (vs ++ dvs)) (upd (upd H1 dx (.own x)) x (.ins D dx [])) (fun v H2 => v = .non ∧ Q (.ref x) H2) (E σ)
section
variable {X : Cx} {CX : CXT} {k : Nat} {D f : Addr} {fd : FuncData} {ps : List Str} {sp : Sp} {dvs : List V} {ds : List Value} {E : St → XK} {n : Str} {p pos : Pos} {e : Expr} {es : List Expr} {t : TA}
theorem run_mk {pins : List (Addr × Obj)} {σ : St} {H : Hp} {s : Shared} {Q : VK} {us : List Value} {vs : List V} {E : XK} (M : Mk X.K D f) (F : FnOk X.prog X.w X.K X.mg X.base CX k f fd ps sp) (hr : Room (k + 1) X.A) (hb : Binds X.K fd ps ds) (hd : Vals dvs ds)
    (hx : PassesAt CX X σ E) (I : Inv X pins σ H s) (r : Vals vs us) (h : ∀ x dx, H x = none → H dx = none → dx ≠ x → sp (.ref x :: (vs ++ dvs)) (upd (upd H dx (.own x)) x (.ins D dx [])) (fun v H2 => v = .non ∧ Q (.ref x) H2) E) :
    wpAny (model X.prog X.w) X.A (call (.ref D) us) (EP X pins σ Q) X.xe s := by
  generalize hx0 : s.heap.objs.size + 1 = x0
  have hq : sp (.ref x0 :: (vs ++ dvs)) (upd (upd H s.heap.objs.size (.own x0)) x0 (.ins D s.heap.objs.size [])) (fun v H2 => v = .non ∧ Q (.ref x0) H2) E := by
    subst hx0
    exact h _ _ (I.hok.fresh (Nat.le_succ _)) (I.hok.fresh (Nat.le_refl _)) (Nat.ne_of_lt (Nat.lt_succ_self _))
  subst hx0
  have J := Inv.made (C := D) I
  have rr : Vals (V.ref (s.heap.objs.size + 1) :: (vs ++ dvs)) (Value.ref (s.heap.objs.size + 1) :: (us ++ ds)) := Paired.cons (show RelV _ _ from rfl) (r.append hd)
  have hl : (Value.ref (s.heap.objs.size + 1) :: us ++ ds).length = ps.length := (F.len _ _ _ _ hq ▸ rr.length).symm
  have z := F.run _ X.stack _ _ ⟨Value.ref (s.heap.objs.size + 1) :: us, []⟩ (Value.ref (s.heap.objs.size + 1) :: (us ++ ds)) _ _ E (hr.make D us []) (J.env0.make D us []) (hb _ (Value.ref (s.heap.objs.size + 1) :: us) J.kIn hl) rr hq
  refine wpAny_call (make_map (f := f) I.kIn M.makes M.init (beq_iff_eq.mp M.fn) (codeAny_mono z fun r s' y => ?_))
  cases r with
  | error er => exact hx pins _ _ er s' J y
  | ok fl =>
    cases fl with
    | ret u =>
      obtain ⟨v, H', I3, rv, ev, q3⟩ := J.after y
      cases ev
      exact ⟨rv, V.ref (s.heap.objs.size + 1), H', I3, rfl, q3⟩
    | next => exact False.elim y
    | brk => exact False.elim y
    | cont => exact False.elim y
theorem pe_mk (M : Mk X.K D f) (F : FnOk X.prog X.w X.K X.mg X.base CX k f fd ps sp) (hr : Room (k + 1) X.A) (hg : Gl X n) (hm : X.mg n = some (.ref D)) (hb : Binds X.K fd ps ds) (hd : Vals dvs ds) (hx : ∀ σ, PassesAt CX X σ (E σ))
    (ha : PA X (e :: es) t) (hdb : (n == ("__debug__" : Str)) = false) (hs : (e :: es).all notStar = true) : PE X (.Call (.Name n p) (e :: es) [] pos) (tMk D sp dvs E t) := by
  rw [List.all_cons, Bool.and_eq_true] at hs
  refine ⟨fun pins s σ H Q I h => wpAny_Call_Name_kw (ld_glob I hg hm ?_ hdb)⟩
  refine PySem.W.callWith_K (h₀ := X.base) I.ok.mod.kin M.kp (thn (ha.run pos pins s σ H _ I h) fun us s1 ⟨vs, H1, I1, r, q⟩ => ⟨I1.kIn, ?_⟩) (star_ hs.1) (star_any hs.2)
  exact run_mk M F hr hb hd (hx σ) I1 r q
theorem pe_mk0 (M : Mk X.K D f) (F : FnOk X.prog X.w X.K X.mg X.base CX k f fd ps sp) (hr : Room (k + 1) X.A) (hg : Gl X n) (hm : X.mg n = some (.ref D)) (hb : Binds X.K fd ps ds) (hd : Vals dvs ds) (hx : ∀ σ, PassesAt CX X σ (E σ))
    (hdb : (n == ("__debug__" : Str)) = false) : PE X (.Call (.Name n p) [] [] pos) (tMk D sp dvs E tNil) := by
  refine ⟨fun pins s σ H Q I h => wpAny_Call_Name_kw (ld_glob I hg hm ?_ hdb)⟩
  exact PySem.W.callWith_K0 I.kIn M.kp (run_mk (us := []) M F hr hb hd (hx σ) I .nil h)
end
/-- one name more, ahead -/
def Fp.cons (a : List Addr) (F : Fp) : Fp := fun i => match i with | 0 => a | i + 1 => F i
section
variable {C : Cz} {g g1 : Sg} {F F1 : Fp} {σ : L2.St} {ρ : Env}
theorem lay2 {Z : Kx} {B : Nat → Option V} {T : Option Ct} {r : Env} {σ : L2.St} {F : Fp} {g : Sg} {x dx : Addr} {D : Addr} (re : RE Z B T g r σ F) (hx : g.H x = none) (hd : g.H dx = none) (hne : dx ≠ x) :
    RE Z B T ⟨upd (upd g.H dx (.own x)) x (.ins D dx []), g.L⟩ r σ F ∧ Go g F ⟨upd (upd g.H dx (.own x)) x (.ins D dx []), g.L⟩ F := by
  obtain ⟨r1, t1⟩ := re.lay (o := .own x) hd
  obtain ⟨r2, t2⟩ := r1.lay (o := .ins D dx []) (a := x) (show upd g.H dx (.own x) x = none by rw [upd_ne (Ne.symm hne)]; exact hx)
  exact ⟨r2, t1.trans t2⟩
theorem LOU.ous {Z : Kx} {g : Sg} {F : Fp} (nF : ∀ i, (F i).Nodup) (dF : ∀ i j a, a ∈ F i → a ∈ F j → i = j) : ∀ {es : List En} {os : List U} {vs : List V} {n : Nat}, LOU Z g F n es os vs → es.length = vs.length → ∃ fps, OUs Z g os (lentV es vs) fps ∧ fps.Nodup ∧ ∀ a ∈ fps, ∃ i, n ≤ i ∧ a ∈ F i
  | [], os, vs, n, h, _ => by
    have h : os = [] := by cases vs <;> exact h
    subst h
    exact ⟨[], ⟨by cases vs <;> rfl, rfl⟩, List.nodup_nil, fun _ m => nomatch m⟩
  | e :: es, os, [], n, h, hl => by cases hl
  | e :: es, os, v :: vs, n, h, hl => by
    have skip : LOU Z g F (n + 1) es os vs → lentV (e :: es) (v :: vs) = lentV es vs → ∃ fps, OUs Z g os (lentV (e :: es) (v :: vs)) fps ∧ fps.Nodup ∧ ∀ a ∈ fps, ∃ i, n ≤ i ∧ a ∈ F i := fun h q => by
      obtain ⟨fps, h1, h2, h3⟩ := LOU.ous nF dF h (Nat.succ.inj hl)
      rw [q]
      exact ⟨fps, h1, h2, fun a m => let ⟨i, hi, ha⟩ := h3 a m; ⟨i, by omega, ha⟩⟩
    cases e with
    | no => exact skip h rfl
    | m u => exact skip h rfl
    | x c ks ws => exact skip h rfl
    | t u =>
      obtain ⟨w, r, rfl, h1, h2⟩ := h
      obtain ⟨fps, o1, o2, o3⟩ := LOU.ous nF dF h2 (Nat.succ.inj hl)
      refine ⟨F n ++ fps, ⟨v, _, F n, fps, rfl, h1, o1, rfl⟩, List.nodup_append.mpr ⟨nF n, o2, fun a ma b mb e => ?_⟩, fun a m => ?_⟩
      · subst e
        obtain ⟨i, hi, ha⟩ := o3 a mb
        have := dF n i a ma ha
        omega
      · rcases List.mem_append.mp m with m | m
        · exact ⟨n, Nat.le_refl n, m⟩
        · obtain ⟨i, hi, ha⟩ := o3 a m
          exact ⟨i, by omega, ha⟩
/-- the call of __init__, the arguments evaluated -/
theorem run_init {c : CF} {cl f n : Nat} {as : List AV} {vs : List V} {fp : List Addr} {Q : VK} (t1 : Go g F g1 F1) (re : RE C.Z C.B C.T g1 ρ σ F1) (x : Tmp g1 F1 fp) (s : Src g F fp) (h : AVs C g1 σ as vs fp) (hn : as.length + 1 = n)
    (k : POk C g F σ (fun u g' F' => ∀ v fp, OU C.Z g' u v fp → Tmp g' F' fp → Src g F fp → Q v g'.H) (runM c cl f as ρ)) (y dx : Addr) (hy : g1.H y = none) (hdx : g1.H dx = none) (hne : dx ≠ y) :
    spOf C.Z c f n (.ref y :: vs) (upd (upd g1.H dx (.own y)) y (.ins (C.ca cl) dx [])) (fun v H2 => v = .non ∧ Q (.ref y) H2) (WE C.W σ) := by
  unfold runM at k
  cases ea : args ρ as with
  | none => rw [ea] at k; exact False.elim k
  | some q =>
    obtain ⟨es, is⟩ := q
    rw [ea] at k
    obtain ⟨⟨Fa, q⟩, hnd, hlk⟩ := args_r re h x ea
    have hl : es.length = vs.length := q.len
    have hal : as.length = vs.length := by
      have : ∀ {as : List AV} {vs : List V} {fp : List Addr}, AVs C g1 σ as vs fp → as.length = vs.length := by
        intro as
        induction as with
        | nil => intro vs fp z; rw [z.1]; rfl
        | cons a as ih =>
          intro vs fp z
          obtain ⟨v, r, f1, f2, rfl, _, z2, _⟩ := z
          exact congrArg Nat.succ (ih z2)
      exact this h
    have cre := q.re re x
    obtain ⟨cre2, tg⟩ := lay2 (D := C.ca cl) cre hy hdx hne
    have fresh : ∀ i, y ∉ Fa i := fun i m => by
      obtain ⟨ob, e1, _⟩ := cre.mu m
      rw [hy] at e1; cases e1
    have ny : ¬ g1.L y := fun l => by
      obtain ⟨ob, e1⟩ := re.la y l
      rw [hy] at e1; cases e1
    have selfO : OU C.Z ⟨upd (upd g1.H dx (.own y)) y (.ins (C.ca cl) dx []), g1.L⟩ (.o cl [] []) (.ref y) [y] := ⟨y, [], [], rfl, ⟨dx, [], upd_same, rfl, rfl, fun _ m => nomatch m⟩, ⟨rfl, rfl⟩, rfl⟩
    refine ⟨⟨_, g1.L⟩, .t (.o cl [] []) :: es, Fp.cons [y] Fa, fun i => match i with | 0 => some (.ref y) | i + 1 => (match es[i]? with | some (.t _) => vs[i]? | _ => none), rfl, by rw [List.length_cons, hl, ← hal, hn], ?_, fun i u hi => ?_, ?_⟩
    · refine ⟨by rw [List.map_cons, List.length_cons, List.length_cons, List.length_map, hl], fun i e0 he => ?_, fun i hi => ?_, fun i => ?_, fun i j b hi hj => ?_, fun i b hi => ?_, cre2.la⟩
      · cases i with
        | zero => cases he; exact ⟨some (.ref y), rfl, .ref y, rfl, rfl, selfO⟩
        | succ i =>
          obtain ⟨o, h1, h2⟩ := cre2.at_ i e0 (by simpa using he)
          refine ⟨o, by simpa using h1, ?_⟩
          cases e0 with
          | no => exact h2
          | m u => exact h2
          | t u => exact h2
          | x cc ks ws =>
            obtain ⟨_, tt, z, _⟩ := h2
            cases z
      · cases i with
        | zero => cases hi
        | succ i => exact cre2.out i (Nat.le_of_succ_le_succ hi)
      · cases i with
        | zero => show [y].Nodup; simp
        | succ i => exact cre2.nod i
      · cases i with
        | zero =>
          cases j with
          | zero => rfl
          | succ j => rw [List.mem_singleton.mp hi] at hj; exact absurd hj (fresh j)
        | succ i =>
          cases j with
          | zero => rw [List.mem_singleton.mp hj] at hi; exact absurd hi (fresh i)
          | succ j => rw [cre2.dis i j b hi hj]
      · cases i with
        | zero => rw [List.mem_singleton.mp hi]; exact ny
        | succ i => exact cre2.nl i b hi
    · cases i with
      | zero => rfl
      | succ i =>
        have hi : es[i]? = some (.t u) := by simpa using hi
        show (match es[i]? with | some (.t _) => vs[i]? | _ => none) = _
        rw [hi]
        simp
    · -- behind the call
      have goA : ∀ {g' : Sg} {F' : Fp}, Go ⟨upd (upd g1.H dx (.own y)) y (.ins (C.ca cl) dx []), g1.L⟩ (Fp.cons [y] Fa) g' F' → Go g1 Fa g' F' := fun {g' F'} t => by
        have keep : ∀ b o, g1.H b = some o → upd (upd g1.H dx (.own y)) y (.ins (C.ca cl) dx []) b = some o := fun b o e => by
          rw [upd_ne (fun z => by rw [z, hy] at e; cases e), upd_ne (fun z => by rw [z, hdx] at e; cases e)]; exact e
        refine ⟨t.l, fun b o e n => t.k b o (keep b o e) fun i m => ?_, fun b e => ?_, fun b l => ?_, fun i b m => ?_⟩
        · cases i with
          | zero => rw [List.mem_singleton.mp m, hy] at e; cases e
          | succ i => exact n i m
        · cases hb : g1.H b with
          | none => rfl
          | some o =>
            have z : upd (upd g1.H dx (.own y)) y (.ins (C.ca cl) dx []) b = none := t.a b e
            rw [keep b o hb] at z; cases z
        · rcases t.n b l with z | z | ⟨i, z⟩
          · exact .inl z
          · refine .inr (.inl ?_)
            cases hb : g1.H b with
            | none => rfl
            | some o =>
              have z : upd (upd g1.H dx (.own y)) y (.ins (C.ca cl) dx []) b = none := z
              rw [keep b o hb] at z; cases z
          · cases i with
            | zero => rw [List.mem_singleton.mp z]; exact .inr (.inl hy)
            | succ i => exact .inr (.inr ⟨i, z⟩)
        · rcases t.s i b m with z | ⟨j, z⟩
          · refine .inl ?_
            cases hb : g1.H b with
            | none => rfl
            | some o =>
              have z : upd (upd g1.H dx (.own y)) y (.ins (C.ca cl) dx []) b = none := z
              rw [keep b o hb] at z; cases z
          · cases j with
            | zero => rw [List.mem_singleton.mp z]; exact .inl hy
            | succ j => exact .inr ⟨j, z⟩
      have back : ∀ {g' : Sg} {F' : Fp} {w : U} {os : List U}, Go ⟨upd (upd g1.H dx (.own y)) y (.ins (C.ca cl) dx []), g1.L⟩ (Fp.cons [y] Fa) g' F' → (∀ a, g'.L a → ∃ o, g'.H a = some o) → (∀ i j a, a ∈ F' i → a ∈ F' j → i = j) → (∀ i, (F' i).Nodup) → (∀ i a, a ∈ F' i → ¬ g'.L a) → LOU C.Z g' F' 0 (.t (.o cl [] []) :: es) (w :: os) (.ref y :: vs) →
          ∃ r2 Fn, puts ρ is os = some r2 ∧ RE C.Z C.B C.T g' r2 σ Fn ∧ Go g F g' Fn ∧ OU C.Z g' w (.ref y) (F' 0) ∧ Tmp g' Fn (F' 0) ∧ Src g F (F' 0) := fun {g' F' w os} t la dF nF lF lou => by
        obtain ⟨w', r, e, o1, o2⟩ := lou
        cases e
        obtain ⟨fps, p1, p2, p3⟩ := LOU.ous nF dF o2 hl
        have t' := goA t
        have t'' : Go g1 Fa g' (F'.set 0 []) := ⟨t'.l, t'.k, t'.a, t'.n, fun i b m => by
          by_cases hi : i = 0
          · subst hi; rw [Fp.set_same] at m; cases m
          · rw [Fp.set_ne hi] at m; exact t'.s i b m⟩
        obtain ⟨r2, Fn, b1, b2, b3, b4⟩ := back_re t1 re x s q hnd hlk t'' la p1 p2 (fun a m => by
          obtain ⟨i, hi, ha⟩ := p3 a m
          exact ⟨lF i a ha, i, by rw [Fp.set_ne (by omega)]; exact ha⟩)
        obtain ⟨z1, z2⟩ := b4 (F' 0) (fun a m => t'.s 0 a m) ⟨nF 0, fun a m => lF 0 a m, fun a m j mj => by
          by_cases hj : j = 0
          · subst hj; rw [Fp.set_same] at mj; cases mj
          · rw [Fp.set_ne hj] at mj; exact hj (dF j 0 a mj m)⟩
        exact ⟨r2, Fn, b1, b2, b3, o1, z1, z2⟩
      cases ec : c f (.t (.o cl [] []) :: es) with
      | bad => simp only [ec] at k; exact False.elim k
      | ok u os =>
        simp only [ec] at k
        intro g' F' v f2 fps t la ou nd hf dF ⟨nF, lF, lou⟩ o2 x2 s2
        cases os with
        | nil => obtain ⟨_, _, z, _⟩ := lou; cases z
        | cons w os =>
          obtain ⟨r2, Fn, b1, b2, b3, b4, b5, b6⟩ := back t la dF nF lF lou
          cases u with
          | d y0 =>
            cases y0 with
            | non =>
              simp only [b1] at k
              exact ⟨o2.2, k g' Fn b3 b2 (.ref y) (F' 0) b4 b5 b6⟩
            | _ => exact False.elim k
          | _ => exact False.elim k
      | ex e0 os =>
        simp only [ec] at k
        intro g' F' d xs fps t la ou nd hf dF ⟨nF, lF, lou⟩ xd ld rw
        cases os with
        | nil => obtain ⟨_, _, z, _⟩ := lou; cases z
        | cons w os =>
          obtain ⟨r2, Fn, b1, b2, b3, b4, b5, b6⟩ := back t la dF nF lF lou
          simp only [b1] at k
          exact k g' Fn d xs b3 b2 xd ld rw
/-- what is known of a class that is made -/
structure MkAt (C : Cz) (c : CF) (n : Str) (cl f k : Nat) (ds : List W) : Prop where
  mg : C.X.mg n = some (.ref (C.ca cl))
  ex : ∃ (j : Nat) (fa : Addr) (fd : FuncData) (ps : List Str) (dV : List Value) (dvs : List V), FnOk C.X.prog C.X.w C.X.K C.X.mg C.X.base (L2.CX C.X.prog C.X.w) j fa fd ps (spOf C.Z c f ps.length) ∧ Room (j + 1) C.X.A ∧ Mk C.X.K (C.ca cl) fa ∧ Binds C.X.K fd ps dV ∧ Vals dvs dV ∧ (∀ g, RWs C.Z g ds dvs) ∧ ps.length = k + 1 + ds.length
end
section
variable {C : Cz} {e : Expr} {es : List Expr} {p pos : Pos}
theorem su_make {c : CF} {cl f : Nat} {n : Str} {ds : List W} {h : IA → Env → Res AV} {is : List IA} (M : MkAt C c n cl f is.length ds) (tk : Takes C.X C.W) (hg : Gl C.X n) (hdb : (n == ("__debug__" : Str)) = false) (hs : es.all notStar = true) (hle : es.length = is.length) (h2 : SAA C es (evs h is)) :
    SU C (.Call (.Name n p) es [] pos) (fun r => (evs h is r).bind fun vs r1 => runM c cl f (vs ++ ds.map AV.d) r1) := by
  obtain ⟨j, fa, fd, ps, dV, dvs, F, hr, hm, hb, hv, hd, hp⟩ := M.ex
  obtain ⟨tb, pb, ib⟩ := h2
  cases es with
  | nil =>
    have hz : is = [] := by cases is with | nil => rfl | cons _ _ => cases hle
    subst hz
    refine ⟨_, pe_mk0 (E := WE C.W) hm F hr hg M.mg hb hv (fun σ => passAt tk σ) hdb, fun g ρ σ Fp Q re k => ?_⟩
    intro x dx hx hdx hne
    have a3 : AVs C g σ ([] ++ ds.map AV.d) ([] ++ dvs) [] := avs_app (hd g) ⟨rfl, rfl⟩
    exact run_init (as := [] ++ ds.map AV.d) (.refl g Fp) re tmp_nil (fun _ m => nomatch m) a3 (by rw [hp]; simp; omega) k x dx hx hdx hne
  | cons e es =>
    refine ⟨_, pe_mk (E := WE C.W) hm F hr hg M.mg hb hv (fun σ => passAt tk σ) pb hdb hs, fun g ρ σ Fp Q re k => ?_⟩
    refine ib g ρ σ Fp _ re ((POk.fact (P := fun as => as.length = is.length) (fun as r e => evs_len e) (k.seq0 (P := fun as g1 F1 => ∃ r1, Go g Fp g1 F1 ∧ RE C.Z C.B C.T g1 r1 σ F1 ∧ POk C g Fp σ (fun u g' F' => ∀ v fp, OU C.Z g' u v fp → Tmp g' F' fp → Src g Fp fp → Q v g'.H) (runM c cl f (as ++ ds.map AV.d) r1)) fun as r1 g1 F1 t1 re1 k1 => ⟨r1, t1, re1, k1⟩)).imp fun as g1 F1 t1 q vs fp av x s => ?_)
    obtain ⟨hl, r1, t1', re1, k1⟩ := q
    intro y dx hy hdx hne
    exact run_init t1' re1 x s (avs_app (hd g1) av) (by rw [hp]; simp [hl]; omega) k1 y dx hy hdx hne
/-- a call with defaults -/
structure FnD (C : Cz) (c : CF) (n : Str) (f k : Nat) (ds : List W) : Prop where
  ex : ∃ (j : Nat) (fa : Addr) (fd : FuncData) (ps : List Str) (dV : List Value) (dvs : List V), FnOk C.X.prog C.X.w C.X.K C.X.mg C.X.base (L2.CX C.X.prog C.X.w) j fa fd ps (spOf C.Z c f ps.length) ∧ Room j C.X.A ∧ C.X.mg n = some (.ref fa) ∧ PySem.W.keepIn C.X.K (.ref fa) = true ∧ Binds C.X.K fd ps dV ∧ Vals dvs dV ∧ (∀ g, RWs C.Z g ds dvs) ∧ ps.length = k + ds.length
theorem su_callD {c : CF} {f : Nat} {n : Str} {ds : List W} {h : IA → Env → Res AV} {is : List IA} (M : FnD C c n f is.length ds) (tk : Takes C.X C.W) (hg : Gl C.X n) (hdb : (n == ("__debug__" : Str)) = false) (hs : (e :: es).all notStar = true) (h2 : SAA C (e :: es) (evs h is)) :
    SU C (.Call (.Name n p) (e :: es) [] pos) (fun r => (evs h is r).bind fun vs r1 => runC c f (vs ++ ds.map AV.d) r1) := by
  obtain ⟨j, fa, fd, ps, dV, dvs, F, hr, hm, hk, hb, hv, hd, hp⟩ := M.ex
  obtain ⟨tb, pb, ib⟩ := h2
  have hs' := hs
  rw [List.all_cons, Bool.and_eq_true] at hs'
  refine ⟨_, pe_callSD (E := WE C.W) F hr hg hm hk hb hv (fun σ => passAt tk σ) pb hdb (star_ hs'.1) (star_any hs'.2), fun g ρ σ Fp Q re k => ?_⟩
  refine ib g ρ σ Fp _ re ((POk.fact (P := fun as => as.length = is.length) (fun as r e => evs_len e) (k.seq0 (P := fun as g1 F1 => ∃ r1, Go g Fp g1 F1 ∧ RE C.Z C.B C.T g1 r1 σ F1 ∧ POk C g Fp σ (fun u g' F' => ∀ v fp, OU C.Z g' u v fp → Tmp g' F' fp → Src g Fp fp → Q v g'.H) (runC c f (as ++ ds.map AV.d) r1)) fun as r1 g1 F1 t1 re1 k1 => ⟨r1, t1, re1, k1⟩)).imp fun as g1 F1 t1 q vs fp av x s => ?_)
  obtain ⟨hl, r1, t1', re1, k1⟩ := q
  exact run_call t1' re1 x s (avs_app (hd g1) av) (by rw [hp]; simp [hl]) k1
end
end FM


set_option Elab.async false
set_option linter.all false
set_option maxRecDepth 100000
set_option maxHeartbeats 4000000
/-! set(v), v a list or a tuple, by any word Iv of what the set has got from the first items. -/
namespace FM
open PySem L2 PySem.Spec PyProof.Rows
section
variable {P : Program} {w : World} {A : Around} {E : Value → Shared → Prop} {s : Shared}
/-- what adding the i-th item does -/
structure Adds (P : Program) (w : World) (A : Around) (h0 : Heap) (S : Addr) (n : Nat) (Pv : Nat → Value → Prop) (Iv : Nat → Heap → Prop) : Prop where
  step : ∀ (i : Nat) (v : Value) (s : Shared) (E : Value → Shared → Prop) (Q : Bool → Shared → Prop), i < n → Pv i v → (∀ b o, h0.get? b = some o → s.heap.get? b = some o) → Iv i s.heap →
    (∀ b h' tk, s.toks ≤ tk → Heap.SameBut S s.heap h' → Iv (i + 1) h' → Q b { s with heap := h', toks := tk }) → wpAny (model P w) A (setAdd S v) Q E s
  frame : ∀ (i : Nat) (h h' : Heap), Iv i h → (∀ o, h.get? S = some o → h'.get? S = some o) → (∀ b o, h0.get? b = some o → h'.get? b = some o) → Iv i h'
theorem loop_adds {It : Addr} {fp wr : List Addr} {G : Array GenState → Array GenState → Prop} {n : Nat} {Pv : Nat → Value → Prop} {St : Nat → Shared → Prop} {R : Result → Shared → Prop} {S : Addr} {h0 : Heap} {Iv : Nat → Heap → Prop}
    (W : WalksS P w A.in1 It fp wr G n Pv St) (D : Adds P w A.in1 h0 S n Pv Iv) (hSf : S ∉ fp) (hS0 : h0.get? S = none) (hw0 : ∀ b ∈ wr, h0.get? b = none) :
    ∀ (k i : Nat) (s : Shared), n - i = k → i ≤ n → St i s → (∀ b o, h0.get? b = some o → s.heap.get? b = some o) → Iv i s.heap →
      (∀ s', Moved (S :: wr) G s s' → Iv n s'.heap → (∀ b o, h0.get? b = some o → s'.heap.get? b = some o) → R (.ok (.ret .none)) s') →
      codeAny (model P w) A (.builtin "set.update.loop" ⟨[.ref S, .ref It], []⟩) R s := by
  have nSw : S ∉ wr := fun z => hSf (W.sub _ z)
  have mm : ∀ b ∈ wr, b ∈ S :: wr := fun b z => List.mem_cons_of_mem _ z
  have keep : ∀ {s s' : Shared}, Moved wr G s s' → (∀ b o, h0.get? b = some o → s.heap.get? b = some o) → ∀ b o, h0.get? b = some o → s'.heap.get? b = some o := fun mv kp b o e =>
    mv.heap b o (fun z => by rw [hw0 b z] at e; cases e) (kp b o e)
  intro k
  induction k with
  | zero =>
    intro i s ek hi hst kp iv fin
    obtain rfl : i = n := by omega
    refine codeAny_builtin F.entry_set_update_loop ?_; rw [Around.under_plainId F.plain_set_update_loop _]
    show wpAny _ A.in1 (pyNext (.ref It) >>= _) _ _ s
    refine wpAny_bind (W.done s _ _ hst fun s1 mv => ?_)
    exact wpAny_pure (fin s1 (mv.mono mm) (D.frame _ _ _ iv (fun o e => mv.heap S o nSw e) (keep mv kp)) (keep mv kp))
  | succ k ih =>
    intro i s ek hi hst kp iv fin
    have lt : i < n := by omega
    refine codeAny_builtin F.entry_set_update_loop ?_; rw [Around.under_plainId F.plain_set_update_loop _]
    show wpAny _ A.in1 (pyNext (.ref It) >>= _) _ _ s
    refine wpAny_bind (W.item i s _ _ lt hst fun v s1 hP st1 mv => ?_)
    have kp1 := keep mv kp
    have iv1 := D.frame _ _ _ iv (fun o e => mv.heap S o nSw e) kp1
    show wpAny _ A.in1 (holding [v] (setAdd S v) >>= _) _ _ s1
    refine wpAny_bind (wpAny_holding (D.step i v s1 _ _ lt hP kp1 iv1 fun b h2 tk htk sb iv2 => ?_))
    have kp2 : ∀ b o, h0.get? b = some o → h2.get? b = some o := fun b o e => (sb.2 b (fun z => by rw [z, hS0] at e; cases e)).trans (kp1 b o e)
    refine wpAny_pure ⟨plainId_quiet F.plain_set_update_loop _, ih (i + 1) _ (by omega) lt (W.frame _ s1 _ _ st1 htk fun b hb o e => ?_) kp2 iv2 fun s2 mv2 iv3 kp3 => ?_⟩
    · exact (sb.2 b (fun z : b = S => hSf (by rw [← z]; exact hb))).trans e
    · refine fin s2 (Moved.trans W.gtrans ((mv.mono mm).then_heap htk fun b o hb e => ?_) mv2) iv3 kp3
      exact (sb.2 b (fun z : b = S => hb (by rw [z]; exact List.mem_cons_self))).trans e
/-- the object of a new set -/
abbrev set0 (w : World) : Obj := { cls := .type "set", dict := none, data := .set #[] 0 (.fresh 0 0 (!w.params.followText "set-order")) }
/-- the two kinds of sources -/
inductive Sq2 (h : Heap) (l : Addr) (items : Array Value) : Prop
  | l (x : h.IsList l items) | t (x : h.IsTuple l items)
theorem call_set_by {l : Addr} {items : Array Value} {n : Nat} {Iv : Nat → Heap → Prop} {Q : Value → Shared → Prop} (hh : A.handled = none) (hl : Sq2 s.heap l items) (hn : items.size = n)
    (D : Adds P w A.in1.in1.in1 s.heap s.heap.objs.size n (fun i v => items[i]? = some v) Iv) (h00 : ∀ h' : Heap, h'.get? s.heap.objs.size = some (set0 w) → (∀ b o, s.heap.get? b = some o → h'.get? b = some o) → Iv 0 h')
    (fin : ∀ (h' : Heap) (tk : Nat), Iv n h' → (∀ b o, s.heap.get? b = some o → h'.get? b = some o) → Q (.ref s.heap.objs.size) { s with heap := h', toks := tk }) :
    wpAny (model P w) A (call (.type "set") [.ref l]) Q E s := by
  subst hn
  obtain ⟨c, tl, hmro⟩ := F.called_set.mro
  have f1 := F.called_set.made; have f2 := F.called_set.sub; have f3 := F.called_set.notType; have f4 := F.called_set.canCreate; have f5 := F.typeCall_set_1 (.ref l)
  have free : ∀ b, s.heap.objs.size ≤ b → s.heap.get? b = none := fun b hb => by
    cases q : s.heap.get? b with
    | none => rfl
    | some o => exact absurd (Nat.lt_of_lt_of_le (Heap.lt_size q) hb) (Nat.lt_irrefl _)
  refine wpAny_call (codeAny_of_tree (show wpAny _ _ (callAny (.type "set") _) _ _ _ from wpAny_pure ⟨Code.quiet_builtin _ (by decide +kernel), codeAny_builtin F.entry_type_call ?_⟩))
  rw [Around.under_plain (weight_type_call_type "set" [.ref l] []) rfl]
  repeat (any_goals (first | assumption | wp_step))
  refine codeAny_mono (code_set_led1 (.ref l) (E := E) (Q₁ := fun ob s1 => ob = .ref s.heap.objs.size ∧ s1 = { s with heap := s.heap.push (set0 w) }) ⟨rfl, rfl⟩) fun r s1 hr => ?_
  cases r with
  | error e => exact hr
  | ok fl =>
    cases fl with
    | ret ob =>
      obtain ⟨rfl, rfl⟩ := hr
      have hS : (s.heap.push (set0 w)).get? s.heap.objs.size = some (set0 w) := Heap.get?_push_size _ rfl
      have hT : Shared.TypeIs { s with heap := s.heap.push (set0 w) } (.ref s.heap.objs.size) "set" := ⟨_, hS, rfl⟩
      have f6 := F.called_set.init.lookup; have f7 := F.called_set.init.bind (.ref s.heap.objs.size)
      repeat (any_goals (first | assumption | wp_step))
      have post : ∀ (wr : List Addr) (s' : Shared) (G : Array GenState → Array GenState → Prop) (s2 : Shared), True := fun _ _ _ _ => trivial
      refine codeAny_mono (codeAny_call_builtin (R := wants (fun r s2 => r = .none ∧ ∃ h' tk, s2 = { s with heap := h', toks := tk } ∧ Iv items.size h' ∧ (∀ b o, s.heap.get? b = some o → h'.get? b = some o)) E) F.called_set.init.plain F.entry_set_init (check_set_init_1 hT ?_)) fun r2 s2 hr2 => ?_
      · have hz1 : (s.heap.push (set0 w)).objs.size = s.heap.objs.size + 1 := Heap.size_push ..
        have hh3 : A.in1.in1.in1.handled = none := by simp [hh]
        have hne1 : (Value.type "list" == Value.type "dict") = false := by decide
        have hne2 : (Value.type "tuple" == Value.type "dict") = false := by decide
        have a1 := F.sub_list_set; have a2 := F.sub_list_frozenset; have a3 := F.sub_tuple_set; have a4 := F.sub_tuple_frozenset
        cases hl with
        | l hl =>
          obtain ⟨⟨oc, od, oa, os⟩, hol, hcl, nl, hdl⟩ := hl
          simp only at hcl hdl
          subst hcl; subst hdl
          have ho1 : (s.heap.push (set0 w)).get? l = some { cls := .type "list", dict := od, data := .seq items nl, slots := os } := Heap.get?_push_of_some _ hol
          have hl1 : (s.heap.push (set0 w)).IsList l items := ⟨_, ho1, rfl, nl, rfl⟩
          have lS : l < s.heap.objs.size := Heap.lt_size hol
          unfold Builtin.«set.__init__» noKeywords Builtin.Frozenset.updateFrom
          generalize hPI : pyIter = PI
          wp_walk
          subst hPI
          refine wpAny_pyIter_list hl1 (wpAny_bind (wpAny_runValue ?_))
          have nI : l ≠ (s.heap.push (set0 w)).objs.size := by rw [hz1]; exact Nat.ne_of_lt (Nat.lt_succ_of_lt lS)
          refine loop_adds ((Walks.list hh3 _ l nI items).toS) D ?_ (free _ (Nat.le_refl _)) (fun b hb => free b (by rw [List.mem_singleton.mp hb, hz1]; exact Nat.le_succ _)) (items.size - 0) 0 _ (by omega) (Nat.zero_le _)
            ⟨⟨_, Heap.get?_push_size _ rfl, rfl, rfl⟩, (hl1.push _)⟩ (fun b o e => Heap.get?_push_of_some _ (Heap.get?_push_of_some _ e)) (h00 _ (Heap.get?_push_of_some _ hS) fun b o e => Heap.get?_push_of_some _ (Heap.get?_push_of_some _ e)) ?_
          · rw [hz1]
            intro z
            rcases List.mem_cons.mp z with z | z
            · exact absurd z (Nat.ne_of_lt (Nat.lt_succ_self _))
            · exact absurd (List.mem_singleton.mp z) (Nat.ne_of_gt lS)
          · intro s3 mv iv kp
            obtain ⟨h3, g3, d3, t3, o3⟩ := s3
            obtain rfl : g3 = s.gens := mv.gens
            obtain rfl : d3 = s.drawn := mv.drawn
            obtain rfl : o3 = s.os := mv.os
            exact wpAny_pure (wpAny_pure ⟨rfl, h3, t3, rfl, iv, kp⟩)
        | t hl =>
          obtain ⟨⟨oc, od, oa, os⟩, hol, hcl, nl, hdl⟩ := hl
          simp only at hcl hdl
          subst hcl; subst hdl
          have ho1 : (s.heap.push (set0 w)).get? l = some { cls := .type "tuple", dict := od, data := .seq items nl, slots := os } := Heap.get?_push_of_some _ hol
          have hl1 : (s.heap.push (set0 w)).IsTuple l items := ⟨_, ho1, rfl, nl, rfl⟩
          have lS : l < s.heap.objs.size := Heap.lt_size hol
          unfold Builtin.«set.__init__» noKeywords Builtin.Frozenset.updateFrom
          generalize hPI : pyIter = PI
          wp_walk
          subst hPI
          refine wpAny_pyIter_tuple hl1 (wpAny_bind (wpAny_runValue ?_))
          have nI : l ≠ (s.heap.push (set0 w)).objs.size := by rw [hz1]; exact Nat.ne_of_lt (Nat.lt_succ_of_lt lS)
          refine loop_adds ((Walks.tuple hh3 _ l nI items).toS) D ?_ (free _ (Nat.le_refl _)) (fun b hb => free b (by rw [List.mem_singleton.mp hb, hz1]; exact Nat.le_succ _)) (items.size - 0) 0 _ (by omega) (Nat.zero_le _)
            ⟨⟨_, Heap.get?_push_size _ rfl, rfl, rfl⟩, (hl1.push _)⟩ (fun b o e => Heap.get?_push_of_some _ (Heap.get?_push_of_some _ e)) (h00 _ (Heap.get?_push_of_some _ hS) fun b o e => Heap.get?_push_of_some _ (Heap.get?_push_of_some _ e)) ?_
          · rw [hz1]
            intro z
            rcases List.mem_cons.mp z with z | z
            · exact absurd z (Nat.ne_of_lt (Nat.lt_succ_self _))
            · exact absurd (List.mem_singleton.mp z) (Nat.ne_of_gt lS)
          · intro s3 mv iv kp
            obtain ⟨h3, g3, d3, t3, o3⟩ := s3
            obtain rfl : g3 = s.gens := mv.gens
            obtain rfl : d3 = s.drawn := mv.drawn
            obtain rfl : o3 = s.os := mv.os
            exact wpAny_pure (wpAny_pure ⟨rfl, h3, t3, rfl, iv, kp⟩)
      · cases r2 with
        | error e => exact hr2
        | ok fl2 =>
          cases fl2 with
          | ret r =>
            obtain ⟨rfl, h3, t3, rfl, iv, kp⟩ := hr2
            repeat (any_goals (first | assumption | wp_step))
            exact fin _ _ iv kp
          | _ => exact hr2.elim
    | _ => exact hr.elim
end
end FM


set_option Elab.async false
set_option linter.all false
set_option maxRecDepth 100000
set_option maxHeartbeats 4000000
/-! Sets of tuples of ints, texts, None, nested. -/
namespace FM
open PySem L2 PySem.Spec PyProof.Rows
section
variable {P : Program} {w : World}
/-! no class statement is asked -/
mutual
theorem cls_no : ∀ (k : NestedKey) (v : Value) (n : Nat) (s : Shared), NestedIs s.heap k v → k.depth ≤ n → ∀ (A : Around) (E : Value → Shared → Prop) (Q : Bool → Shared → Prop), Q false s → wpAny (model P w) A (ofAClassStatement n v) Q E s
  | .none, v, n, s, hk, hn, A, E, Q, q => by cases hk; cases n <;> exact wpAny_pure q
  | .num i, v, n, s, hk, hn, A, E, Q, q => by cases hk <;> cases n <;> exact wpAny_pure q
  | .text x, v, n, s, hk, hn, A, E, Q, q => by cases hk; cases n <;> exact wpAny_pure q
  | .tup ks, v, n, s, hk, hn, A, E, Q, q => by
    cases hk with
    | @tup a o vs m _ ho hc hd hall =>
      cases n with
      | zero => simp [NestedKey.depth] at hn
      | succ n =>
        have hT : s.TypeIs (.ref a) "tuple" := ⟨o, ho, hc⟩
        unfold ofAClassStatement
        refine wpAny_bind (wpAny_typeOf hT ?_)
        simp only [show (("tuple" : String) == "tuple") = true from by decide, if_true, Bool.not_true, Bool.false_eq_true, if_false]
        try refine wpAny_bind (wpAny_pure ?_)
        try simp only [Bool.not_true, Bool.false_eq_true, if_false]
        show wpAny _ _ (seqItems? (.ref a) >>= _) _ _ s
        refine wpAny_bind (wpAny_seqItems ho hd ?_)
        dsimp only
        refine wpAny_bind (show wpAny _ _ (forIn vs _ _) _ _ s from ?_)
        rw [← Array.forIn_toList]
        have all := cls_nos ks vs.toList n s hall (by simp only [NestedKey.depth] at hn; omega)
        refine wpAny_forIn_list _ (fun rest r s' => r.1 = none ∧ s' = s ∧ ∀ y ∈ rest, ∀ (A : Around) (E : Value → Shared → Prop) (Q : Bool → Shared → Prop), Q false s → wpAny (model P w) A (ofAClassStatement n y) Q E s) _ ?_ ?_ _ _ ⟨rfl, rfl, all⟩
        · rintro y rest r s' ⟨hr, rfl, hy⟩
          refine wpAny_bind (hy y List.mem_cons_self _ _ _ ?_)
          simp only [Bool.false_eq_true, if_false]
          exact wpAny_pure ⟨rfl, rfl, fun u hu => hy u (List.mem_cons_of_mem _ hu)⟩
        · rintro ⟨r1, r2⟩ s' ⟨hr, rfl, _⟩
          simp only at hr
          subst hr
          exact wpAny_pure q
theorem cls_nos : ∀ (ks : List NestedKey) (vs : List Value) (n : Nat) (s : Shared), NestedAll s.heap ks vs → NestedKey.depthAll ks ≤ n → ∀ y ∈ vs, ∀ (A : Around) (E : Value → Shared → Prop) (Q : Bool → Shared → Prop), Q false s → wpAny (model P w) A (ofAClassStatement n y) Q E s
  | [], vs, n, s, h, hn, y, hy => by cases h; cases hy
  | k :: ks, vs, n, s, h, hn, y, hy => by
    cases h with
    | cons h1 h2 =>
      simp only [NestedKey.depthAll] at hn
      rcases List.mem_cons.mp hy with e | hy
      · rw [e]; exact cls_no k _ n s h1 (by omega)
      · exact cls_nos ks _ n s h2 (by omega) y hy
end
/-! whether a hash goes by the value: any answer -/
mutual
theorem hsh_any : ∀ (k : NestedKey) (v : Value) (n : Nat) (s : Shared), NestedIs s.heap k v → ∀ (A : Around) (E : Value → Shared → Prop) (Q : Bool → Shared → Prop), (∀ b, Q b s) → wpAny (model P w) A (hashByValue n v) Q E s
  | .none, v, n, s, hk, A, E, Q, q => by cases hk; cases n <;> exact wpAny_pure (q _)
  | .num i, v, n, s, hk, A, E, Q, q => by cases hk <;> cases n <;> exact wpAny_pure (q _)
  | .text x, v, n, s, hk, A, E, Q, q => by cases hk; cases n <;> exact wpAny_pure (q _)
  | .tup ks, v, n, s, hk, A, E, Q, q => by
    cases hk with
    | @tup a o vs m _ ho hc hd hall =>
      cases n with
      | zero => exact wpAny_pure (q _)
      | succ n =>
        have hT : s.TypeIs (.ref a) "tuple" := ⟨o, ho, hc⟩
        unfold hashByValue
        refine wpAny_bind (wpAny_specialOf hT F.slot_tuple_hash.lookup ?_)
        show wpAny _ _ (seqItems? (.ref a) >>= _) _ _ s
        refine wpAny_bind (wpAny_seqItems ho hd (wpAny_bind (show wpAny _ _ (forIn vs _ _) _ _ s from ?_)))
        rw [← Array.forIn_toList]
        have all := hsh_anys ks vs.toList n s hall
        refine wpAny_forIn_list _ (fun rest r s' => s' = s ∧ ∀ y ∈ rest, ∀ (A : Around) (E : Value → Shared → Prop) (Q : Bool → Shared → Prop), (∀ b, Q b s) → wpAny (model P w) A (hashByValue n y) Q E s) _ ?_ ?_ _ _ ⟨rfl, all⟩
        · rintro y rest r s' ⟨rfl, hy⟩
          refine wpAny_bind (hy y List.mem_cons_self _ _ _ fun b => ?_)
          cases b
          · simp only [Bool.not_false, if_true]
            refine wpAny_pure ?_
            exact wpAny_pure (q _)
          · simp only [Bool.not_true, Bool.false_eq_true, if_false]
            exact wpAny_pure ⟨rfl, fun u hu => hy u (List.mem_cons_of_mem _ hu)⟩
        · rintro ⟨r1, r2⟩ s' ⟨rfl, _⟩
          cases r1
          · exact wpAny_pure (q _)
          · exact wpAny_pure (q _)
theorem hsh_anys : ∀ (ks : List NestedKey) (vs : List Value) (n : Nat) (s : Shared), NestedAll s.heap ks vs → ∀ y ∈ vs, ∀ (A : Around) (E : Value → Shared → Prop) (Q : Bool → Shared → Prop), (∀ b, Q b s) → wpAny (model P w) A (hashByValue n y) Q E s
  | [], vs, n, s, h, y, hy => by cases h; cases hy
  | k :: ks, vs, n, s, h, y, hy => by
    cases h with
    | cons h1 h2 =>
      rcases List.mem_cons.mp hy with e | hy
      · rw [e]; exact hsh_any k _ n s h1
      · exact hsh_anys ks _ n s h2 y hy
end
/-- the tuple at b is the key k -/
def KI (h : Heap) (k : NestedKey) (b : Addr) : Prop := NestedIs h k (.ref b) ∧ k.depth ≤ 8
theorem not_seen {A : Around} {E : Value → Shared → Prop} {s : Shared} {k : NestedKey} {b : Addr} {Q : Bool → Shared → Prop} (hk : KI s.heap k b) {ys : List Value} (hy : ∀ y ∈ ys, ∃ k' c, y = Value.ref c ∧ KI s.heap k' c) (q : Q false s) :
    wpAny (model P w) A (searchCouldBeSeen (.ref b) ys) Q E s := by
  unfold searchCouldBeSeen
  refine wpAny_bind (wpAny_forIn_list _ (fun rest r s' => r.1 = none ∧ s' = s ∧ ∀ y ∈ rest, ∃ k' c, y = Value.ref c ∧ KI s.heap k' c) _ ?_ ?_ _ _ ⟨rfl, rfl, hy⟩)
  · rintro v rest r s' ⟨hr, rfl, hall⟩
    obtain ⟨k', c, rfl, hc⟩ := hall v List.mem_cons_self
    have more : ∀ y ∈ rest, ∃ k' c, y = Value.ref c ∧ KI s'.heap k' c := fun u hu => hall u (List.mem_cons_of_mem _ hu)
    dsimp only
    by_cases very : (b == c || (carriedByValue (.ref b) && carriedByValue (.ref c))) = true
    · exact wp_if_pos very (wpAny_pure ⟨rfl, rfl, more⟩)
    · refine wp_if_neg very (wpAny_bind ((nestedKind P w).quiet hk ?_))
      simp only [Bool.not_true, Bool.false_eq_true, if_false]
      refine wpAny_bind ((nestedKind P w).quiet hc ?_)
      simp only [Bool.not_true, Bool.false_eq_true, if_false]
      refine wpAny_bind (cls_no k _ 8 s' hk.1 hk.2 _ _ _ ?_)
      simp only [Bool.false_eq_true, if_false]
      refine wpAny_bind (cls_no k' _ 8 s' hc.1 hc.2 _ _ _ ?_)
      simp only [Bool.false_eq_true, if_false]
      exact wpAny_pure ⟨rfl, rfl, more⟩
  · rintro ⟨r1, r2⟩ s' ⟨hr, rfl, _⟩
    simp only at hr
    subst hr
    exact wpAny_pure q
end
end FM


set_option Elab.async false
set_option linter.all false
set_option maxRecDepth 100000
set_option maxHeartbeats 4000000
/-! The table of a set of tuples: searching, adding. -/
namespace FM
open PySem L2 PySem.Spec PyProof.Rows
abbrev KL := List (Addr × NestedKey)
def rowK (w : World) (p : Addr × NestedKey) : Int × Value := (p.2.hash w, Value.ref p.1)
structure TSet (w : World) (h : Heap) (a : Addr) (L : KL) (es : Array (Int × Value)) (ep : Nat) (t : SetTable) : Prop where
  ob : ∃ o, h.get? a = some o ∧ o.ExactSet ∧ o.data = .set es ep t
  rows : es.toList = L.map (rowK w)
  tab : TabOk t (L.map fun p => p.2.hash w)
  nd : (L.map (·.2)).Nodup
  key : ∀ p ∈ L, KI h p.2 p.1
  room : L.length * 5 < t.mask * 3
  few : L.length < 64
section
variable {P : Program} {w : World} {A : Around} {E : Value → Shared → Prop} {s : Shared} {h : Heap} {a : Addr} {L : KL} {es : Array (Int × Value)} {ep : Nat} {t : SetTable}
theorem TSet.size (R : TSet w h a L es ep t) : es.size = L.length := by
  have q := congrArg List.length R.rows
  rwa [Array.length_toList, List.length_map] at q
theorem fits_of {n : Nat} (h1 : t.place.size = n) (h2 : t.dummies = #[]) (h3 : n ≤ t.mask) : t.fits n = true := by
  unfold SetTable.fits SetTable.fill
  rw [h2, Bool.and_eq_true, beq_iff_eq, decide_eq_true_eq]
  show t.place.size = n ∧ t.place.size + 0 ≤ t.mask
  omega
theorem TSet.placed (R : TSet w h a L es ep t) : t.place.size = L.length := by
  have q := R.tab.sz
  rwa [List.length_map] at q
theorem TSet.fits (R : TSet w h a L es ep t) : t.fits es.size = true := fits_of (by rw [R.placed, R.size]) R.tab.dm (by have := R.room; rw [R.size]; omega)
theorem TSet.at_ (R : TSet w h a L es ep t) {i : Nat} {p : Addr × NestedKey} (e : L[i]? = some p) : es[i]? = some (rowK w p) := by
  rw [← Array.getElem?_toList, R.rows, List.getElem?_map, e]; rfl
theorem TSet.way_ok (R : TSet w h a L es ep t) : ¬ t.gaveWay = true := by
  unfold SetTable.gaveWay
  rw [mask_odd R.tab.mok]
  decide
/-- the steps of a search -/
abbrev stp (w : World) (t : SetTable) (k : NestedKey) (c : Nat) : SetTable.Probe := L2.nth t.mask (runAt t.mask (SetTable.bits (k.hash w) % (t.mask + 1)) (SetTable.bits (k.hash w))) c
abbrev wy (w : World) (t : SetTable) (k : NestedKey) (c : Nat) : Nat := way t.mask (k.hash w) c
theorem stp_dummy (m : Nat) : ∀ (n : Nat) (p : SetTable.Probe), p.dummy = none → (L2.nth m p n).dummy = none
  | 0, _, h => h
  | n + 1, p, h => by
    refine stp_dummy m n (adv m p) ?_
    unfold adv
    split <;> exact h
theorem srch (R : TSet w s.heap a L es ep t) {x : Addr} {k : NestedKey} (hx : KI s.heap k x) (hu : A.units + 8 < cLine) {K : Nat} (big : K < 10 * SetTable.turns t.mask)
    (hK : wy w t k K ∉ t.place.toList) (before : ∀ c, c < K → wy w t k c ∈ t.place.toList) {Q : SetFound → Shared → Prop} (hin : k ∈ L.map (·.2) → Q (.there none) s) (hout : k ∉ L.map (·.2) → Q (.free (wy w t k K) false) s) :
    ∀ (f c : Nat) (stand : Option SetTable.Probe), stand.getD (t.probeStart (k.hash w)) = stp w t k c → c ≤ K → K - c < f →
      (∀ (i : Nat) p, L[i]? = some p → p.2 = k → ∃ c', c ≤ c' ∧ c' < K ∧ t.place.toList[i]? = some (wy w t k c')) →
      wpAny (model P w) A (setSearchFrom a (.ref x) (k.hash w) true f stand) Q E s
  | 0, c, stand, _, _, hf, _ => absurd hf (Nat.not_lt_zero _)
  | f + 1, c, stand, hst, hc, hf, hre => by
    obtain ⟨o, ho, hex, hd⟩ := R.ob
    have st1 : ∀ q, L2.nth t.mask (stp w t k c) q = stp w t k (c + q) := fun q => (nth_add t.mask c _ q).symm
    have st2 : ∀ q, (L2.nth t.mask (stp w t k c) q).j = wy w t k (c + q) := fun q => congrArg SetTable.Probe.j (st1 q)
    have hat : ∀ (i : Nat) p, L[i]? = some p → (fun i => (es[i]?.map (·.1)).getD 0) i = p.2.hash w := fun i p hp => by
      show (es[i]?.map (·.1)).getD 0 = _
      rw [R.at_ hp]; rfl
    have spec := go_spec t R.tab.ris R.tab.dm (fun i => (es[i]?.map (·.1)).getD 0) (k.hash w) (10 * SetTable.turns t.mask) (K - c) (stp w t k c) (stp_dummy _ c _ rfl) (by omega)
      (fun q hq => by rw [st2]; exact before (c + q) (by omega)) (by rw [st2, show c + (K - c) = K by omega]; exact hK)
    have at2 : ∀ (i0 : Nat) (p0 : Addr × NestedKey), L[i0]? = some p0 → p0.2 = k → (fun i => (es[i]?.map (·.1)).getD 0) i0 = k.hash w := fun i0 p0 h0 e0 => (hat i0 p0 h0).trans (by rw [e0])
    rw [setSearchFrom_succ]
    refine wpAny_bind (wpAny_setState_of ho hd R.fits ?_)
    dsimp only
    refine wp_if_neg R.way_ok ?_
    try refine wpAny_bind (wpAny_pure ?_)
    rcases spec with ⟨q, i, hq, hi, hh, hno, hpr⟩ | ⟨hno, hpr⟩
    · rw [st2] at hi
      have hpr' : t.probe (fun i => (es[i]?.map (·.1)).getD 0) (k.hash w) (stand.getD (t.probeStart (k.hash w))) = some (.candidate (wy w t k (c + q)) i (stp w t k (c + (q + 1)))) := by
        rw [hst, ← st2, ← st1]; exact hpr
      rw [hpr']
      dsimp only
      have il : i < L.length := by
        have h1 : i < t.place.toList.length := (List.getElem?_eq_some_iff.mp hi).1
        rw [Array.length_toList, R.placed] at h1
        exact h1
      obtain ⟨p, hp⟩ : ∃ p, L[i]? = some p := ⟨_, List.getElem?_eq_getElem il⟩
      have pm : p ∈ L := List.mem_of_getElem? hp
      have sl : t.slot (wy w t k (c + q)) = .live i := slot_live R.tab.ris hi
      have rest : wpAny (model P w) A (searchRest a (.ref x) (k.hash w) true f es t (wy w t k (c + q)) i (stp w t k (c + (q + 1)))) Q E s := by
        unfold searchRest
        rw [R.at_ hp]
        dsimp only [rowK]
        refine wpAny_bind (wpAny_holding ((nestedKind P w).eqBool hu (R.key p pm) hx (wpAny_bind (wpAny_setState_of ho hd R.fits ?_))))
        dsimp only
        by_cases hkk : p.2 = k
        · exact wp_if_pos (by simp [hkk]) (wpAny_pure (hin (List.mem_map.mpr ⟨p, pm, hkk⟩)))
        · refine wp_if_neg (by simp [hkk]) ?_
          try refine wpAny_bind (wpAny_pure ?_)
          rw [sameMem]
          dsimp only
          simp only [if_true, sl, R.at_ hp, rowK]
          refine wpAny_bind (wpAny_isSame_ref_self (wpAny_bind (wpAny_pure ?_)))
          simp only [if_true]
          refine wp_if_neg (by simp [hkk]) (srch R hx hu big hK before hin hout f (c + (q + 1)) _ rfl (by omega) (by omega) fun i0 p0 h0 e0 => ?_)
          obtain ⟨c', a1, a2, a3⟩ := hre i0 p0 h0 e0
          refine ⟨c', ?_, a2, a3⟩
          rcases Nat.lt_trichotomy c' (c + q) with z | z | z
          · exact absurd (at2 i0 p0 h0 e0) (hno (c' - c) i0 (by omega) (by rw [st2, show c + (c' - c) = c' by omega]; exact a3))
          · rw [z] at a3
            have s0 := slot_live R.tab.ris a3
            rw [sl] at s0
            injection s0 with s0
            rw [← s0, hp] at h0
            exact absurd ((congrArg Prod.snd (Option.some.inj h0)).trans e0) hkk
          · omega
      by_cases hl : t.led = true
      · refine wp_if_neg (by simp [hl]) ?_
        try refine wpAny_bind (wpAny_pure ?_)
        exact rest
      · refine wp_if_pos (by simp [hl]) (wpAny_bind (not_seen hx (fun y hy => ?_) ?_))
        · obtain ⟨e, he, ee⟩ := List.mem_map.mp hy
          have he1 : e ∈ es ∧ e.1 = k.hash w := by simpa using he
          have he2 : e ∈ es.toList := by simpa using he1.1
          rw [R.rows] at he2
          obtain ⟨p2, hp2, e2⟩ := List.mem_map.mp he2
          exact ⟨p2.2, p2.1, by rw [← ee, ← e2]; rfl, R.key p2 hp2⟩
        · refine wp_if_neg (by decide) ?_
          try refine wpAny_bind (wpAny_pure ?_)
          exact rest
    · have hpr' : t.probe (fun i => (es[i]?.map (·.1)).getD 0) (k.hash w) (stand.getD (t.probeStart (k.hash w))) = some (.empty (wy w t k K) none) := by
        have e2 : wy w t k K = (L2.nth t.mask (stp w t k c) (K - c)).j := by rw [st2, show c + (K - c) = K by omega]
        rw [hst, e2]; exact hpr
      rw [hpr']
      dsimp only
      refine wpAny_pure (hout fun hm => ?_)
      obtain ⟨p0, m0, e0⟩ := List.mem_map.mp hm
      obtain ⟨i0, l0, g0⟩ := List.getElem_of_mem m0
      have h0 : L[i0]? = some p0 := by rw [List.getElem?_eq_getElem l0, g0]
      obtain ⟨c', a1, a2, a3⟩ := hre i0 p0 h0 e0
      exact hno (c' - c) i0 (by omega) (by rw [st2, show c + (c' - c) = c' by omega]; exact a3) (at2 i0 p0 h0 e0)
theorem srch_at (R : TSet w s.heap a L es ep t) {x : Addr} {k : NestedKey} (hx : KI s.heap k x) (hu : A.units + 8 < cLine) {Q : SetFound → Shared → Prop} (hin : k ∈ L.map (·.2) → Q (.there none) s)
    (hout : ∀ K, k ∉ L.map (·.2) → wy w t k K ∉ t.place.toList → (∀ c, c < K → wy w t k c ∈ t.place.toList) → Q (.free (wy w t k K) false) s) : wpAny (model P w) A (setSearch a (.ref x) (k.hash w) true) Q E s := by
  have room := R.room
  obtain ⟨K, hKf, hK, hKb⟩ := R.tab.first (by rw [List.length_map]; omega) (k.hash w)
  have big : K < 100000 := by
    have : 10 * SetTable.turns t.mask ≤ 1420 := by
      unfold SetTable.turns
      rcases R.tab.mok with e | e | e <;> omega
    omega
  unfold setSearch
  refine srch R hx hu hKf hK hKb hin (fun hn => hout K hn hK hKb) 100000 0 none rfl (Nat.zero_le _) (by omega) fun i p hp hk => ?_
  have il : i < t.place.toList.length := by rw [Array.length_toList, R.placed]; exact (List.getElem?_eq_some_iff.mp hp).1
  have hj := List.getElem?_eq_getElem il
  obtain ⟨c, hc, e⟩ := R.tab.before hK (i := i) (by rw [List.getElem?_map, hp, ← hk]; rfl) hj
  exact ⟨c, Nat.zero_le _, hc, hj.trans (congrArg some e.symm)⟩
theorem KI.same {h h' : Heap} {k : NestedKey} {a b : Addr} {o : Obj} {es : Array (Int × Value)} {ep : Nat} {t : SetTable} (hb : KI h k b) (ho : h.get? a = some o) (hd : o.data = .set es ep t) (hs : Heap.SameBut a h h') : KI h' k b := by
  refine ⟨NestedIs.at (fun c u vs n e hq => (hs.2 c fun z => ?_).trans e) k _ hb.1, hb.2⟩
  subst z
  obtain rfl : u = o := Option.some.inj (e.symm.trans ho)
  rw [hd] at hq
  cases hq
theorem KI.keep {h h' : Heap} {k : NestedKey} {b : Addr} (x : KI h k b) (hk : ∀ c o, h.get? c = some o → h'.get? c = some o) : KI h' k b := ⟨NestedIs.at (fun c u vs n e _ => hk c u e) k _ x.1, x.2⟩
theorem ordK {order : Array Nat} (hr : es.toList = L.map (rowK w)) (hp : order.toList.Perm (List.range L.length)) :
    ∃ L2 : KL, (order.filterMap (es[·]?)).toList = L2.map (rowK w) ∧ L2.Perm L ∧ (L2.map fun p => p.2.hash w) = order.toList.map fun i => (es.map (·.1)).getD i 0 := by
  have ent : ∀ i (h : i < L.length), es[i]? = some (rowK w L[i]) := fun i h => by
    rw [← Array.getElem?_toList, hr, List.getElem?_map, List.getElem?_eq_getElem h]; rfl
  have key : ∀ l : List Nat, (∀ i ∈ l, i < L.length) → l.filterMap (fun i => es[i]?) = (l.filterMap fun i => L[i]?).map (rowK w) ∧ ((l.filterMap fun i => L[i]?).map fun p => p.2.hash w) = l.map fun i => (es.map (·.1)).getD i 0 := by
    intro l
    induction l with
    | nil => intro _; exact ⟨rfl, rfl⟩
    | cons i l ih =>
      intro hl
      have hi := hl i List.mem_cons_self
      obtain ⟨e1, e2⟩ := ih fun j hj => hl j (List.mem_cons_of_mem _ hj)
      have e4 : (es.map (·.1)).getD i 0 = (L[i]).2.hash w := by
        have e5 : (es.map (·.1))[i]? = some ((L[i]).2.hash w) := by rw [Array.getElem?_map, ent i hi]; rfl
        simp [Array.getD_eq_getD_getElem?, e5]
      constructor
      · rw [List.filterMap_cons_some (ent i hi), List.filterMap_cons_some (List.getElem?_eq_getElem hi), List.map_cons, e1]
      · rw [List.filterMap_cons_some (List.getElem?_eq_getElem hi), List.map_cons, List.map_cons, e2, e4]
  obtain ⟨e1, e2⟩ := key order.toList fun i hi => List.mem_range.mp (hp.mem_iff.mp hi)
  refine ⟨_, by first | (rw [Array.toList_filterMap]; exact e1) | simpa using e1, ?_, e2⟩
  have whole : ∀ n, n ≤ L.length → (List.range n).filterMap (fun i => L[i]?) = L.take n := by
    intro n
    induction n with
    | zero => intro _; rfl
    | succ n ih =>
      intro hn
      rw [List.range_succ, List.filterMap_append, ih (Nat.le_of_lt hn), List.take_succ, List.getElem?_eq_getElem hn, List.filterMap_cons_some (List.getElem?_eq_getElem hn)]; rfl
  have h1 := hp.filterMap fun i => L[i]?
  rw [whole L.length (Nat.le_refl _), List.take_length] at h1
  exact h1
/-- the table is laid anew -/
theorem relayK {o : Obj} (ho : s.heap.get? a = some o) (hex : o.ExactSet) (hd : o.data = .set es ep t) (hr : es.toList = L.map (rowK w)) (hsz : t.place.size = es.size) (hdm : t.dummies = #[]) (hfl : es.size ≤ t.mask) (nd : (L.map (·.2)).Nodup) (hk : ∀ p ∈ L, KI s.heap p.2 p.1) (few : L.length < 64)
    {wanted M : Nat} (hw : SetTable.sizeAbove wanted - 1 = M) (hM : MaskOk M) (hw2 : SetTable.sizeAbove wanted ≤ 128) (hn : L.length * 5 < M * 3) {Q : Unit → Shared → Prop}
    (fin : ∀ h' L' es' ep' t', Heap.SameBut a s.heap h' → TSet w h' a L' es' ep' t' → L'.Perm L → Q () { s with heap := h' }) : wpAny (model P w) A (setRelay a wanted) Q E s := by
  have sl : es.size = L.length := by
    have q := congrArg List.length hr
    rwa [Array.length_toList, List.length_map] at q
  obtain ⟨t', order, e, hp, T, em, el, ep', ed⟩ := relaid_ok t (hs := es.map (·.1)) (wanted := wanted) hw hM (by rw [Array.size_map, sl]; omega)
  rw [Array.size_map, sl] at hp
  obtain ⟨L2, r1, r2, r3⟩ := ordK hr hp
  rw [← r3] at T
  have s2 : (order.filterMap (es[·]?)).size = es.size := by
    have q := congrArg List.length r1
    rw [Array.length_toList, List.length_map, r2.length_eq] at q
    rw [q, sl]
  rw [setRelay_eq]
  refine wpAny_bind (wpAny_setState_of ho hd (fits_of hsz hdm hfl) ?_)
  dsimp only
  refine wp_if_neg (by rw [sizeLine_eq]; omega) ?_
  try refine wpAny_bind (wpAny_pure ?_)
  rw [e]
  dsimp only
  refine wpAny_bind (wp_if_neg (by rw [s2]; simp) ?_)
  try refine wpAny_bind (wpAny_pure ?_)
  refine wpAny_pure ?_
  dsimp only
  refine wpAny_storeSet_of ho hd ?_ (by rw [s2, sl, sizeLine_eq]; omega)
  have sb : Heap.SameBut a s.heap (s.heap.update a (Obj.putSet (order.filterMap (es[·]?)) t')) := Heap.SameBut.update ..
  exact fin _ L2 (order.filterMap (es[·]?)) (ep + 1) t' sb ⟨⟨_, store_at ho hd, ⟨hex.1, hex.2.1, hex.2.2⟩, rfl⟩, r1, T, (r2.map (·.2)).nodup_iff.mpr nd, fun p hpm => (hk p (r2.mem_iff.mp hpm)).same ho hd sb, by rw [r2.length_eq, em]; exact hn, by rw [r2.length_eq]; exact few⟩ r2
theorem tab_plain {hs : List Int} (T : TabOk t hs) (b : Bool) : TabOk { t with plain := b } hs := ⟨T.ris, T.dm, T.sz, T.mok, T.bd, T.reach⟩
/-- one more -/
theorem addK (R : TSet w s.heap a L es ep t) {x : Addr} {k : NestedKey} (hx : KI s.heap k x) (hu : A.units + 8 < cLine) (hfew : L.length + 1 < 64) {Q : Bool → Shared → Prop}
    (fin : ∀ b h' L' es' ep' t', Heap.SameBut a s.heap h' → TSet w h' a L' es' ep' t' → (k ∈ L.map (·.2) → L' = L) → (k ∉ L.map (·.2) → L'.Perm ((x, k) :: L)) → Q b { s with heap := h' }) :
    wpAny (model P w) A (setAddHashed a (.ref x) (k.hash w)) Q E s := by
  obtain ⟨o, ho, hex, hd⟩ := R.ob
  have sl := R.size
  have room := R.room
  unfold setAddHashed
  refine wpAny_holding ?_
  rw [show (100000 : Nat) = 99999 + 1 from rfl, setAddHashedIn_succ]
  refine wpAny_bind (wpAny_setState_of ho hd R.fits ?_)
  dsimp only
  refine wp_if_neg (by simp [byScan, Value.scannable]) ?_
  try refine wpAny_bind (wpAny_pure ?_)
  refine wpAny_bind (srch_at R hx hu (fun hm => wpAny_pure (fin false s.heap L es ep t (Heap.SameBut.refl a s.heap) R (fun _ => rfl) fun z => absurd hm z)) fun K hm hK hb => ?_)
  dsimp only
  refine wpAny_bind (wpAny_setState_of ho hd R.fits ?_)
  dsimp only
  obtain ⟨q1, q2, q3, q4, q5, q6, q7, q8, q9⟩ := R.tab.put hK hb
  generalize hpt : t.put (way t.mask (k.hash w) K) = pt at q1 q3 q4 q5 q6 q7 q8 q9 ⊢
  obtain ⟨t1, p⟩ := pt
  dsimp only at q1 q3 q4 q5 q6 q7 q8 q9 ⊢
  subst q1
  have rest : ∀ t2 : SetTable, (∃ b, t2 = { t1 with plain := b }) → wpAny (model P w) A (do
      storeSet a (SetTable.insertAt es (SetTable.below t.place (way t.mask (k.hash w) K)) (k.hash w, Value.ref x)) t2
      if !false && t2.tooFull then setRelay a (SetTable.grown (es.size + 1))
      return true) Q E s := by
    rintro t2 ⟨pb, rfl⟩
    have q3 := tab_plain q3 pb
    have full : ({ t1 with plain := pb } : SetTable).tooFull = t1.tooFull := rfl
    have hin : (SetTable.insertAt es (SetTable.below t.place (way t.mask (k.hash w) K)) (k.hash w, Value.ref x)).toList = (L.take (SetTable.below t.place (way t.mask (k.hash w) K)) ++ (x, k) :: L.drop (SetTable.below t.place (way t.mask (k.hash w) K))).map (rowK w) := by
      rw [SetTable.toList_insertAt, R.rows, List.map_append, List.map_cons, List.map_take, List.map_drop]; rfl
    generalize hpp : SetTable.below t.place (way t.mask (k.hash w) K) = p at q2 q3 hin ⊢
    have pm := put_perm L p (x, k)
    have hhs : (L.take p ++ (x, k) :: L.drop p).map (fun p => p.2.hash w) = (L.map fun p => p.2.hash w).take p ++ k.hash w :: (L.map fun p => p.2.hash w).drop p := by
      rw [List.map_append, List.map_cons, List.map_take, List.map_drop]
    rw [← hhs] at q3
    generalize hL1 : L.take p ++ (x, k) :: L.drop p = L1 at pm q3 hin
    have len : L1.length = L.length + 1 := pm.length_eq
    have nd1 : (L1.map (·.2)).Nodup := (pm.map (·.2)).nodup_iff.mpr (by rw [List.map_cons]; exact List.nodup_cons.mpr ⟨hm, R.nd⟩)
    have es1s : (SetTable.insertAt es p (k.hash w, Value.ref x)).size = L.length + 1 := by
      have q := congrArg List.length hin
      rwa [Array.length_toList, List.length_map, len] at q
    generalize SetTable.insertAt es p (k.hash w, Value.ref x) = es1 at hin es1s ⊢
    refine wpAny_bind (wpAny_storeSet_of ho hd ?_ (by rw [es1s, sizeLine_eq]; omega))
    have sb : Heap.SameBut a s.heap (s.heap.update a (Obj.putSet es1 { t1 with plain := pb })) := Heap.SameBut.update ..
    have ho1 := store_at (es' := es1) (t' := { t1 with plain := pb }) ho hd
    generalize s.heap.update a (Obj.putSet es1 { t1 with plain := pb }) = h1 at sb ho1 ⊢
    have key1 : ∀ p ∈ L1, KI h1 p.2 p.1 := fun p hp => by
      rcases List.mem_cons.mp (pm.mem_iff.mp hp) with e | hp
      · rw [e]; exact hx.same ho hd sb
      · exact (R.key p hp).same ho hd sb
    have tf : t1.tooFull = decide ((L.length + 1) * 5 ≥ t1.mask * 3) := by
      unfold SetTable.tooFull
      rw [q9, List.length_map]
    by_cases hf : t1.tooFull = true
    · first
        | (refine wpAny_bind ?_; refine wp_if_pos (by simp [hf, full]) ?_)
        | (refine wp_if_pos (by simp [hf, full]) ?_; refine wpAny_bind ?_)
      have hfull : (L.length + 1) * 5 ≥ t1.mask * 3 := by rw [tf] at hf; exact of_decide_eq_true hf
      rw [sl]
      have sz1 : t1.place.size = es1.size := by
        have q := q3.sz
        rw [List.length_map, len] at q
        rw [es1s]; exact q
      have two : (t.mask = 7 ∧ L.length = 4) ∨ (t.mask = 31 ∧ L.length = 18) := by
        rw [q4] at hfull
        rcases R.tab.mok with e | e | e <;> rw [e] at hfull room
        · left; exact ⟨e, by omega⟩
        · right; exact ⟨e, by omega⟩
        · omega
      have go : ∀ M, SetTable.sizeAbove (SetTable.grown (L.length + 1)) - 1 = M → MaskOk M → SetTable.sizeAbove (SetTable.grown (L.length + 1)) ≤ 128 → (L.length + 1) * 5 < M * 3 →
          wpAny (model P w) A (setRelay a (SetTable.grown (L.length + 1))) (fun _ s' => wpAny (model P w) A (pure true) Q E s') E { s with heap := h1 } := fun M e1 e2 e3 e4 => by
        refine relayK (s := { s with heap := h1 }) ho1 ⟨hex.1, hex.2.1, hex.2.2⟩ rfl hin sz1 q3.dm (by show es1.size ≤ t1.mask; rw [es1s, q4]; rcases two with ⟨e, e2⟩ | ⟨e, e2⟩ <;> omega) nd1 key1 (by rw [len]; exact hfew) e1 e2 e3 (by rw [len]; exact e4) ?_
        intro h2 L2 es2 ep2 t2 sb2 R2 pm2
        exact wpAny_pure (fin true h2 L2 es2 ep2 t2 (sb.trans sb2) R2 (fun z => absurd z hm) fun _ => pm2.trans pm)
      rcases two with ⟨_, e2⟩ | ⟨_, e2⟩
      · exact go 31 (by rw [e2, size_20]) (.inr (.inl rfl)) (by rw [e2, size_20]; decide) (by omega)
      · exact go 127 (by rw [e2, size_76]) (.inr (.inr rfl)) (by rw [e2, size_76]; decide) (by omega)
    · first
        | refine wp_if_neg (by simp [hf, full]) ?_
        | (refine wpAny_bind ?_; refine wp_if_neg (by simp [hf, full]) ?_; refine wpAny_pure ?_)
      refine wpAny_pure (fin true h1 L1 es1 (ep + 1) { t1 with plain := pb } sb ⟨⟨_, ho1, ⟨hex.1, hex.2.1, hex.2.2⟩, rfl⟩, hin, q3, nd1, key1, ?_, by rw [len]; exact hfew⟩ (fun z => absurd z hm) fun _ => pm)
      show L1.length * 5 < t1.mask * 3
      rw [tf, decide_eq_true_eq] at hf
      rw [len]
      omega
  by_cases hpl : t1.plain = true
  · first
      | (refine wpAny_bind ?_; refine wp_if_pos hpl ?_; refine hsh_any k _ 8 s hx.1 _ _ _ fun b => ?_)
      | refine wp_if_pos hpl (wpAny_bind (hsh_any k _ 8 s hx.1 _ _ _ fun b => ?_))
    cases b
    · exact rest _ ⟨false, rfl⟩
    · exact rest _ ⟨t1.plain, rfl⟩
  · first
      | (refine wpAny_bind ?_; refine wp_if_neg hpl ?_; refine wpAny_pure ?_)
      | refine wp_if_neg hpl (wpAny_bind (wpAny_pure ?_))
    exact rest _ ⟨t1.plain, rfl⟩
end
end FM


set_option Elab.async false
set_option linter.all false
set_option maxRecDepth 100000
set_option maxHeartbeats 4000000
/-! len(set(v)). -/
namespace FM
open PySem L2 PySem.Spec PyProof.Rows
/-- how many different ones: l has each of ks once -/
def Once {α : Type} (ks l : List α) : Prop := l.Nodup ∧ ∀ q, q ∈ l ↔ q ∈ ks
theorem nodup_le {α : Type} [DecidableEq α] : ∀ {l l' : List α}, l.Nodup → (∀ x ∈ l, x ∈ l') → l.length ≤ l'.length
  | [], _, _, _ => Nat.zero_le _
  | x :: l, l', h, hs => by
    rw [List.nodup_cons] at h
    have hx := hs x List.mem_cons_self
    have ih := nodup_le (l' := l'.erase x) h.2 fun y hy => (List.mem_erase_of_ne (fun e => h.1 (by rw [← e]; exact hy))).mpr (hs y (List.mem_cons_of_mem _ hy))
    rw [List.length_erase_of_mem hx] at ih
    have : 0 < l'.length := List.length_pos_of_mem hx
    simp only [List.length_cons]
    omega
theorem Once.len {α : Type} [DecidableEq α] {ks l l' : List α} (a : Once ks l) (b : Once ks l') : l.length = l'.length :=
  Nat.le_antisymm (nodup_le a.1 fun x hx => (b.2 x).mpr ((a.2 x).mp hx)) (nodup_le b.1 fun x hx => (a.2 x).mpr ((b.2 x).mp hx))
theorem take_more {α : Type} {l : List α} {i : Nat} {x : α} (h : l[i]? = some x) : l.take (i + 1) = l.take i ++ [x] := by
  rw [List.take_succ, h]; rfl
section
variable {P : Program} {w : World} {A : Around}
/-- of tuples -/
def IvT (w : World) (S : Addr) (ks : KL) (i : Nat) (h : Heap) : Prop := ∃ L es ep t, TSet w h S L es ep t ∧ (∀ p ∈ L, p ∈ ks) ∧ L.length ≤ i ∧ ∀ q, q ∈ L.map (·.2) ↔ q ∈ (ks.take i).map (·.2)
theorem adds_tup {h0 : Heap} {S : Addr} {items : Array Value} {ks : KL} (hit : items.toList = ks.map fun p => Value.ref p.1) (hk : ∀ p ∈ ks, KI h0 p.2 p.1) (few : ks.length < 64) (hu : A.units + 8 < cLine) : Adds P w A h0 S items.size (fun i v => items[i]? = some v) (IvT w S ks) where
  step := fun i v s E Q hi hv kp iv fin => by
    obtain ⟨L, es, ep, t, R, sub, len, mem⟩ := iv
    have q : items.toList[i]? = some v := by rw [Array.getElem?_toList]; exact hv
    rw [hit, List.getElem?_map] at q
    obtain ⟨p, hp, rfl⟩ := Option.map_eq_some_iff.mp q
    have il := (List.getElem?_eq_some_iff.mp hp).1
    have hx : KI s.heap p.2 p.1 := (hk p (List.mem_of_getElem? hp)).keep kp
    unfold setAdd
    refine wpAny_holding (wpAny_bind ((nestedKind P w).pyHash hu hx ?_))
    refine addK (s := { s with toks := s.toks + p.2.draws }) R hx hu (by omega) fun b h' L' es' ep' t' sb R' c1 c2 => fin b h' _ (Nat.le_add_right _ _) sb ⟨L', es', ep', t', R', ?_⟩
    rw [take_more hp, List.map_append]
    by_cases c : p.2 ∈ L.map (·.2)
    · rw [c1 c]
      refine ⟨sub, Nat.le_succ_of_le len, fun q => ?_⟩
      rw [List.mem_append, mem q]
      refine ⟨.inl, fun z => z.elim id fun z => ?_⟩
      rw [List.mem_singleton.mp z]; exact (mem _).mp c
    · have pm := c2 c
      refine ⟨fun y hy => ?_, by rw [pm.length_eq]; exact Nat.succ_le_succ len, fun q => ?_⟩
      · rcases List.mem_cons.mp (pm.mem_iff.mp hy) with e | hy
        · rw [e]; exact List.mem_of_getElem? hp
        · exact sub y hy
      · rw [(pm.map (·.2)).mem_iff, List.map_cons, List.mem_cons, List.mem_append, mem q, List.map_cons, List.map_nil, List.mem_singleton]
        exact Or.comm
  frame := fun i h h' iv hS kp => by
    obtain ⟨L, es, ep, t, R, sub, len, mem⟩ := iv
    obtain ⟨o, ho, r⟩ := R.ob
    exact ⟨L, es, ep, t, ⟨⟨o, hS o ho, r⟩, R.rows, R.tab, R.nd, fun p hp => (hk p (sub p hp)).keep kp, R.room, R.few⟩, sub, len, mem⟩
theorem iv_tup0 {h : Heap} {S : Addr} {ks : KL} (ho : h.get? S = some (set0 w)) : IvT w S ks 0 h :=
  ⟨[], #[], 0, _, ⟨⟨_, ho, ⟨rfl, rfl, rfl⟩, rfl⟩, rfl, ⟨List.Pairwise.nil, rfl, rfl, .inl rfl, fun x hx => (by cases hx), fun i h j hi => (by simp at hi)⟩, List.nodup_nil, fun p hp => (by cases hp), (by show 0 * 5 < 7 * 3; decide), (by show 0 < 64; decide)⟩, fun p hp => (by cases hp), Nat.le_refl _, fun q => by simp⟩
/-- of leaves -/
def hasK (l : List Key) (q : Key) : Bool := l.any fun z => decide (z = q)
theorem hasK_iff {l : List Key} {q : Key} : hasK l q = true ↔ q ∈ l := by
  unfold hasK
  rw [List.any_eq_true]
  exact ⟨fun ⟨z, hz, e⟩ => by rw [← of_decide_eq_true e]; exact hz, fun h => ⟨q, h, decide_eq_true rfl⟩⟩
def IvK (P : Program) (w : World) (S : Addr) (ks : List Key) (i : Nat) (h : Heap) : Prop := ∃ l, Once (ks.take i) l ∧ l.length ≤ i ∧ h.SetOf (mixKind P w) S (hasK (ks.take i)) l.length
theorem setOf_same {h : Heap} {a : Addr} {S S' : Key → Bool} {n : Nat} (R : h.SetOf (mixKind P w) a S n) (e : ∀ q, S' q = S q) : h.SetOf (mixKind P w) a S' n := by
  have : S' = S := funext e
  rw [this]; exact R
theorem adds_key {h0 : Heap} {S : Addr} {items : Array Value} {ks : List Key} (hn : items.size = ks.length) (hit : ∀ (i : Nat) (v : Value), items[i]? = some v → ∃ k, ks[i]? = some k ∧ RelV (kV k) v) (few : ks.length < 64) : Adds P w A h0 S items.size (fun i v => items[i]? = some v) (IvK P w S ks) where
  step := fun i v s E Q hi hv kp iv fin => by
    obtain ⟨l, on, len, R⟩ := iv
    obtain ⟨k, hk, rv⟩ := hit i v hv
    have is : (mixKind P w).is k v = true := by
      cases k with
      | inl i => obtain ⟨t, rfl⟩ := rv; exact keyIs_int i t
      | inr x => obtain ⟨t, rfl⟩ := rv; exact keyIs_str x t
    unfold setAdd
    refine wpAny_holding (wpAny_bind ((mixKind P w).pyHash is ?_))
    refine wpAny_setAddHashed_of (knd := mixKind P w) (s := { s with toks := s.toks + 1 }) is (key_scan rv) R (by unfold scanBound; omega) fun h' sb R' => fin _ h' _ (Nat.le_succ _) sb ?_
    have ext : ∀ q, hasK (ks.take (i + 1)) q = (hasK (ks.take i) q || decide (q = k)) := fun q => by
      rw [take_more hk]
      unfold hasK
      rw [List.any_append, List.any_cons, List.any_nil, Bool.or_false]
      congr 1
      exact decide_eq_decide.mpr eq_comm
    by_cases c : k ∈ ks.take i
    · refine ⟨l, ⟨on.1, fun q => ?_⟩, Nat.le_succ_of_le len, ?_⟩
      · rw [on.2 q, take_more hk, List.mem_append]
        exact ⟨.inl, fun z => z.elim id fun z => by rw [List.mem_singleton.mp z]; exact c⟩
      · rw [hasK_iff.mpr c, if_pos rfl] at R'
        exact setOf_same R' ext
    · refine ⟨k :: l, ⟨List.nodup_cons.mpr ⟨fun z => c ((on.2 k).mp z), on.1⟩, fun q => ?_⟩, Nat.succ_le_succ len, ?_⟩
      · rw [List.mem_cons, on.2 q, take_more hk, List.mem_append, List.mem_singleton]
        exact Or.comm
      · rw [show hasK (ks.take i) k = false from by cases z : hasK (ks.take i) k with | false => rfl | true => exact absurd (hasK_iff.mp z) c, if_neg Bool.false_ne_true] at R'
        exact setOf_same R' ext
  frame := fun i h h' iv hS kp => by
    obtain ⟨l, on, len, R⟩ := iv
    exact ⟨l, on, len, setOf_at R hS⟩
theorem iv_key0 {h : Heap} {S : Addr} {ks : List Key} (ho : h.get? S = some (set0 w)) : IvK P w S ks 0 h :=
  ⟨[], ⟨List.nodup_nil, fun q => by simp⟩, Nat.le_refl _, ⟨_, #[], 0, _, ho, ⟨rfl, rfl, rfl⟩, rfl, (fun e he => by simp at he), (fun k => by simp [hasK]), (by decide), (by rfl), rfl⟩⟩
end
/-! keys in the layer's heap -/
mutual
inductive HK (K : PySem.W.Frag) (H : Hp) : NestedKey → V → Prop
  | int (i : Int) : HK K H (.num i) (.int i)
  | str (x : Str) : HK K H (.text x) (.str x)
  | tup {a xs ks} : SqT K H a xs → HKs K H ks xs → HK K H (.tup ks) (.ref a)
inductive HKs (K : PySem.W.Frag) (H : Hp) : List NestedKey → List V → Prop
  | nil : HKs K H [] []
  | cons {k x ks xs} : HK K H k x → HKs K H ks xs → HKs K H (k :: ks) (x :: xs)
end
mutual
theorem HK.is {X : Cx} {pins : List (Addr × Obj)} {σ : L2.St} {H : Hp} {s : Shared} (I : Inv X pins σ H s) : ∀ (k : NestedKey) (v : V) (u : Value), HK X.K H k v → RelV v u → NestedIs s.heap k u
  | .none, v, u, h, r => by cases h
  | .num i, v, u, h, r => by cases h; obtain ⟨t, rfl⟩ := r; exact .int i t
  | .text x, v, u, h, r => by cases h; obtain ⟨t, rfl⟩ := r; exact .text x t
  | .tup ks, v, u, h, r => by
    cases h with
    | tup hq hs =>
      cases r
      obtain ⟨its, rv, ⟨o, ho, hc, n, hd⟩, _⟩ := I.tuple hq
      exact .tup ho hc hd (HKs.is I ks _ its hs rv)
theorem HKs.is {X : Cx} {pins : List (Addr × Obj)} {σ : L2.St} {H : Hp} {s : Shared} (I : Inv X pins σ H s) : ∀ (ks : List NestedKey) (xs : List V) (us : List Value), HKs X.K H ks xs → Vals xs us → NestedAll s.heap ks us
  | [], xs, us, h, r => by cases h; cases r; exact .nil
  | k :: ks, xs, us, h, r => by
    cases h with
    | cons h1 h2 => cases r with | cons r1 r2 => exact .cons (HK.is I k _ _ h1 r1) (HKs.is I ks _ _ h2 r2)
end
def shallow : NestedKey → Prop
  | .tup ks => (NestedKey.tup ks).depth ≤ 8
  | _ => False
/-- len(set(xs)): of leaves, or of tuples -/
def tLenS (K : PySem.W.Frag) (ta : TE) : TE := fun σ H Q => ta σ H fun x H1 => ∃ (l : Addr) (xs : List V), x = .ref l ∧ (SqL K H1 l xs ∨ SqT K H1 l xs) ∧ xs.length < 64 ∧
  ((∃ (ks l' : List Key), xs = ks.map kV ∧ Once ks l' ∧ Q (.int l'.length) H1) ∨ (∃ (ks l' : List NestedKey), HKs K H1 ks xs ∧ (∀ k ∈ ks, shallow k) ∧ Once ks l' ∧ Q (.int l'.length) H1))
theorem tups_of {h : Heap} : ∀ {ks : List NestedKey} {us : List Value}, NestedAll h ks us → (∀ k ∈ ks, shallow k) → ∃ L : KL, us = L.map (fun p => Value.ref p.1) ∧ L.map (·.2) = ks ∧ ∀ p ∈ L, KI h p.2 p.1
  | [], us, a, _ => by cases a; exact ⟨[], rfl, rfl, fun p hp => by cases hp⟩
  | k :: ks, us, a, hs => by
    cases a with
    | cons a1 a2 =>
      obtain ⟨L, e1, e2, e3⟩ := tups_of a2 fun k hk => hs k (List.mem_cons_of_mem _ hk)
      have sh := hs k List.mem_cons_self
      cases a1 with
      | @tup b o vs m ks' ho hc hd al =>
        refine ⟨(b, .tup ks') :: L, by rw [e1]; rfl, by rw [List.map_cons, e2], fun p hp => ?_⟩
        rcases List.mem_cons.mp hp with e | hp
        · rw [e]; exact ⟨.tup ho hc hd al, sh⟩
        · exact e3 p hp
      | _ => exact sh.elim
section
variable {X : Cx}
theorem pe_lenS {a : Expr} {ta : TE} {p p2 q pos : Pos} (hc : X.calm = true) (hu : X.A.units + 64 < cLine) (hg : Gl X "len") (hm : X.mg "len" = none) (hg2 : Gl X "set") (hm2 : X.mg "set" = none) (ha : PE X a ta) (na : starEach [a] X.env = (false, eval a X.env) :: starEach [] X.env) :
    PE X (.Call (.Name "len" p) [.Call (.Name "set" p2) [a] [] q] [] pos) (tLenS X.K ta) := by
  constructor
  intro pins s σ H Q I h
  refine Call_ (ld_blt I hg hm PySem.boot_len (PyProof.Rows.callWith_builtin1 (PyProof.Rows.args_cons (Call_ (ld_blt I hg2 hm2 PyProof.Rows.boot_set ?_)) rfl) rfl rfl))
  refine PyProof.Rows.callWith_type1 (PyProof.Rows.args_cons (thn (ha.run pins s σ H _ I h) ?_) na) na rfl
  rintro v s1 ⟨x, H1, I1, r1, l, xs, rfl, hq, few, hyp⟩
  refine PyProof.Rows.args_nil ?_
  cases r1
  obtain ⟨its, rv, sq⟩ : ∃ its : List Value, Vals xs its ∧ Sq2 s1.heap l its.toArray := by
    rcases hq with hq | hq
    · obtain ⟨its, rv, pl, _⟩ := I1.list hq
      exact ⟨its, rv, .l pl.isList⟩
    · obtain ⟨its, rv, pl, _⟩ := I1.tuple hq
      exact ⟨its, rv, .t pl⟩
  have len := rv.length
  rcases hyp with ⟨ks, l', rfl, on, q1⟩ | ⟨ks, l', hk, sh, on, q1⟩
  · rw [List.length_map] at len few
    refine call_set_by (n := its.toArray.size) (Iv := IvK X.prog X.w s1.heap.objs.size ks) (I1.ok.hd hc) sq rfl (adds_key (by rw [List.size_toArray, ← len]) (fun i v hv => ?_) few) (fun h' ho _ => iv_key0 ho) fun h' tk iv kp => ?_
    · have hv : its[i]? = some v := by simpa using hv
      have il : i < ks.length := by rw [len]; exact (List.getElem?_eq_some_iff.mp hv).1
      obtain ⟨u, hu', ru⟩ := rv.get (i := i) (x := kV ks[i]) (by simp [il])
      obtain rfl : u = v := Option.some.inj (hu'.symm.trans hv)
      exact ⟨ks[i], List.getElem?_eq_getElem il, ru⟩
    · obtain ⟨l2, on2, _, o, es, ep, t, ho, hex, hd, _, _, _, hf, hn⟩ := iv
      rw [List.take_of_length_le (by rw [List.size_toArray, ← len]; exact Nat.le_refl _)] at on2
      have I2 : Inv X pins σ H1 { s1 with heap := h', toks := tk } := I1.kept kp
      refine PyProof.Rows.args_nil (call_len_set ho hex hd hf ?_ ⟨.int l'.length, H1, I2.tok _, ⟨_, by rw [hn, on2.len on]⟩, q1⟩)
      have := nodup_le on.1 fun x hx => (on.2 x).mp hx
      rw [hn, on2.len on]; omega
  · have al := HKs.is I1 ks xs its hk rv
    obtain ⟨L, e1, e2, e3⟩ := tups_of al sh
    have lenL : L.length = its.length := by rw [e1, List.length_map]
    refine call_set_by (n := its.toArray.size) (Iv := IvT X.w s1.heap.objs.size L) (I1.ok.hd hc) sq rfl (adds_tup (by simpa using e1) e3 (by omega) ?_) (fun h' ho _ => iv_tup0 ho) fun h' tk iv kp => ?_
    · show X.A.units + 3 + 8 < cLine
      omega
    · obtain ⟨L2, es, ep, t, R, _, _, mem⟩ := iv
      rw [List.take_of_length_le (by rw [List.size_toArray, lenL]; exact Nat.le_refl _), e2] at mem
      obtain ⟨o, ho, hex, hd⟩ := R.ob
      have on2 : Once ks (L2.map (·.2)) := ⟨R.nd, mem⟩
      have ln := on2.len on
      rw [List.length_map] at ln
      have I2 : Inv X pins σ H1 { s1 with heap := h', toks := tk } := I1.kept kp
      refine PyProof.Rows.args_nil (call_len_set ho hex hd R.fits ?_ ⟨.int l'.length, H1, I2.tok _, ⟨_, by rw [R.size, ln]⟩, q1⟩)
      have := R.few
      rw [R.size]; omega
end
end FM


set_option Elab.async false
set_option linter.all false
set_option maxRecDepth 100000
set_option maxHeartbeats 4000000
/-! len(set(v)) by the evaluator. -/
namespace FM
open PySem L2
def leafK : W → Key
  | .int i => .inl i
  | .str s => .inr (sv s)
  | _ => .inl 0
def leafN : W → NestedKey
  | .int i => .num i
  | .str s => .text (sv s)
  | _ => .none
def tupN : W → NestedKey
  | .tup us => .tup (us.map leafN)
  | _ => .none
def hshT : W → Bool
  | .tup us => us.all hshD
  | _ => false
theorem leafK_inj {x y : W} (hx : hshD x = true) (hy : hshD y = true) (e : leafK x = leafK y) : x = y := by
  cases x <;> first | (exfalso; cases hx; done) | skip
  all_goals cases y <;> first | (exfalso; cases hy; done) | (exfalso; cases e; done) | skip
  · cases e; rfl
  · rename_i a b
    have : sv a = sv b := Sum.inr.inj e
    rw [sv_inj this]
theorem leafN_inj {x y : W} (hx : hshD x = true) (hy : hshD y = true) (e : leafN x = leafN y) : x = y := by
  cases x <;> first | (exfalso; cases hx; done) | skip
  all_goals cases y <;> first | (exfalso; cases hy; done) | (exfalso; cases e; done) | skip
  · cases e; rfl
  · rename_i a b
    have : sv a = sv b := NestedKey.text.inj e
    rw [sv_inj this]
theorem leafN_injs : ∀ {xs ys : List W}, xs.all hshD = true → ys.all hshD = true → xs.map leafN = ys.map leafN → xs = ys
  | [], [], _, _, _ => rfl
  | [], _ :: _, _, _, e => by cases e
  | _ :: _, [], _, _, e => by cases e
  | x :: xs, y :: ys, hx, hy, e => by
    rw [List.all_cons, Bool.and_eq_true] at hx hy
    rw [List.map_cons, List.map_cons, List.cons.injEq] at e
    rw [leafN_inj hx.1 hy.1 e.1, leafN_injs hx.2 hy.2 e.2]
theorem tupN_inj {x y : W} (hx : hshT x = true) (hy : hshT y = true) (e : tupN x = tupN y) : x = y := by
  cases x <;> first | (exfalso; cases hx; done) | skip
  cases y <;> first | (exfalso; cases hy; done) | skip
  rw [leafN_injs hx hy (NestedKey.tup.inj e)]
theorem distN_once {α : Type} (f : W → α) {ok : W → Bool} (inj : ∀ x y, ok x = true → ok y = true → f x = f y → x = y) : ∀ (ws seen : List W), ws.all ok = true → seen.all ok = true → ∃ l : List α, l.Nodup ∧ l.length = distN ws seen ∧ ∀ q, q ∈ l ↔ (q ∈ ws.map f ∧ q ∉ seen.map f)
  | [], seen, _, _ => ⟨[], List.nodup_nil, rfl, fun q => by simp⟩
  | w :: ws, seen, hw, hs => by
    rw [List.all_cons, Bool.and_eq_true] at hw
    have iff : (seen.any fun x => beqW x w) = true ↔ f w ∈ seen.map f := by
      rw [List.any_eq_true, List.mem_map]
      constructor
      · rintro ⟨x, hx, e⟩; exact ⟨x, hx, by rw [beqW_iff e]⟩
      · rintro ⟨x, hx, e⟩
        refine ⟨x, hx, ?_⟩
        rw [inj x w (List.all_eq_true.mp hs x hx) hw.1 e]; exact beqW_self w
    unfold distN
    by_cases c : (seen.any fun x => beqW x w) = true
    · rw [if_pos c]
      obtain ⟨l, n, e, m⟩ := distN_once f inj ws seen hw.2 hs
      refine ⟨l, n, e, fun q => ?_⟩
      rw [m q, List.map_cons, List.mem_cons]
      refine ⟨fun h => ⟨.inr h.1, h.2⟩, fun h => ⟨h.1.elim (fun z => absurd (iff.mp c) (by rw [← z]; exact h.2)) id, h.2⟩⟩
    · rw [if_neg c]
      obtain ⟨l, n, e, m⟩ := distN_once f inj ws (w :: seen) hw.2 (by rw [List.all_cons, hw.1, hs]; rfl)
      have nw : f w ∉ seen.map f := fun z => c (iff.mpr z)
      refine ⟨f w :: l, List.nodup_cons.mpr ⟨fun z => ?_, n⟩, by rw [List.length_cons, e], fun q => ?_⟩
      · have := ((m _).mp z).2
        exact this (by rw [List.map_cons]; exact List.mem_cons_self)
      · rw [List.mem_cons, m q, List.map_cons, List.map_cons, List.mem_cons, List.mem_cons]
        constructor
        · rintro (rfl | ⟨h1, h2⟩)
          · exact ⟨.inl rfl, nw⟩
          · exact ⟨.inr h1, fun z => h2 (.inr z)⟩
        · rintro ⟨h1 | h1, h2⟩
          · exact .inl h1
          · by_cases e : q = f w
            · exact .inl e
            · exact .inr ⟨h1, fun z => z.elim e h2⟩
section
variable {Z : Kx} {g : Sg}
theorem leaf_V : ∀ {ws : List W} {xs : List V}, ws.all hshD = true → RWs Z g ws xs → xs = (ws.map leafK).map kV
  | [], _, _, h => by cases h; rfl
  | w :: ws, _, o, h => by
    obtain ⟨x, r, rfl, h1, h2⟩ := h
    rw [List.all_cons, Bool.and_eq_true] at o
    rw [leaf_V o.2 h2]
    cases w <;> first | (exfalso; cases o.1; done) | (cases h1; rfl)
theorem leaf_HK : ∀ {ws : List W} {xs : List V}, ws.all hshD = true → RWs Z g ws xs → HKs Z.K g.H (ws.map leafN) xs
  | [], _, _, h => by cases h; exact .nil
  | w :: ws, _, o, h => by
    obtain ⟨x, r, rfl, h1, h2⟩ := h
    rw [List.all_cons, Bool.and_eq_true] at o
    refine .cons ?_ (leaf_HK o.2 h2)
    cases w <;> first | (exfalso; cases o.1; done) | skip
    · cases h1; exact .int _
    · cases h1; exact .str _
theorem tup_HK : ∀ {ws : List W} {xs : List V}, ws.all hshT = true → RWs Z g ws xs → HKs Z.K g.H (ws.map tupN) xs
  | [], _, _, h => by cases h; exact .nil
  | w :: ws, _, o, h => by
    obtain ⟨x, r, rfl, h1, h2⟩ := h
    rw [List.all_cons, Bool.and_eq_true] at o
    refine .cons ?_ (tup_HK o.2 h2)
    cases w <;> first | (exfalso; cases o.1; done) | skip
    obtain ⟨a, ys, rfl, hq, rw⟩ := h1
    exact .tup hq.1 (leaf_HK o.1 rw)
end
theorem leaf_depth : ∀ us : List W, NestedKey.depthAll (us.map leafN) = 0
  | [] => rfl
  | u :: us => by
    rw [List.map_cons, NestedKey.depthAll, leaf_depth us]
    cases u <;> rfl
section
variable {C : Cz} {a : Expr} {pos : Pos} {va : Env → Res Arg}
def lsetM (va : Env → Res Arg) : Env → Res W := fun r => (va r).bind fun x r1 => Res.of ((vw r1 x).bind fun w => (extW w).bind setN) r1
theorem se_lset {p p2 q : Pos} (hc : C.X.calm = true) (hu : C.X.A.units + 64 < cLine) (hg : Gl C.X "len") (hm : C.X.mg "len" = none) (hg2 : Gl C.X "set") (hm2 : C.X.mg "set" = none) (hn : notStar a = true) (ha : SV C a va) :
    SE C (.Call (.Name "len" p) [.Call (.Name "set" p2) [a] [] q] [] pos) (lsetM va) := by
  obtain ⟨ta, pa, ia⟩ := ha
  refine ⟨_, pe_lenS hc hu hg hm hg2 hm2 pa (star_ hn), fun g ρ σ F Q re k => ?_⟩
  refine ia g ρ σ F _ re (POk.seq (show POk C g F σ _ ((va ρ).bind _) from k) fun x r1 g1 F1 t1 re1 k1 v1 rv1 => ?_)
  obtain ⟨w, hw, fin⟩ := k1.of re1
  obtain ⟨u, hu', hw⟩ := Option.bind_eq_some_iff.mp hw
  obtain ⟨ws, he, hw⟩ := Option.bind_eq_some_iff.mp hw
  obtain ⟨l, xs, rfl, hq, rws⟩ := (rv1.vw re1 hu').ext he
  have hw : (if (ws.all hshD || ws.all hshT) && Nat.blt ws.length 50 then some (W.int (distN ws [])) else none) = some w := by
    have e : (fun w : W => match w with | .tup us => us.all hshD | _ => false) = hshT := by funext w; cases w <;> rfl
    rw [← e]; exact hw
  split at hw
  · rename_i hz
    cases hw
    rw [Bool.and_eq_true, Bool.or_eq_true, Nat.blt_eq] at hz
    refine ⟨l, xs, rfl, hq.imp sqL_of id, by rw [← rws.length]; omega, ?_⟩
    rcases hz.1 with o | o
    · obtain ⟨l', n, e, m⟩ := distN_once leafK (ok := hshD) (fun x y => leafK_inj) ws [] o rfl
      refine .inl ⟨ws.map leafK, l', leaf_V o rws, ⟨n, fun q => by rw [m q]; simp⟩, ?_⟩
      rw [e]; exact fin _ rfl
    · obtain ⟨l', n, e, m⟩ := distN_once tupN (ok := hshT) (fun x y => tupN_inj) ws [] o rfl
      refine .inr ⟨ws.map tupN, l', tup_HK o rws, fun k hk => ?_, ⟨n, fun q => by rw [m q]; simp⟩, ?_⟩
      · obtain ⟨u, hu, rfl⟩ := List.mem_map.mp hk
        have := List.all_eq_true.mp o u hu
        cases u <;> first | (exfalso; cases this; done) | skip
        show NestedKey.depthAll _ + 1 ≤ 8
        rw [leaf_depth]; omega
      · rw [e]; exact fin _ rfl
  · cases hw
end
end FM


set_option Elab.async false
set_option linter.all false
set_option maxRecDepth 100000
set_option maxHeartbeats 2000000
/-! The checker: is this IR the reading of that text. Its soundness: what it accepts, the evaluator tells. -/
namespace FM
open PySem L2

structure Sc where
  N : List Str
  sc : Scope
  top : Bool
  calm : Bool
/-- a program's names: its defs (number, parameters), its constants, the built-ins that no global hides, defs that are called by keywords,
    its raisable exceptions (name, number, field), its exception classes by name, what except clauses and isinstance tell of them -/
structure Pg where
  fns : List (Str × Nat × List Str)
  cs : List (Str × W)
  fr : List Str
  kw : List Str
  xc : List (Str × Nat × Nat)
  oc : List (Str × Nat)
  sub : List (Nat × Nat × Bool)
  isb : List (Nat × Str × Bool)
  fl : List Nat
  /-- defs with defaults: name, number, how many are given, the rest -/
  dfl : List (Str × Nat × Nat × List W)
  /-- classes that are made: name, class, __init__, how many are given, the rest -/
  mks : List (Str × Nat × Nat × Nat × List W)
  /-- fields: class, name -/
  fds : List (Nat × Nat)
  /-- methods: class, name, number, how many are given, the rest -/
  mts : List (Nat × Nat × Nat × Nat × List W)
  /-- properties: class, name, number -/
  prs : List (Nat × Str × Nat)
  /-- __len__: class, number -/
  lns : List (Nat × Nat)
structure FnAt (P : Pg) (C : Cz) (c : CF) (x : Str) (f : Nat) (ps : List Str) : Prop where
  ex : ∃ (k : Nat) (fa : Addr) (fd : FuncData), FnOk C.X.prog C.X.w C.X.K C.X.mg C.X.base (L2.CX C.X.prog C.X.w) k fa fd ps (spOf C.Z c f ps.length) ∧ Room k C.X.A ∧ C.X.mg x = some (.ref fa) ∧ PySem.W.keepIn C.X.K (.ref fa) = true ∧ Binds C.X.K fd ps []
/-- what the written part says of a raisable class -/
structure XcAt (Pr : Program) (K : PySem.W.Frag) (mg : Str → Option Value) (ca : Nat → Addr) (n : Str) (c k : Nat) : Prop where
  tx : ∃ fI sc ar bd Bn newId initId bmB, OwnX.XTxt Pr K mg n (nmS k) (ca c) fI sc ar bd Bn newId initId bmB
  ec : ExcC K (ca c)
structure FdAt (K : PySem.W.Frag) (ca : Nat → Addr) (cl k : Nat) : Prop where
  cls : Cls K (ca cl)
  no : NoAttr K (ca cl) (nmS k)
  lt : k < 2 ^ 512
/-- what the written part says -/
structure Wr (P : Pg) (Pr : Program) (K : PySem.W.Frag) (mg : Str → Option Value) (ca : Nat → Addr) : Prop where
  cs : ∀ x w, P.cs.lookup x = some w → ∃ u v, mg x = some u ∧ RelV v u ∧ ∀ g, RW ⟨K, ca⟩ g w v
  fr : ∀ x ∈ P.fr, mg x = none
  xc : ∀ n c k, (n, c, k) ∈ P.xc → XcAt Pr K mg ca n c k
  oc : ∀ n c, P.oc.lookup n = some c → mg n = some (.ref (ca c))
  nof : ∀ n c k, (n, c, k) ∈ P.xc → ∀ f ∈ P.fl, PySem.W.findIn K (.ref (ca c)) (nmS f) = some none
  sub : ∀ a b v, (a, b, v) ∈ P.sub → PySem.W.exmOne K (.ref (ca a)) (.ref (ca b)) = some v
  fds : ∀ cl k, (cl, k) ∈ P.fds → FdAt K ca cl k
  isb : ∀ a n v, (a, n, v) ∈ P.isb → ∀ cv, (mg n = some cv ∨ (mg n = none ∧ bootBuiltins n = some cv)) → PySem.W.kitOne K (.ref (ca a)) cv = some v
structure Obs (P : Pg) (c : CF) (C : Cz) : Prop where
  dfl : ∀ n f k ds, (n, f, k, ds) ∈ P.dfl → FnD C c n f k ds
  mks : ∀ n cl f k ds, (n, cl, f, k, ds) ∈ P.mks → MkAt C c n cl f k ds
  mts : ∀ cl m f k ds, (cl, m, f, k, ds) ∈ P.mts → MthAt C c cl m f k ds
  prs : ∀ cl n f, (cl, n, f) ∈ P.prs → PrpAt C c cl n f
  lns : ∀ cl f, (cl, f) ∈ P.lns → LenAt C c cl f
/-- the same words elsewhere -/
theorem Obs.to {P : Pg} {c : CF} {C C' : Cz} (o : Obs P c C) (h1 : C'.X.prog = C.X.prog) (h2 : C'.X.w = C.X.w) (h3 : C'.X.K = C.X.K) (h4 : C'.X.mg = C.X.mg) (h5 : C'.X.base = C.X.base) (h6 : C'.X.A = C.X.A) (h7 : C'.ca = C.ca) : Obs P c C' := by
  obtain ⟨X, ca, W, B, T⟩ := C
  obtain ⟨X', ca', W', B', T'⟩ := C'
  dsimp only at h1 h2 h3 h4 h5 h6 h7
  subst h7
  have z : (⟨X', ca', W', B', T'⟩ : Cz).Z = (⟨X, ca', W, B, T⟩ : Cz).Z := by show (⟨X'.K, ca'⟩ : Kx) = ⟨X.K, ca'⟩; rw [h3]
  refine ⟨fun n f k ds h => ⟨?_⟩, fun n cl f k ds h => ⟨?_, ?_⟩, fun cl m f k ds h => ⟨?_, (o.mts _ _ _ _ _ h).ml, ?_⟩, fun cl n f h => ⟨?_, ?_⟩, fun cl f h => ⟨?_⟩⟩
  · dsimp only; rw [z, h1, h2, h3, h4, h5, h6]; exact (o.dfl _ _ _ _ h).ex
  · dsimp only; rw [h4]; exact (o.mks _ _ _ _ _ h).mg
  · dsimp only; rw [z, h1, h2, h3, h4, h5, h6]; exact (o.mks _ _ _ _ _ h).ex
  · dsimp only; rw [h3]; exact (o.mts _ _ _ _ _ h).cls
  · dsimp only; rw [z, h1, h2, h3, h4, h5, h6]; exact (o.mts _ _ _ _ _ h).ex
  · dsimp only; rw [h3]; exact (o.prs _ _ _ h).cls
  · dsimp only; rw [z, h1, h2, h3, h4, h5, h6]; exact (o.prs _ _ _ h).ex
  · dsimp only; rw [z, h1, h2, h3, h4, h5, h6]; exact (o.lns _ _ h).ex
structure Good (P : Pg) (c : CF) (S : Sc) (C : Cz) : Prop where
  n : C.X.N = S.N
  sc : C.X.env.scope = S.sc
  kd : S.sc.kind = .function
  nd : C.X.N.Nodup
  un : C.X.A.units + 64 < cLine
  rm : S.calm = true → Room 0 C.X.A
  fn : S.top = true → ∀ x, C.X.fn x = true
  fns : S.calm = true → ∀ x f ps, P.fns.lookup x = some (f, ps) → FnAt P C c x f ps
  obs : S.calm = true → Obs P c C
  wr : Wr P C.X.prog C.X.K C.X.mg C.ca
  calm : S.calm = true → C.X.calm = true ∧ PassesOwn (model C.X.prog C.X.w) C.X.A C.X.env C.X.xe
  tk : Takes C.X C.W
  topC : S.top = true → S.calm = true → C.T = none ∧ C.X.stack = C.X.env :: C.X.outer ∧ C.X.env.frame = some C.X.env.locals
  su : S.calm = false → ∃ (C0 : Cz) (a : Addr) (oe : Obj) (pn : List (Addr × Obj)) (i k : Nat) (d : Addr), C = C0.suite a oe pn i k d ∧ (∃ n f, (n, k, f) ∈ P.xc) ∧ Zc (.ref (C0.ca k)) (some d) oe ∧ ∃ vs, oe.data = .fields vs
def Sc.blk (S : Sc) (scope : Scope) : Sc := ⟨S.N, relS scope S.sc, false, S.calm⟩
theorem Good.blk {P : Pg} {c : CF} {S : Sc} {C : Cz} (G : Good P c S C) (hc : S.calm = true) {scope : Scope} (hk : scope.kind = .function) (s : Shared) (H : Hp) (a : Addr) (cl : List (Str × Addr)) (fp : List Addr) : Good P c (S.blk scope) (C.blk scope s H a cl fp) where
  n := G.n
  sc := by
    show relabel scope C.X.env = relS scope S.sc
    rw [← G.sc]
    rfl
  kd := hk
  nd := G.nd
  un := G.un
  rm := G.rm
  fn := fun z => by cases z
  fns := fun hc x f ps h => ⟨(G.fns hc x f ps h).ex⟩
  obs := fun hc => (G.obs hc).to rfl rfl rfl rfl rfl rfl rfl
  wr := G.wr
  calm := fun h => ⟨(G.calm h).1, PassesOwn.never⟩
  tk := takes0
  topC := fun z => by cases z
  su := fun z => by rw [show (S.blk scope).calm = S.calm from rfl, hc] at z; cases z
theorem Good.tr {P : Pg} {c : CF} {S : Sc} {C : Cz} (G : Good P c S C) (hc : S.calm = true) {W : WX} {pn : List (Addr × Obj)} {xe : Value → Shared → Prop} (t : Takes (C.X.tr pn xe) W) (p : PassesOwn (model C.X.prog C.X.w) C.X.A C.X.env xe) : Good P c S ⟨C.X.tr pn xe, C.ca, W, C.B, C.T⟩ where
  n := G.n
  sc := G.sc
  kd := G.kd
  nd := G.nd
  un := G.un
  rm := G.rm
  fn := G.fn
  fns := fun hc x f ps h => ⟨(G.fns hc x f ps h).ex⟩
  obs := fun hc => (G.obs hc).to rfl rfl rfl rfl rfl rfl rfl
  wr := G.wr
  calm := fun h => ⟨(G.calm h).1, p⟩
  tk := t
  topC := G.topC
  su := fun z => by rw [hc] at z; cases z
def Sc.sui (S : Sc) : Sc := ⟨S.N, S.sc, S.top, false⟩
theorem Good.sui {P : Pg} {c : CF} {S : Sc} {C : Cz} (G : Good P c S C) {a : Addr} {oe : Obj} {pn : List (Addr × Obj)} {i k : Nat} {d : Addr} (hk : ∃ n f, (n, k, f) ∈ P.xc) (hz : Zc (.ref (C.ca k)) (some d) oe) (hv : ∃ vs, oe.data = .fields vs) : Good P c S.sui (C.suite a oe pn i k d) where
  n := G.n
  sc := G.sc
  kd := G.kd
  nd := G.nd
  un := G.un
  rm := fun h => by cases h
  fn := G.fn
  fns := fun h => by cases h
  obs := fun h => by cases h
  wr := G.wr
  calm := fun h => by cases h
  tk := takes0
  topC := fun _ h => by cases h
  su := fun _ => ⟨C, a, oe, pn, i, k, d, rfl, hk, hz, hv⟩

/-! ### names -/
def pl (x : Str) : Bool := !(x == ("__debug__" : Str)) && !(x == ("__classdict__" : Str))
def visB (S : Sc) (x : Str) : Bool := match S.sc.names.lookup x with
  | some .local => true
  | some .cell => true
  | some .free => true
  | _ => false
def locB (S : Sc) (x : Str) : Bool := match S.sc.names.lookup x with
  | some .local => true
  | some .cell => S.top
  | _ => false
def loc1 (S : Sc) (x : Str) : Bool := match S.sc.names.lookup x with
  | some .local => true
  | _ => false
def glB (S : Sc) (x : Str) : Bool := match S.sc.names.lookup x with
  | some .globalImplicit => true
  | _ => false
def atB (S : Sc) (i : Nat) (x : Str) : Bool := decide (S.N[i]? = some x)
def frB (P : Pg) (x : Str) : Bool := P.fr.any fun y => decide (y = x)
def all2 {α β : Type} (f : α → β → Bool) : List α → List β → Bool
  | [], [] => true
  | a :: as, b :: bs => f a b && all2 f as bs
  | _, _ => false
section
variable {P : Pg} {c : CF} {S : Sc} {C : Cz} {x : Str} {i : Nat}
theorem pl_ok (h : pl x = true) : (x == ("__debug__" : Str)) = false ∧ (x == ("__classdict__" : Str)) = false := by
  unfold pl at h
  rw [Bool.and_eq_true, Bool.not_eq_true', Bool.not_eq_true'] at h
  exact h
theorem vis_ok (G : Good P c S C) (h : visB S x = true) : Vis C.X.env.scope x := by
  rw [G.sc]
  unfold visB at h
  split at h
  · exact .inl ‹_›
  · exact .inr (.inl ‹_›)
  · exact .inr (.inr ‹_›)
  · cases h
theorem loc_ok (G : Good P c S C) (h : locB S x = true) : Loc C.X.env.scope x ∧ (C.X.fn x = true ∨ C.X.env.scope.names.lookup x = some .local) := by
  rw [G.sc]
  unfold locB at h
  split at h
  · exact ⟨.inl ‹_›, .inr ‹_›⟩
  · exact ⟨.inr ‹_›, .inl (G.fn h x)⟩
  · cases h
theorem loc1_ok (G : Good P c S C) (h : loc1 S x = true) : C.X.env.scope.names.lookup x = some .local := by
  rw [G.sc]
  unfold loc1 at h
  split at h
  · assumption
  · cases h
theorem gl_ok (G : Good P c S C) (h : glB S x = true) : Gl C.X x := by
  show C.X.env.scope.names.lookup x = _
  rw [G.sc]
  unfold glB at h
  split at h
  · assumption
  · cases h
theorem at_ok (G : Good P c S C) (h : atB S i x = true) : C.X.N[i]? = some x := by
  rw [G.n]
  exact of_decide_eq_true h
theorem fr_ok (G : Good P c S C) (h : frB P x = true) : C.X.mg x = none := by
  obtain ⟨y, hy, e⟩ := List.any_eq_true.mp h
  have e := of_decide_eq_true e
  subst e
  exact G.wr.fr _ hy
end

/-! ### targets -/
mutual
def ckG (S : Sc) : IG → Expr → Bool
  | .nm i, .Name x _ => atB S i x && locB S x
  | .tp gs, .Tuple es _ _ => S.calm && ckGs S gs es
  | _, _ => false
def ckGs (S : Sc) : List IG → List Expr → Bool
  | [], [] => true
  | g :: gs, e :: es => ckG S g e && ckGs S gs es
  | _, _ => false
end
section
variable {P : Pg} {c : CF} {S : Sc} {C : Cz}
theorem ckGs_len : ∀ {gs : List IG} {es : List Expr}, ckGs S gs es = true → es.length = gs.length ∧ es.all notStar = true
  | [], [], _ => ⟨rfl, rfl⟩
  | [], _ :: _, h => by simp [ckGs] at h
  | _ :: _, [], h => by simp [ckGs] at h
  | g :: gs, e :: es, h => by
    simp only [ckGs, Bool.and_eq_true] at h
    obtain ⟨h1, h2⟩ := ckGs_len h.2
    refine ⟨congrArg Nat.succ h1, ?_⟩
    rw [List.all_cons, h2, Bool.and_true]
    cases g <;> cases e <;> first | rfl | (simp [ckG] at h)
mutual
theorem ckG_ok (G : Good P c S C) : ∀ {g : IG} {e : Expr}, ckG S g e = true → SG C e g
  | .nm i, e, h => by
    cases e with
    | Name x pos =>
      simp only [ckG, Bool.and_eq_true] at h
      obtain ⟨l1, l2⟩ := loc_ok G h.2
      exact sg_nm G.nd (at_ok G h.1) l1 l2
    | _ => simp [ckG] at h
  | .tp gs, e, h => by
    cases e with
    | Tuple es k pos =>
      simp only [ckG, Bool.and_eq_true] at h
      obtain ⟨l1, l2⟩ := ckGs_len h.2
      exact sg_tp (G.calm h.1).1 l2 l1 (ckGs_ok G h.2)
    | _ => simp [ckG] at h
theorem ckGs_ok (G : Good P c S C) : ∀ {gs : List IG} {es : List Expr}, ckGs S gs es = true → SGs C es gs
  | [], [], _ => sgs_nil
  | [], _ :: _, h => by simp [ckGs] at h
  | _ :: _, [], h => by simp [ckGs] at h
  | g :: gs, e :: es, h => by
    have hl := (ckGs_len h).2
    rw [List.all_cons, Bool.and_eq_true] at hl
    simp only [ckGs, Bool.and_eq_true] at h
    exact sgs_cons hl.1 (ckG_ok G h.1) (ckGs_ok G h.2)
end
end

/-! ### one level over another -/
structure CK where
  E : Sc → IE → Expr → Bool
  V : Sc → IV → Expr → Bool
  T : Sc → IT → Expr → Bool
  U : Sc → IU → Expr → Bool
  S : Sc → List IS → List Stmt → Bool
structure Snd (P : Pg) (c : CF) (k : CK) (s : SF) : Prop where
  E : ∀ {S : Sc} {C : Cz} {i : IE} {e : Expr}, Good P c S C → k.E S i e = true → SE C e (s.E i)
  V : ∀ {S : Sc} {C : Cz} {i : IV} {e : Expr}, Good P c S C → k.V S i e = true → SV C e (s.V i)
  T : ∀ {S : Sc} {C : Cz} {i : IT} {e : Expr}, Good P c S C → k.T S i e = true → STt C e (s.T i)
  U : ∀ {S : Sc} {C : Cz} {i : IU} {e : Expr}, Good P c S C → k.U S i e = true → SU C e (s.U i)
  S : ∀ {S : Sc} {C : Cz} {i : List IS} {e : List Stmt}, Good P c S C → k.S S i e = true → SSs C e (s.S i)

section
variable (P : Pg) (k : CK) (S : Sc)
def ckVar (i : Nat) : Expr → Bool
  | .Name x _ => atB S i x && visB S x && pl x
  | _ => false
def ckCst (w : W) : Expr → Bool
  | .Constant (.int i) _ _ => (match w with | .int j => decide (i = j) | _ => false)
  | .Constant (.bool i) _ _ => (match w with | .bl j => i == j | _ => false)
  | .Constant .none _ _ => (match w with | .non => true | _ => false)
  | .Constant (.str x) _ _ => (match w with | .str s => decide (x = sv s) | _ => false)
  | .Name x _ => glB S x && pl x && (match P.cs.lookup x with | some u => beqW u w | none => false)
  | _ => false
def ckA (es : List IE) (xs : List Expr) : Bool := all2 (fun e x => notStar x && k.E S e x) es xs
def ckAV (es : List IV) (xs : List Expr) : Bool := all2 (fun e x => notStar x && k.V S e x) es xs
def ckA1 : IA → Expr → Bool
  | .d e, x => k.E S e x
  | .r i, x => ckVar S i x
  | .u u, x => k.U S u x
def ckAA (es : List IA) (xs : List Expr) : Bool := all2 (fun e x => notStar x && ckA1 k S e x) es xs
def ckTup (es : List IE) : Expr → Bool
  | .Tuple xs _ _ => ckA k S es xs && Nat.ble es.length size
  | _ => false
def ckBin (op : B2) (a b : IV) : Expr → Bool
  | .BinOp x o y _ => decide (o = op.op) && k.V S a x && k.V S b y
  | _ => false
def ckNeg (a : IE) : Expr → Bool
  | .UnaryOp .USub x _ => k.E S a x
  | _ => false
def ckNot (a : IE) : Expr → Bool
  | .UnaryOp .Not x _ => k.E S a x
  | _ => false
def ckCmp (op : C2) (a b : IV) : Expr → Bool
  | .Compare x [o] [y] _ => decide (o = op.op) && !behindInMarks op.op y && k.V S a x && k.V S b y
  | _ => false
def ckChn (op op' : C2) (a b d : IV) : Expr → Bool
  | .Compare x [o, o'] [y, z] _ => decide (o = op.op) && decide (o' = op'.op) && !lastMarks [op.op, op'.op] [y, z] && k.V S a x && k.V S b y && k.V S d z
  | _ => false
def ckAnd (es : List IE) : Expr → Bool
  | .BoolOp .And xs _ => all2 (k.E S) es xs && !xs.isEmpty
  | _ => false
def ckOr (es : List IE) : Expr → Bool
  | .BoolOp .Or xs _ => all2 (k.E S) es xs && !xs.isEmpty
  | _ => false
def ckIte (t : IT) (a b : IE) : Expr → Bool
  | .IfExp z x y _ => k.T S t z && k.E S a x && k.E S b y
  | _ => false
def ckIdx (a : IV) (i : IE) : Expr → Bool
  | .Subscript x y _ => plainIx y && k.V S a x && k.E S i y
  | _ => false
def ckDget (i : Nat) (e d : IE) : Expr → Bool
  | .Call (.Attribute (.Name x npos) m apos) [y, z] [] pos => decide (m = "get") && ckVar S i (.Name x npos) && notStar y && notStar z && (apos.endLine == pos.line) && k.E S e y && k.E S d z
  | _ => false
def ckApp (i : Nat) (e : IE) : Expr → Bool
  | .Call (.Attribute (.Name x npos) m apos) [y] [] pos => decide (m = "append") && ckVar S i (.Name x npos) && notStar y && (apos.endLine == pos.line) && k.E S e y
  | _ => false
def ckExt (i : Nat) (e : IV) : Expr → Bool
  | .Call (.Attribute (.Name x npos) m apos) [y] [] pos => decide (m = "extend") && ckVar S i (.Name x npos) && notStar y && (apos.endLine == pos.line) && k.V S e y
  | _ => false
def fnB (x : Str) (f n : Nat) : Bool := match P.fns.lookup x with
  | some (g, ps) => Nat.beq g f && Nat.beq ps.length n
  | none => false
def ckCall (f : Nat) (es : List IA) : Expr → Bool
  | .Call (.Name x _) xs [] _ => S.calm && glB S x && pl x && fnB P x f xs.length && ckAA k S es xs
  | _ => false
def ckIsi (a : IV) (t : Ty) : Expr → Bool
  | .Call (.Name x _) [y, .Name z _] [] _ => decide (x = "isinstance") && decide (z = t.name) && glB S x && frB P x && glB S z && frB P z && notStar y && k.V S a y
  | _ => false
def ckBlt (f : Bt) (vs : List IV) : Expr → Bool
  | .Call (.Name x _) (y :: ys) [] _ => S.calm && decide (x = f.name) && glB S x && frB P x && ckAV k S vs (y :: ys)
  | _ => false
def ckXfl (i kf : Nat) : Expr → Bool
  | .Attribute (.Name x npos) f _ => !S.calm && ckVar S i (.Name x npos) && decide (f = nmS kf) && decide (kf ∈ P.fl)
  | _ => false
def xisB (z : Str) (cs no : List Nat) : Bool := (cs.all fun c => decide ((c, z, true) ∈ P.isb)) && no.all fun c => decide ((c, z, false) ∈ P.isb)
def ckXis (i : Nat) (cs no : List Nat) : Expr → Bool
  | .Call (.Name x _) [.Name y npos, .Name z _] [] _ => !S.calm && decide (x = "isinstance") && glB S x && frB P x && ckVar S i (.Name y npos) && glB S z && pl z && xisB P z cs no &&
    (match P.oc.lookup z with
     | some _ => true
     | none => frB P z && decide (z ≠ "__name__") && (match bootBuiltins z with | some (.type _) => true | _ => false))
  | _ => false
def ckO (a : Option IE) (e : Option Expr) : Bool := match a, e with
  | none, none => true
  | some a, some e => k.E S a e
  | _, _ => false
def ckSlc (a : IV) (lo hi : Option IE) : Expr → Bool
  | .Subscript x (.Slice l u none _) _ => k.V S a x && ckO k S lo l && ckO k S hi u
  | _ => false
def ckFld (cl kf : Nat) (a : IV) : Expr → Bool
  | .Attribute x n _ => decide (n = nmS kf) && decide ((cl, kf) ∈ P.fds) && notSuper x && k.V S a x
  | _ => false
def ckLset (a : IV) : Expr → Bool
  | .Call (.Name x _) [.Call (.Name y _) [z] [] _] [] _ => S.calm && decide (x = "len") && decide (y = "set") && glB S x && frB P x && glB S y && frB P y && notStar z && k.V S a z
  | _ => false
def ckTix (a e : IE) : Expr → Bool
  | .Call (.Attribute x m apos) [y] [] pos => decide (m = "index") && notSuper x && notStar y && (apos.endLine == pos.line) && k.E S a x && k.E S e y
  | _ => false
def ckOln (cl f : Nat) (o : IA) : Expr → Bool
  | .Call (.Name x _) [y] [] _ => S.calm && decide (x = "len") && glB S x && frB P x && notStar y && decide ((cl, f) ∈ P.lns) && ckA1 k S o y
  | _ => false
def ckE : IE → Expr → Bool
  | .var i => ckVar S i
  | .cst w => ckCst P S w
  | .tup es => ckTup k S es
  | .frz u => k.U S u
  | .bin op a b => ckBin k S op a b
  | .neg a => ckNeg k S a
  | .cmp op a b => ckCmp k S op a b
  | .chn op op' a b d => ckChn k S op op' a b d
  | .and es => ckAnd k S es
  | .or es => ckOr k S es
  | .not a => ckNot k S a
  | .ite t a b => ckIte k S t a b
  | .idx a i => ckIdx k S a i
  | .slc a lo hi => ckSlc k S a lo hi
  | .didx a i => ckIdx k S a i
  | .dget i e d => ckDget k S i e d
  | .isi e t => ckIsi P k S e t
  | .blt f vs => ckBlt P k S f vs
  | .app i e => ckApp k S i e
  | .ext i e => ckExt k S i e
  | .xfl i kf => ckXfl P S i kf
  | .xis i cs no => ckXis P S i cs no
  | .fld cl a kf => ckFld P k S cl kf a
  | .isc _ _ => fun _ => false
  | .lset a => ckLset P k S a
  | .tix a e => ckTix k S a e
  | .oln cl f o => ckOln P k S cl f o
  | .unk => fun _ => true
def ckV : IV → Expr → Bool
  | .e i => k.E S i
  | .s i => ckVar S i
  | .u u => k.U S u
def plainT : Expr → Bool
  | .Call _ _ _ _ => true
  | .Name _ _ => true
  | .Subscript _ _ _ => true
  | .Constant _ _ _ => true
  | _ => false
def ckVal (i : IE) (e : Expr) : Bool := plainT e && k.E S i e
def ckAndT (es : List IT) : Expr → Bool
  | .BoolOp .And xs _ => all2 (k.T S) es xs && !xs.isEmpty
  | _ => false
def ckOrT (es : List IT) : Expr → Bool
  | .BoolOp .Or xs _ => all2 (k.T S) es xs && !xs.isEmpty
  | _ => false
def ckNotT (a : IT) : Expr → Bool
  | .UnaryOp .Not x _ => k.T S a x
  | _ => false
def ckT : IT → Expr → Bool
  | .val i => ckVal k S i
  | .cmp op a b => ckCmp k S op a b
  | .chn op op' a b d => ckChn k S op op' a b d
  | .and ts => ckAndT k S ts
  | .or ts => ckOrT k S ts
  | .not t => ckNotT k S t
def isTup : Expr → Bool
  | .Tuple _ _ _ => true
  | _ => false
def ckRng (a : IE) : Expr → Bool
  | .Call (.Name x _) [y] [] _ => decide (x = "range") && glB S x && frB P x && notStar y && k.E S a y
  | _ => false
def ckRng2 (a b : IE) : Expr → Bool
  | .Call (.Name x _) [y, z] [] _ => decide (x = "range") && glB S x && frB P x && notStar y && notStar z && k.E S a y && k.E S b z
  | _ => false
def ckZip (a b : IV) : Expr → Bool
  | .Call (.Name x _) [y, z] [] _ => decide (x = "zip") && glB S x && frB P x && notStar y && notStar z && k.V S a y && k.V S b z
  | _ => false
def ckEnm (a : IV) : Expr → Bool
  | .Call (.Name x _) [y] [] _ => decide (x = "enumerate") && glB S x && frB P x && notStar y && k.V S a y
  | _ => false
def ckI (tg : Expr) : II → Expr → Bool
  | .v a, e => k.V S a e
  | .rng a, e => ckRng P k S a e
  | .rng2 a b, e => ckRng2 P k S a b e
  | .zip a b, e => isTup tg && ckZip P k S a b e
  | .enm a, e => isTup tg && ckEnm P k S a e
def ownN (N : List Str) (own : List Nat) : List (Str × Nat) := own.map fun i => ((N[i]?).getD "", i)
def notSet : Expr → Bool
  | .Set _ _ _ => false
  | _ => true
def fnK (scope : Scope) : Bool := match scope.kind with
  | .function => true
  | _ => false
def ckIfs (S : Sc) (t : Option IT) : List Expr → Bool
  | [] => (match t with | none => true | some _ => false)
  | [e] => (match t with | some t => k.T S t e | none => false)
  | _ => false
def ckComp (elt : IE) (g : IG) (own : List Nat) (it : II) (t : Option IT) (elt' tg iter : Expr) (ifs : List Expr) (scope : Scope) : Bool :=
  S.calm && fnK scope && ckI P k S tg it iter && blkC S.N S.sc scope (ownN S.N own) && ckG (S.blk scope) g tg && ckIfs k (S.blk scope) t ifs && k.E (S.blk scope) elt elt' && notSet iter && (slotsG g).all fun i => decide (i ∈ own)
def ckLc (elt : IE) (g : IG) (own : List Nat) (it : II) (t : Option IT) : Expr → Bool
  | .ListComp elt' [⟨tg, iter, ifs, 0⟩] scope _ => ckComp P k S elt g own it t elt' tg iter ifs scope
  | _ => false
def ckLst (es : List IE) : Expr → Bool
  | .List xs _ => ckA k S es xs && Nat.ble es.length size
  | _ => false
def ckCat (a b : IV) : Expr → Bool
  | .BinOp x .Add y _ => k.V S a x && k.V S b y
  | _ => false
def ckRep (a : IV) (n : IE) : Expr → Bool
  | .BinOp x .Mult y _ => k.V S a x && k.E S n y
  | _ => false
def ckOf (f : Str) (a : IV) : Expr → Bool
  | .Call (.Name x _) [y] [] _ => decide (x = f) && glB S x && frB P x && notStar y && k.V S a y
  | _ => false
def ckDic : Expr → Bool
  | .Dict [] [] _ => true
  | _ => false
def ckPrs : List (IE × IE) → List (Option Expr) → List Expr → Bool
  | [], [], [] => true
  | p :: ps, some x :: xs, y :: ys => k.E S p.1 x && k.E S p.2 y && ckPrs ps xs ys
  | _, _, _ => false
def ckDlt (ps : List (IE × IE)) : Expr → Bool
  | .Dict xs ys _ => ckPrs k S ps xs ys && Nat.ble ps.length 15 && Nat.blt 0 ps.length
  | _ => false
def ckComp2 (elt : IE) (g : IG) (it : II) (t : Option IT) (g1 : IG) (e1 : IE) (t1 : Option IT) (own own1 : List Nat) (elt' tg iter tg1 iter1 : Expr) (ifs ifs1 : List Expr) (scope : Scope) : Bool :=
  S.calm && fnK scope && ckI P k S tg it iter && blkC S.N S.sc scope (ownN S.N own) && ckG (S.blk scope) g tg && ckIfs k (S.blk scope) t ifs && k.E (S.blk scope) e1 iter1 && ckG (S.blk scope) g1 tg1 && ckIfs k (S.blk scope) t1 ifs1 && k.E (S.blk scope) elt elt' && notSet iter && notSet iter1 &&
  ((slotsG g).all fun i => decide (i ∈ own)) && ((slotsG g1).all fun i => decide (i ∈ own1)) && own1.all fun i => decide (i ∈ own)
def ckLc2 (elt : IE) (g : IG) (it : II) (t : Option IT) (g1 : IG) (e1 : IE) (t1 : Option IT) (own own1 : List Nat) : Expr → Bool
  | .ListComp elt' [⟨tg, iter, ifs, 0⟩, ⟨tg1, iter1, ifs1, 0⟩] scope _ => ckComp2 P k S elt g it t g1 e1 t1 own own1 elt' tg iter tg1 iter1 ifs ifs1 scope
  | _ => false
def dfB (n : Str) (f i : Nat) (ds : List W) : Bool := P.dfl.any fun q => decide (q.1 = n) && Nat.beq q.2.1 f && Nat.beq q.2.2.1 i && beqWs q.2.2.2 ds
def mkB (n : Str) (cl f i : Nat) (ds : List W) : Bool := P.mks.any fun q => decide (q.1 = n) && Nat.beq q.2.1 cl && Nat.beq q.2.2.1 f && Nat.beq q.2.2.2.1 i && beqWs q.2.2.2.2 ds
def mtB (cl m f i : Nat) (ds : List W) : Bool := P.mts.any fun q => Nat.beq q.1 cl && Nat.beq q.2.1 m && Nat.beq q.2.2.1 f && Nat.beq q.2.2.2.1 i && beqWs q.2.2.2.2 ds
def ckCallD (f : Nat) (es : List IA) (ds : List W) : Expr → Bool
  | .Call (.Name x _) (y :: ys) [] _ => S.calm && glB S x && pl x && dfB P x f es.length ds && ckAA k S es (y :: ys)
  | _ => false
def ckMake (cl f : Nat) (es : List IA) (ds : List W) : Expr → Bool
  | .Call (.Name x _) ys [] _ => S.calm && glB S x && pl x && mkB P x cl f es.length ds && ckAA k S es ys
  | _ => false
def ckMth (cl m f : Nat) (o : IA) (es : List IA) (ds : List W) : Expr → Bool
  | .Call (.Attribute x n apos) ys [] pos => S.calm && decide (n = nmS m) && mtB P cl m f es.length ds && notSuper x && Nat.blt ys.length 29 && (apos.endLine == pos.line) && ckA1 k S o x && ckAA k S es ys
  | _ => false
def ckPrp (cl f : Nat) (o : IA) : Expr → Bool
  | .Attribute x n _ => S.calm && decide ((cl, n, f) ∈ P.prs) && notSuper x && ckA1 k S o x
  | _ => false
def ckU : IU → Expr → Bool
  | .d e => k.E S e
  | .mv i => ckVar S i
  | .lst es => ckLst k S es
  | .comp elt g own it t => ckLc P k S elt g own it t
  | .cat a b => ckCat k S a b
  | .rep a n => ckRep k S a n
  | .slc a lo hi => ckSlc k S a lo hi
  | .lof a => ckOf P k S "list" a
  | .srt a => fun e => S.calm && ckOf P k S "sorted" a e
  | .ndic => ckDic
  | .dlt ps => ckDlt k S ps
  | .call f es => ckCall P k S f es
  | .callK _ _ => fun _ => false
  | .callD f es ds => ckCallD P k S f es ds
  | .make cl f es ds => ckMake P k S cl f es ds
  | .mth cl m f o es ds => ckMth P k S cl m f o es ds
  | .prp cl f o => ckPrp P k S cl f o
  | .comp2 elt g it t g1 e1 t1 own own1 => ckLc2 P k S elt g it t g1 e1 t1 own own1
end
end FM


set_option Elab.async false
set_option linter.all false
set_option maxRecDepth 100000
set_option maxHeartbeats 2000000
namespace FM
open PySem L2
section
variable {P : Pg} {k : CK} {S : Sc} {C : Cz} {c : CF} {s : SF} (Y : Snd P c k s) (G : Good P c S C)
include G
theorem var_is {i : Nat} {e : Expr} (h : ckVar S i e = true) : ∃ x pos, e = .Name x pos ∧ C.X.N[i]? = some x ∧ Vis C.X.env.scope x ∧ (x == ("__debug__" : Str)) = false ∧ (x == ("__classdict__" : Str)) = false := by
  unfold ckVar at h
  split at h
  · simp only [Bool.and_eq_true] at h
    obtain ⟨p1, p2⟩ := pl_ok h.2
    exact ⟨_, _, rfl, at_ok G h.1.1, vis_ok G h.1.2, p1, p2⟩
  · cases h
theorem var_ok {i : Nat} {e : Expr} (h : ckVar S i e = true) : SE C e (stepE c s (.var i)) := by
  obtain ⟨x, pos, rfl, h1, h2, h3, h4⟩ := var_is G h
  exact se_var h1 h2 h3 h4
theorem cst_ok {w : W} {e : Expr} (h : ckCst P S w e = true) : SE C e (stepE c s (.cst w)) := by
  unfold ckCst at h
  split at h
  · split at h
    · have e := of_decide_eq_true h
      subst e
      exact se_const pe_int fun _ => rfl
    · cases h
  · split at h
    · have e := eq_of_beq h
      subst e
      exact se_const pe_bl fun _ => rfl
    · cases h
  · split at h
    · exact se_const pe_non fun _ => rfl
    · cases h
  · split at h
    · have e := of_decide_eq_true h
      subst e
      exact se_const pe_str fun _ => rfl
    · cases h
  · rename_i x pos
    simp only [Bool.and_eq_true] at h
    obtain ⟨⟨h1, h2⟩, h3⟩ := h
    split at h3
    · rename_i u hu
      have e := beqW_iff h3
      subst e
      obtain ⟨v, z, m, r, q⟩ := G.wr.cs _ _ hu
      exact se_const (pe_glob (gl_ok G h1) m r (pl_ok h2).1) q
    · cases h3
  · cases h
include Y
theorem a_ok : ∀ {es : List IE} {xs : List Expr}, ckA k S es xs = true → SA C xs (evs s.E es) ∧ xs.all notStar = true ∧ xs.length = es.length
  | [], [], _ => ⟨sa_nil, rfl, rfl⟩
  | [], _ :: _, h => by simp [ckA, all2] at h
  | _ :: _, [], h => by simp [ckA, all2] at h
  | e :: es, x :: xs, h => by
    simp only [ckA, all2, Bool.and_eq_true] at h
    obtain ⟨h1, h2, h3⟩ := a_ok (es := es) (xs := xs) h.2
    exact ⟨sa_cons h.1.1 (Y.E G h.1.2) h1, by rw [List.all_cons, h2, h.1.1]; rfl, congrArg Nat.succ h3⟩
theorem av_ok : ∀ {es : List IV} {xs : List Expr}, ckAV k S es xs = true → SAV C xs (evs s.V es) ∧ xs.all notStar = true ∧ xs.length = es.length
  | [], [], _ => ⟨sav_nil, rfl, rfl⟩
  | [], _ :: _, h => by simp [ckAV, all2] at h
  | _ :: _, [], h => by simp [ckAV, all2] at h
  | e :: es, x :: xs, h => by
    simp only [ckAV, all2, Bool.and_eq_true] at h
    obtain ⟨h1, h2, h3⟩ := av_ok (es := es) (xs := xs) h.2
    exact ⟨sav_cons h.1.1 (Y.V G h.1.2) h1, by rw [List.all_cons, h2, h.1.1]; rfl, congrArg Nat.succ h3⟩
theorem a1_ok : ∀ {i : IA} {e : Expr}, ckA1 k S i e = true → SA1 C e (stepA s i)
  | .d i, e, h => sa1_d (Y.E G h)
  | .u i, e, h => sa1_u (Y.U G h)
  | .r i, e, h => by
    obtain ⟨x, pos, rfl, h1, h2, h3, h4⟩ := var_is G (show ckVar S i e = true from h)
    exact sa1_r h1 h2 h3 h4
theorem aa_ok : ∀ {es : List IA} {xs : List Expr}, ckAA k S es xs = true → SAA C xs (evs (stepA s) es) ∧ xs.all notStar = true ∧ xs.length = es.length
  | [], [], _ => ⟨saa_nil, rfl, rfl⟩
  | [], _ :: _, h => by simp [ckAA, all2] at h
  | _ :: _, [], h => by simp [ckAA, all2] at h
  | e :: es, x :: xs, h => by
    simp only [ckAA, all2, Bool.and_eq_true] at h
    obtain ⟨h1, h2, h3⟩ := aa_ok (es := es) (xs := xs) h.2
    exact ⟨saa_cons h.1.1 (a1_ok Y G h.1.2) h1, by rw [List.all_cons, h2, h.1.1]; rfl, congrArg Nat.succ h3⟩
theorem tup_ok {es : List IE} {e : Expr} (h : ckTup k S es e = true) : SE C e (stepE c s (.tup es)) := by
  unfold ckTup at h
  split at h
  · rw [Bool.and_eq_true] at h
    obtain ⟨h1, h2, h3⟩ := a_ok Y G h.1
    exact se_tup h1 (Nat.ble_eq.mp h.2)
  · cases h
theorem bin_ok {op : B2} {a b : IV} {e : Expr} (h : ckBin k S op a b e = true) : SE C e (stepE c s (.bin op a b)) := by
  unfold ckBin at h
  split at h
  · simp only [Bool.and_eq_true, decide_eq_true_eq] at h
    obtain ⟨⟨rfl, h1⟩, h2⟩ := h
    exact se_bin (Y.V G h1) (Y.V G h2)
  · cases h
theorem neg_ok {a : IE} {e : Expr} (h : ckNeg k S a e = true) : SE C e (stepE c s (.neg a)) := by
  unfold ckNeg at h
  split at h
  · exact se_neg (Y.E G h)
  · cases h
theorem not_ok {a : IE} {e : Expr} (h : ckNot k S a e = true) : SE C e (stepE c s (.not a)) := by
  unfold ckNot at h
  split at h
  · exact se_not (Y.E G h)
  · cases h
theorem cmp_ok {op : C2} {a b : IV} {e : Expr} (h : ckCmp k S op a b e = true) : SE C e (stepE c s (.cmp op a b)) := by
  unfold ckCmp at h
  split at h
  · simp only [Bool.and_eq_true, decide_eq_true_eq, Bool.not_eq_true'] at h
    obtain ⟨⟨⟨rfl, h0⟩, h1⟩, h2⟩ := h
    exact se_cmp G.un (Y.V G h1) (Y.V G h2) h0
  · cases h
theorem chn_ok {op op' : C2} {a b d : IV} {e : Expr} (h : ckChn k S op op' a b d e = true) : SE C e (stepE c s (.chn op op' a b d)) := by
  unfold ckChn at h
  split at h
  · simp only [Bool.and_eq_true, decide_eq_true_eq, Bool.not_eq_true'] at h
    obtain ⟨⟨⟨⟨⟨rfl, rfl⟩, h0⟩, h1⟩, h2⟩, h3⟩ := h
    exact se_chn G.un (Y.V G h1) (Y.V G h2) (Y.V G h3) h0
  · cases h
theorem and_oks {pos : Pos} : ∀ {es : List IE} {xs : List Expr}, all2 (k.E S) es xs = true → xs ≠ [] → SE C (.BoolOp .And xs pos) (andE s es)
  | [], [], _, n => absurd rfl n
  | [], _ :: _, h, _ => by simp [all2] at h
  | _ :: _, [], h, _ => by simp [all2] at h
  | [e], [x], h, _ => by
    simp only [all2, Bool.and_eq_true] at h
    exact se_one (Y.E G h.1)
  | [e], x :: y :: xs, h, _ => by simp [all2] at h
  | e :: f :: es, [x], h, _ => by simp [all2] at h
  | e :: f :: es, x :: y :: xs, h, _ => by
    rw [all2, Bool.and_eq_true] at h
    exact se_and (Y.E G h.1) (and_oks (es := f :: es) (xs := y :: xs) h.2 (by simp))
theorem or_oks {pos : Pos} : ∀ {es : List IE} {xs : List Expr}, all2 (k.E S) es xs = true → xs ≠ [] → SE C (.BoolOp .Or xs pos) (orE s es)
  | [], [], _, n => absurd rfl n
  | [], _ :: _, h, _ => by simp [all2] at h
  | _ :: _, [], h, _ => by simp [all2] at h
  | [e], [x], h, _ => by
    simp only [all2, Bool.and_eq_true] at h
    exact se_one (Y.E G h.1)
  | [e], x :: y :: xs, h, _ => by simp [all2] at h
  | e :: f :: es, [x], h, _ => by simp [all2] at h
  | e :: f :: es, x :: y :: xs, h, _ => by
    rw [all2, Bool.and_eq_true] at h
    exact se_or (Y.E G h.1) (or_oks (es := f :: es) (xs := y :: xs) h.2 (by simp))
theorem and_ok {es : List IE} {e : Expr} (h : ckAnd k S es e = true) : SE C e (stepE c s (.and es)) := by
  unfold ckAnd at h
  split at h
  · simp only [Bool.and_eq_true, Bool.not_eq_true', List.isEmpty_eq_false_iff] at h
    exact and_oks Y G h.1 h.2
  · cases h
theorem or_ok {es : List IE} {e : Expr} (h : ckOr k S es e = true) : SE C e (stepE c s (.or es)) := by
  unfold ckOr at h
  split at h
  · simp only [Bool.and_eq_true, Bool.not_eq_true', List.isEmpty_eq_false_iff] at h
    exact or_oks Y G h.1 h.2
  · cases h
theorem ite_ok {t : IT} {a b : IE} {e : Expr} (h : ckIte k S t a b e = true) : SE C e (stepE c s (.ite t a b)) := by
  unfold ckIte at h
  split at h
  · simp only [Bool.and_eq_true] at h
    exact se_ite (Y.T G h.1.1) (Y.E G h.1.2) (Y.E G h.2)
  · cases h
theorem idx_ok {a : IV} {i : IE} {e : Expr} (h : ckIdx k S a i e = true) : SE C e (stepE c s (.idx a i)) := by
  unfold ckIdx at h
  split at h
  · simp only [Bool.and_eq_true] at h
    exact se_idx (Y.V G h.1.2) (Y.E G h.2) h.1.1
  · cases h
omit Y in
theorem un1 : C.X.A.units + 1 < cLine := Nat.lt_of_le_of_lt (Nat.add_le_add_left (by decide : 1 ≤ 64) _) G.un
theorem didx_ok {a : IV} {i : IE} {e : Expr} (h : ckIdx k S a i e = true) : SE C e (stepE c s (.didx a i)) := by
  unfold ckIdx at h
  split at h
  · simp only [Bool.and_eq_true] at h
    exact se_didx (un1 G) (Y.V G h.1.2) (Y.E G h.2) h.1.1
  · cases h
theorem dget_ok {i : Nat} {e d : IE} {x : Expr} (h : ckDget k S i e d x = true) : SE C x (stepE c s (.dget i e d)) := by
  unfold ckDget at h
  split at h
  · simp only [Bool.and_eq_true, decide_eq_true_eq] at h
    obtain ⟨⟨⟨⟨⟨⟨rfl, h1⟩, h2⟩, h3⟩, h4⟩, h5⟩, h6⟩ := h
    obtain ⟨x, pos, ex, v1, v2, v3, v4⟩ := var_is G h1
    cases ex
    exact se_dget v1 v2 v3 v4 (un1 G) (Y.E G h5) (Y.E G h6) h2 h3 h4
  · cases h
theorem app_ok {i : Nat} {e : IE} {x : Expr} (h : ckApp k S i e x = true) : SE C x (stepE c s (.app i e)) := by
  unfold ckApp at h
  split at h
  · simp only [Bool.and_eq_true, decide_eq_true_eq] at h
    obtain ⟨⟨⟨⟨rfl, h1⟩, h2⟩, h4⟩, h5⟩ := h
    obtain ⟨x, pos, ex, v1, v2, v3, v4⟩ := var_is G h1
    cases ex
    exact se_app v1 v2 v3 v4 (Y.E G h5) h2 h4
  · cases h
theorem ext_ok {i : Nat} {e : IV} {x : Expr} (h : ckExt k S i e x = true) : SE C x (stepE c s (.ext i e)) := by
  unfold ckExt at h
  split at h
  · simp only [Bool.and_eq_true, decide_eq_true_eq] at h
    obtain ⟨⟨⟨⟨rfl, h1⟩, h2⟩, h4⟩, h5⟩ := h
    obtain ⟨x, pos, ex, v1, v2, v3, v4⟩ := var_is G h1
    cases ex
    exact se_ext v1 v2 v3 v4 (Y.V G h5) h2 h4
  · cases h
theorem call_ok {f : Nat} {es : List IA} {e : Expr} (h : ckCall P k S f es e = true) : SU C e (stepU c s (.call f es)) := by
  unfold ckCall at h
  split at h
  · rename_i x p xs pos
    simp only [Bool.and_eq_true] at h
    obtain ⟨⟨⟨⟨hc, h1⟩, h2⟩, h3⟩, h4⟩ := h
    obtain ⟨a1, a2, a3⟩ := aa_ok Y G h4
    unfold fnB at h3
    split at h3
    · rename_i g ps hl
      rw [Bool.and_eq_true, Nat.beq_eq, Nat.beq_eq] at h3
      obtain ⟨rfl, h5⟩ := h3
      obtain ⟨n, fa, fd, F, hr, hm, hk, hb⟩ := (G.fns hc _ _ _ hl).ex
      cases xs with
      | nil =>
        cases es with
        | cons _ _ => cases a3
        | nil => exact su_call0 (h := stepA s) F G.tk hr (gl_ok G h1) hm hk hb (pl_ok h2).1 h5.symm
      | cons y ys => exact su_call F G.tk hr (gl_ok G h1) hm hk hb (pl_ok h2).1 a2 (a3.symm.trans h5.symm) a1
    · cases h3
  · cases h
theorem isi_ok {a : IV} {t : Ty} {e : Expr} (h : ckIsi P k S a t e = true) : SE C e (stepE c s (.isi a t)) := by
  unfold ckIsi at h
  split at h
  · simp only [Bool.and_eq_true, decide_eq_true_eq] at h
    obtain ⟨⟨⟨⟨⟨⟨⟨rfl, rfl⟩, h1⟩, h2⟩, h3⟩, h4⟩, h5⟩, h6⟩ := h
    exact se_isi (gl_ok G h1) (fr_ok G h2) (gl_ok G h3) (fr_ok G h4) h5 (Y.V G h6)
  · cases h
theorem blt_ok {f : Bt} {vs : List IV} {e : Expr} (h : ckBlt P k S f vs e = true) : SE C e (stepE c s (.blt f vs)) := by
  unfold ckBlt at h
  split at h
  · simp only [Bool.and_eq_true, decide_eq_true_eq] at h
    obtain ⟨⟨⟨⟨hc, rfl⟩, h1⟩, h2⟩, h3⟩ := h
    obtain ⟨a1, a2, a3⟩ := av_ok Y G h3
    exact se_blt (G.calm hc).1 (gl_ok G h1) (fr_ok G h2) a2 a1
  · cases h
omit Y in
theorem xfl_ok {i kf : Nat} {e : Expr} (h : ckXfl P S i kf e = true) : SE C e (stepE c s (.xfl i kf)) := by
  unfold ckXfl at h
  split at h
  · simp only [Bool.and_eq_true, decide_eq_true_eq, Bool.not_eq_true'] at h
    obtain ⟨⟨⟨hc, h1⟩, h2⟩, h3⟩ := h
    obtain ⟨C0, a, oe, pn, j, k', d, rfl, ⟨n, f, hx⟩, hz, hv⟩ := G.su hc
    obtain ⟨x, pos, ex, v1, v2, v3, v4⟩ := var_is G h1
    cases ex
    have hx1 := G.wr.xc _ _ _ hx
    have hx2 := G.wr.nof _ _ _ hx kf h3
    rw [← h2] at hx2
    exact se_xfl (C := C0) hx1.ec h2 hx2 hz hv v1 v2 v3 v4
  · cases h
omit Y in
theorem xis_ok {i : Nat} {cs no : List Nat} {e : Expr} (h : ckXis P S i cs no e = true) : SE C e (stepE c s (.xis i cs no)) := by
  unfold ckXis at h
  split at h
  · rename_i x p y npos z zp cp
    simp only [Bool.and_eq_true, decide_eq_true_eq, Bool.not_eq_true'] at h
    obtain ⟨⟨⟨⟨⟨⟨⟨⟨hc, rfl⟩, h1⟩, h2⟩, h3⟩, h4⟩, h5⟩, h6⟩, h7⟩ := h
    have mI := fr_ok G h2
    have gI := gl_ok G h1
    have gZ := gl_ok G h4
    have W := G.wr
    obtain ⟨C0, a, oe, pn, j, k', d, rfl, ⟨n, f, hx⟩, hz, hv⟩ := G.su hc
    obtain ⟨x, pos, ex, v1, v2, v3, v4⟩ := var_is G h3
    cases ex
    obtain ⟨b1, b2⟩ : (∀ c ∈ cs, (c, z, true) ∈ P.isb) ∧ ∀ c ∈ no, (c, z, false) ∈ P.isb := by
      unfold xisB at h6
      rw [Bool.and_eq_true] at h6
      exact ⟨fun c hc => of_decide_eq_true (List.all_eq_true.mp h6.1 c hc), fun c hc => of_decide_eq_true (List.all_eq_true.mp h6.2 c hc)⟩
    split at h7
    · rename_i kz hl
      have hm := W.oc _ _ hl
      exact se_xis (C := C0) (cv := .ref (C0.ca kz)) (W.xc _ _ _ hx).ec hz hv v1 v2 v3 v4 gI mI (pe_glob (v := .ref (C0.ca kz)) gZ hm rfl (pl_ok h5).1) (fun u r => r) rfl
        (fun c hc => W.isb _ _ _ (b1 c hc) _ (.inl hm)) (fun c hc => W.isb _ _ _ (b2 c hc) _ (.inl hm))
    · simp only [Bool.and_eq_true, decide_eq_true_eq] at h7
      obtain ⟨⟨h8, h9⟩, h10⟩ := h7
      have hm := fr_ok (C := C0.suite a oe pn j k' d) G h8
      split at h10
      · rename_i T hT
        exact se_xis (C := C0) (cv := .type T) (W.xc _ _ _ hx).ec hz hv v1 v2 v3 v4 gI mI (pe_bltn (v := .ty T) gZ hm hT rfl h9 (pl_ok h5).1) (fun u r => r) rfl
          (fun c hc => W.isb _ _ _ (b1 c hc) _ (.inr ⟨hm, hT⟩)) (fun c hc => W.isb _ _ _ (b2 c hc) _ (.inr ⟨hm, hT⟩))
      · cases h10
  · cases h
theorem o_ok : ∀ {i : Option IE} {e : Option Expr}, ckO k S i e = true → SO C e (optE s i)
  | none, none, _ => so_none
  | some i, some e, h => so_some (Y.E G h)
  | none, some _, h => by cases h
  | some _, none, h => by cases h
theorem slcE_ok {a : IV} {lo hi : Option IE} {e : Expr} (h : ckSlc k S a lo hi e = true) : SE C e (stepE c s (.slc a lo hi)) := by
  unfold ckSlc at h
  split at h
  · simp only [Bool.and_eq_true] at h
    exact se_slc (Y.V G h.1.1) (o_ok Y G h.1.2) (o_ok Y G h.2)
  · cases h
theorem fld_ok {cl kf : Nat} {a : IV} {e : Expr} (h : ckFld P k S cl kf a e = true) : SE C e (stepE c s (.fld cl a kf)) := by
  unfold ckFld at h
  split at h
  · simp only [Bool.and_eq_true, decide_eq_true_eq] at h
    obtain ⟨⟨⟨rfl, h1⟩, h2⟩, h3⟩ := h
    have f := G.wr.fds _ _ h1
    exact se_fld f.cls f.no f.lt h2 (Y.V G h3)
  · cases h
theorem lset_ok {a : IV} {e : Expr} (h : ckLset P k S a e = true) : SE C e (stepE c s (.lset a)) := by
  unfold ckLset at h
  split at h
  · simp only [Bool.and_eq_true, decide_eq_true_eq] at h
    obtain ⟨⟨⟨⟨⟨⟨⟨⟨hc, rfl⟩, rfl⟩, h1⟩, h2⟩, h3⟩, h4⟩, h5⟩, h6⟩ := h
    exact se_lset (G.calm hc).1 G.un (gl_ok G h1) (fr_ok G h2) (gl_ok G h3) (fr_ok G h4) h5 (Y.V G h6)
  · cases h
theorem tix_ok {a x : IE} {e : Expr} (h : ckTix k S a x e = true) : SE C e (stepE c s (.tix a x)) := by
  unfold ckTix at h
  split at h
  · simp only [Bool.and_eq_true, decide_eq_true_eq] at h
    obtain ⟨⟨⟨⟨⟨rfl, h1⟩, h2⟩, h3⟩, h4⟩, h5⟩ := h
    exact se_tix (Y.E G h4) (Y.E G h5) h1 h2 h3
  · cases h
theorem oln_ok {cl f : Nat} {o : IA} {e : Expr} (h : ckOln P k S cl f o e = true) : SE C e (stepE c s (.oln cl f o)) := by
  unfold ckOln at h
  split at h
  · simp only [Bool.and_eq_true, decide_eq_true_eq] at h
    obtain ⟨⟨⟨⟨⟨⟨hc, rfl⟩, h1⟩, h2⟩, h3⟩, h4⟩, h5⟩ := h
    exact se_oln ((G.obs hc).lns _ _ h4) (gl_ok G h1) (fr_ok G h2) h3 (a1_ok Y G h5)
  · cases h
theorem e_ok : ∀ {i : IE} {e : Expr}, ckE P k S i e = true → SE C e (stepE c s i)
  | .var _, _, h => var_ok G h
  | .cst _, _, h => cst_ok G h
  | .tup _, _, h => tup_ok Y G h
  | .frz _, _, h => SE.frz (Y.U G h)
  | .bin _ _ _, _, h => bin_ok Y G h
  | .neg _, _, h => neg_ok Y G h
  | .cmp _ _ _, _, h => cmp_ok Y G h
  | .chn _ _ _ _ _, _, h => chn_ok Y G h
  | .and _, _, h => and_ok Y G h
  | .or _, _, h => or_ok Y G h
  | .not _, _, h => not_ok Y G h
  | .ite _ _ _, _, h => ite_ok Y G h
  | .idx _ _, _, h => idx_ok Y G h
  | .slc _ _ _, _, h => slcE_ok Y G h
  | .didx _ _, _, h => didx_ok Y G h
  | .dget _ _ _, _, h => dget_ok Y G h
  | .isi _ _, _, h => isi_ok Y G h
  | .blt _ _, _, h => blt_ok Y G h
  | .app _ _, _, h => app_ok Y G h
  | .ext _ _, _, h => ext_ok Y G h
  | .xfl _ _, _, h => xfl_ok G h
  | .xis _ _ _, _, h => xis_ok G h
  | .fld _ _ _, _, h => fld_ok Y G h
  | .isc _ _, _, h => by cases h
  | .lset _, _, h => lset_ok Y G h
  | .tix _ _, _, h => tix_ok Y G h
  | .oln _ _ _, _, h => oln_ok Y G h
  | .unk, _, _ => se_unk
theorem v_ok : ∀ {i : IV} {e : Expr}, ckV k S i e = true → SV C e (stepV s i)
  | .e _, _, h => SV.e (Y.E G h)
  | .u _, _, h => SV.u (Y.U G h)
  | .s i, e, h => by
    obtain ⟨x, pos, rfl, h1, h2, h3, h4⟩ := var_is G (show ckVar S i e = true from h)
    exact sv_var h1 h2 h3 h4
/-! ### tests -/
theorem val_ok {i : IE} {e : Expr} (h : ckVal k S i e = true) : STt C e (stepT s (.val i)) := by
  unfold ckVal at h
  rw [Bool.and_eq_true] at h
  refine stt_of (Y.E G h.2) fun t p => pt_val p ?_
  intro whole
  have h1 := h.1
  cases e <;> first | rfl | cases h1
theorem cmpT_ok {op : C2} {a b : IV} {e : Expr} (h : ckCmp k S op a b e = true) : STt C e (stepT s (.cmp op a b)) := by
  unfold ckCmp at h
  split at h
  · simp only [Bool.and_eq_true, decide_eq_true_eq, Bool.not_eq_true'] at h
    obtain ⟨⟨⟨rfl, h0⟩, h1⟩, h2⟩ := h
    exact stt_cmp G.un (Y.V G h1) (Y.V G h2) h0
  · cases h
theorem chnT_ok {op op' : C2} {a b d : IV} {e : Expr} (h : ckChn k S op op' a b d e = true) : STt C e (stepT s (.chn op op' a b d)) := by
  unfold ckChn at h
  split at h
  · simp only [Bool.and_eq_true, decide_eq_true_eq, Bool.not_eq_true'] at h
    obtain ⟨⟨⟨⟨⟨rfl, rfl⟩, h0⟩, h1⟩, h2⟩, h3⟩ := h
    exact stt_chn G.un (Y.V G h1) (Y.V G h2) (Y.V G h3) h0
  · cases h
theorem andT_oks {pos : Pos} : ∀ {es : List IT} {xs : List Expr}, all2 (k.T S) es xs = true → xs ≠ [] → SW C (.BoolOp .And xs pos) (andT s es)
  | [], [], _, n => absurd rfl n
  | [], _ :: _, h, _ => by simp [all2] at h
  | _ :: _, [], h, _ => by simp [all2] at h
  | [e], [x], h, _ => by
    simp only [all2, Bool.and_eq_true] at h
    exact sw_and1 (Y.T G h.1)
  | [e], x :: y :: xs, h, _ => by simp [all2] at h
  | e :: f :: es, [x], h, _ => by simp [all2] at h
  | e :: f :: es, x :: y :: xs, h, _ => by
    rw [all2, Bool.and_eq_true] at h
    exact sw_and (Y.T G h.1) (andT_oks (es := f :: es) (xs := y :: xs) h.2 (by simp))
theorem orT_oks {pos : Pos} : ∀ {es : List IT} {xs : List Expr}, all2 (k.T S) es xs = true → xs ≠ [] → SW C (.BoolOp .Or xs pos) (orT s es)
  | [], [], _, n => absurd rfl n
  | [], _ :: _, h, _ => by simp [all2] at h
  | _ :: _, [], h, _ => by simp [all2] at h
  | [e], [x], h, _ => by
    simp only [all2, Bool.and_eq_true] at h
    exact sw_or1 (Y.T G h.1)
  | [e], x :: y :: xs, h, _ => by simp [all2] at h
  | e :: f :: es, [x], h, _ => by simp [all2] at h
  | e :: f :: es, x :: y :: xs, h, _ => by
    rw [all2, Bool.and_eq_true] at h
    exact sw_or (Y.T G h.1) (orT_oks (es := f :: es) (xs := y :: xs) h.2 (by simp))
theorem andT_ok {es : List IT} {e : Expr} (h : ckAndT k S es e = true) : STt C e (stepT s (.and es)) := by
  unfold ckAndT at h
  split at h
  · simp only [Bool.and_eq_true, Bool.not_eq_true', List.isEmpty_eq_false_iff] at h
    exact (andT_oks Y G h.1 h.2).stt
  · cases h
theorem orT_ok {es : List IT} {e : Expr} (h : ckOrT k S es e = true) : STt C e (stepT s (.or es)) := by
  unfold ckOrT at h
  split at h
  · simp only [Bool.and_eq_true, Bool.not_eq_true', List.isEmpty_eq_false_iff] at h
    exact (orT_oks Y G h.1 h.2).stt
  · cases h
theorem notT_ok {a : IT} {e : Expr} (h : ckNotT k S a e = true) : STt C e (stepT s (.not a)) := by
  unfold ckNotT at h
  split at h
  · exact stt_not (Y.T G h)
  · cases h
theorem t_ok : ∀ {i : IT} {e : Expr}, ckT k S i e = true → STt C e (stepT s i)
  | .val _, _, h => val_ok Y G h
  | .cmp _ _ _, _, h => cmpT_ok Y G h
  | .chn _ _ _ _ _, _, h => chnT_ok Y G h
  | .and _, _, h => andT_ok Y G h
  | .or _, _, h => orT_ok Y G h
  | .not _, _, h => notT_ok Y G h
/-! ### walks -/
theorem rng_ok {tg : Expr} {a : IE} {e : Expr} (h : ckRng P k S a e = true) : SI C tg e (stepI s (.rng a)) := by
  unfold ckRng at h
  split at h
  · simp only [Bool.and_eq_true, decide_eq_true_eq] at h
    obtain ⟨⟨⟨⟨rfl, h1⟩, h2⟩, h3⟩, h4⟩ := h
    exact si_rng (gl_ok G h1) (fr_ok G h2) h3 (Y.E G h4)
  · cases h
theorem rng2_ok {tg : Expr} {a b : IE} {e : Expr} (h : ckRng2 P k S a b e = true) : SI C tg e (stepI s (.rng2 a b)) := by
  unfold ckRng2 at h
  split at h
  · simp only [Bool.and_eq_true, decide_eq_true_eq] at h
    obtain ⟨⟨⟨⟨⟨⟨rfl, h1⟩, h2⟩, h3⟩, h4⟩, h5⟩, h6⟩ := h
    exact si_rng2 (gl_ok G h1) (fr_ok G h2) h3 h4 (Y.E G h5) (Y.E G h6)
  · cases h
theorem zip_ok {tg : Expr} {a b : IV} {e : Expr} (ht : isTup tg = true) (h : ckZip P k S a b e = true) : SI C tg e (stepI s (.zip a b)) := by
  unfold ckZip at h
  split at h
  · simp only [Bool.and_eq_true, decide_eq_true_eq] at h
    obtain ⟨⟨⟨⟨⟨⟨rfl, h1⟩, h2⟩, h3⟩, h4⟩, h5⟩, h6⟩ := h
    cases tg with
    | Tuple es kk tp => exact si_zip (gl_ok G h1) (fr_ok G h2) h3 h4 (Y.V G h5) (Y.V G h6)
    | _ => cases ht
  · cases h
theorem enm_ok {tg : Expr} {a : IV} {e : Expr} (ht : isTup tg = true) (h : ckEnm P k S a e = true) : SI C tg e (stepI s (.enm a)) := by
  unfold ckEnm at h
  split at h
  · simp only [Bool.and_eq_true, decide_eq_true_eq] at h
    obtain ⟨⟨⟨⟨rfl, h1⟩, h2⟩, h3⟩, h5⟩ := h
    cases tg with
    | Tuple es kk tp => exact si_enm (gl_ok G h1) (fr_ok G h2) h3 (Y.V G h5)
    | _ => cases ht
  · cases h
theorem i_ok {tg : Expr} : ∀ {i : II} {e : Expr}, ckI P k S tg i e = true → SI C tg e (stepI s i)
  | .v _, _, h => si_v (Y.V G h)
  | .rng _, _, h => rng_ok Y G h
  | .rng2 _ _, _, h => rng2_ok Y G h
  | .zip _ _, _, h => by
    rw [ckI, Bool.and_eq_true] at h
    exact zip_ok Y G h.1 h.2
  | .enm _, _, h => by
    rw [ckI, Bool.and_eq_true] at h
    exact enm_ok Y G h.1 h.2
/-! ### what is just made -/
omit Y G in
theorem ownN_map (N : List Str) (own : List Nat) : (ownN N own).map (·.2) = own := by
  unfold ownN
  rw [List.map_map]
  exact List.map_id own
omit Y G in
theorem comp_eq {elt : IE} {g : IG} {own : List Nat} {it : II} {t : Option IT} : compM s elt g own it t = lcM (s.E elt) g own (stepI s it) (t.map s.T) := by
  cases t <;> rfl
structure CompOk (P : Pg) (C : Cz) (s : SF) (elt : IE) (g : IG) (own : List Nat) (it : II) (t : Option IT) (elt' tg iter : Expr) (ifs : List Expr) (scope : Scope) : Prop where
  i : SI C tg iter (stepI s it)
  ok : BlkOk C.X.N C.X.env.scope scope (ownN C.X.N own)
  tgt : ∀ st H a cl fp, SG (C.blk scope st H a cl fp) tg g
  t : TestOk C scope ifs (t.map s.T)
  e : ∀ st H a cl fp, SE (C.blk scope st H a cl fp) elt' (s.E elt)
  st : ∀ x, foldedSetIterable iter C.X.env x = pure x
  o : ∀ i ∈ slotsG g, i ∈ (ownN C.X.N own).map (·.2)
omit Y G in
theorem fnK_ok {scope : Scope} (h : fnK scope = true) : scope.kind = .function := by
  unfold fnK at h
  split at h
  · assumption
  · cases h
theorem compOk {elt : IE} {g : IG} {own : List Nat} {it : II} {t : Option IT} {elt' tg iter : Expr} {ifs : List Expr} {scope : Scope} (h : ckComp P k S elt g own it t elt' tg iter ifs scope = true) : S.calm = true ∧ CompOk P C s elt g own it t elt' tg iter ifs scope := by
  unfold ckComp at h
  simp only [Bool.and_eq_true] at h
  obtain ⟨⟨⟨⟨⟨⟨⟨⟨hc, h1⟩, h2⟩, h3⟩, h4⟩, h5⟩, h6⟩, h7⟩, h8⟩ := h
  have B : ∀ st H a cl fp, Good P c (S.blk scope) (C.blk scope st H a cl fp) := fun st H a cl fp => G.blk hc (fnK_ok h1) st H a cl fp
  refine ⟨hc, i_ok Y G h2, ?_, fun st H a cl fp => ckG_ok (B st H a cl fp) h4, ?_, fun st H a cl fp => Y.E (B st H a cl fp) h6, noSet ?_, ?_⟩
  · rw [G.n, G.sc]
    exact blkOk_by h3
  · cases ifs with
    | nil =>
      cases t with
      | none => exact trivial
      | some _ => cases h5
    | cons x ifs =>
      cases ifs with
      | cons _ _ => cases h5
      | nil =>
        cases t with
        | none => cases h5
        | some t => exact fun st H a cl fp => Y.T (B st H a cl fp) h5
  · cases iter <;> first | rfl | cases h7
  · rw [ownN_map]
    intro i hi
    exact of_decide_eq_true (List.all_eq_true.mp h8 i hi)
theorem lc_ok {elt : IE} {g : IG} {own : List Nat} {it : II} {t : Option IT} {e : Expr} (h : ckLc P k S elt g own it t e = true) : SU C e (stepU c s (.comp elt g own it t)) := by
  unfold ckLc at h
  split at h
  · obtain ⟨hc, q⟩ := compOk Y G h
    have := su_comp (pos := ‹Pos›) (G.calm hc).1 G.nd q.i q.ok q.tgt q.t q.e q.st q.o
    rw [ownN_map] at this
    show SU C _ (fun r => (compM s elt g own it t r).bind fun ws r1 => .ok (.l (ws.map U.d)) r1)
    rw [comp_eq]
    exact this
  · cases h
theorem lst_ok {es : List IE} {e : Expr} (h : ckLst k S es e = true) : SU C e (stepU c s (.lst es)) := by
  unfold ckLst at h
  split at h
  · rw [Bool.and_eq_true] at h
    obtain ⟨h1, h2, h3⟩ := a_ok Y G h.1
    exact su_lst h1 (Nat.ble_eq.mp h.2)
  · cases h
theorem cat_ok {a b : IV} {e : Expr} (h : ckCat k S a b e = true) : SU C e (stepU c s (.cat a b)) := by
  unfold ckCat at h
  split at h
  · rw [Bool.and_eq_true] at h
    exact su_cat (Y.V G h.1) (Y.V G h.2)
  · cases h
theorem rep_ok {a : IV} {b : IE} {e : Expr} (h : ckRep k S a b e = true) : SU C e (stepU c s (.rep a b)) := by
  unfold ckRep at h
  split at h
  · rw [Bool.and_eq_true] at h
    exact su_rep (Y.V G h.1) (Y.E G h.2)
  · cases h
theorem slc_ok {a : IV} {lo hi : Option IE} {e : Expr} (h : ckSlc k S a lo hi e = true) : SU C e (stepU c s (.slc a lo hi)) := by
  unfold ckSlc at h
  split at h
  · simp only [Bool.and_eq_true] at h
    exact su_slc (Y.V G h.1.1) (o_ok Y G h.1.2) (o_ok Y G h.2)
  · cases h
theorem lof_ok {a : IV} {e : Expr} (h : ckOf P k S "list" a e = true) : SU C e (stepU c s (.lof a)) := by
  unfold ckOf at h
  split at h
  · simp only [Bool.and_eq_true, decide_eq_true_eq] at h
    obtain ⟨⟨⟨⟨rfl, h1⟩, h2⟩, h3⟩, h5⟩ := h
    exact su_lof (gl_ok G h1) (fr_ok G h2) h3 (Y.V G h5)
  · cases h
theorem srt_ok {a : IV} {e : Expr} (hc : S.calm = true) (h : ckOf P k S "sorted" a e = true) : SU C e (stepU c s (.srt a)) := by
  unfold ckOf at h
  split at h
  · simp only [Bool.and_eq_true, decide_eq_true_eq] at h
    obtain ⟨⟨⟨⟨rfl, h1⟩, h2⟩, h3⟩, h5⟩ := h
    exact su_srt (G.calm hc).1 (gl_ok G h1) (fr_ok G h2) h3 (Y.V G h5)
  · cases h
omit Y in
theorem dic_ok {e : Expr} (h : ckDic e = true) : SU C e (stepU c s .ndic) := by
  unfold ckDic at h
  split at h
  · exact su_ndic
  · cases h
theorem prs_ok {pos : Pos} : ∀ {ps : List (IE × IE)} {xs : List (Option Expr)} {ys : List Expr}, ckPrs k S ps xs ys = true → SP2 C pos xs ys (evs (prM s.E) ps) ∧ xs.all (·.isSome) = true ∧ xs.length = ys.length ∧ xs.length = ps.length
  | [], [], [], _ => ⟨sp_nil, rfl, rfl, rfl⟩
  | [], [], _ :: _, h => by simp [ckPrs] at h
  | [], _ :: _, _, h => by simp [ckPrs] at h
  | _ :: _, [], _, h => by simp [ckPrs] at h
  | _ :: _, none :: _, _, h => by simp [ckPrs] at h
  | _ :: _, some _ :: _, [], h => by simp [ckPrs] at h
  | p :: ps, some x :: xs, y :: ys, h => by
    simp only [ckPrs, Bool.and_eq_true] at h
    obtain ⟨h1, h2, h3, h4⟩ := prs_ok (pos := pos) h.2
    exact ⟨sp_cons (Y.E G h.1.1) (Y.E G h.1.2) h1, by rw [List.all_cons, h2]; rfl, congrArg Nat.succ h3, congrArg Nat.succ h4⟩
theorem dlt_ok {ps : List (IE × IE)} {e : Expr} (h : ckDlt k S ps e = true) : SU C e (stepU c s (.dlt ps)) := by
  unfold ckDlt at h
  split at h
  · simp only [Bool.and_eq_true] at h
    obtain ⟨⟨h1, h2⟩, h3⟩ := h
    obtain ⟨a1, a2, a3, a4⟩ := prs_ok Y G (pos := ‹Pos›) h1
    refine su_dlt a1 a2 a3 (fun e => ?_) (by rw [a4]; exact Nat.le_of_ble_eq_true h2)
    rw [e] at a4
    rw [← a4] at h3
    cases h3
  · cases h
theorem test_ok {scope : Scope} {t : Option IT} {ifs : List Expr} (B : ∀ st H a cl fp, Good P c (S.blk scope) (C.blk scope st H a cl fp)) (h5 : ckIfs k (S.blk scope) t ifs = true) : TestOk C scope ifs (t.map s.T) := by
  cases ifs with
  | nil =>
    cases t with
    | none => exact trivial
    | some _ => cases h5
  | cons x ifs =>
    cases ifs with
    | cons _ _ => cases h5
    | nil =>
      cases t with
      | none => cases h5
      | some t => exact fun st H a cl fp => Y.T (B st H a cl fp) h5
omit Y G in
theorem notSet_ok {e : Expr} {env : PySem.Env} (h : notSet e = true) : ∀ x, foldedSetIterable e env x = pure x := noSet (by cases e <;> first | rfl | cases h)
omit Y G in
theorem comp2_eq {elt : IE} {g : IG} {it : II} {t : Option IT} {g1 : IG} {e1 : IE} {t1 : Option IT} {own own1 : List Nat} : compM2 s elt g it t g1 e1 t1 own own1 = lcM2 (s.E elt) g (stepI s it) (t.map s.T) g1 (s.E e1) (t1.map s.T) own own1 := by
  cases t <;> cases t1 <;> rfl
theorem lc2_ok {elt : IE} {g : IG} {it : II} {t : Option IT} {g1 : IG} {e1 : IE} {t1 : Option IT} {own own1 : List Nat} {e : Expr} (h : ckLc2 P k S elt g it t g1 e1 t1 own own1 e = true) : SU C e (stepU c s (.comp2 elt g it t g1 e1 t1 own own1)) := by
  unfold ckLc2 at h
  split at h
  · unfold ckComp2 at h
    simp only [Bool.and_eq_true] at h
    obtain ⟨⟨⟨⟨⟨⟨⟨⟨⟨⟨⟨⟨⟨⟨hc, h1⟩, h2⟩, h3⟩, h4⟩, h5⟩, h6⟩, h7⟩, h8⟩, h9⟩, h10⟩, h11⟩, h12⟩, h13⟩, h14⟩ := h
    have B : ∀ st H a cl fp, Good P c (S.blk _) (C.blk _ st H a cl fp) := fun st H a cl fp => G.blk hc (fnK_ok h1) st H a cl fp
    have := su_comp2 (pos := ‹Pos›) (own := ownN C.X.N own) (G.calm hc).1 G.nd (i_ok Y G h2) (by rw [G.n, G.sc]; exact blkOk_by h3) (fun st H a cl fp => ckG_ok (B st H a cl fp) h4) (test_ok Y G B h5)
      (fun st H a cl fp => Y.E (B st H a cl fp) h6) (fun st H a cl fp => ckG_ok (B st H a cl fp) h7) (test_ok Y G B h8) (fun st H a cl fp => Y.E (B st H a cl fp) h9) (notSet_ok h10) (fun env => notSet_ok h11)
      (by rw [ownN_map]; exact fun i hi => of_decide_eq_true (List.all_eq_true.mp h12 i hi)) (fun i hi => of_decide_eq_true (List.all_eq_true.mp h13 i hi)) (by rw [ownN_map]; exact fun i hi => of_decide_eq_true (List.all_eq_true.mp h14 i hi))
    rw [ownN_map] at this
    show SU C _ (fun r => (compM2 s elt g it t g1 e1 t1 own own1 r).bind fun ws r1 => .ok (.l (ws.map U.d)) r1)
    rw [comp2_eq]
    exact this
  · cases h
theorem callD_ok {f : Nat} {es : List IA} {ds : List W} {e : Expr} (h : ckCallD P k S f es ds e = true) : SU C e (stepU c s (.callD f es ds)) := by
  unfold ckCallD at h
  split at h
  · simp only [Bool.and_eq_true] at h
    obtain ⟨⟨⟨⟨hc, h1⟩, h2⟩, h3⟩, h4⟩ := h
    obtain ⟨⟨n, f', i', ds'⟩, hq, h3⟩ := List.any_eq_true.mp h3
    simp only [Bool.and_eq_true, decide_eq_true_eq, Nat.beq_eq] at h3
    obtain ⟨⟨⟨rfl, rfl⟩, rfl⟩, h6⟩ := h3
    obtain rfl := beqWs_iff h6
    obtain ⟨a1, a2, a3⟩ := aa_ok Y G h4
    exact su_callD ((G.obs hc).dfl _ _ _ _ hq) G.tk (gl_ok G h1) (pl_ok h2).1 a2 a1
  · cases h
theorem make_ok {cl f : Nat} {es : List IA} {ds : List W} {e : Expr} (h : ckMake P k S cl f es ds e = true) : SU C e (stepU c s (.make cl f es ds)) := by
  unfold ckMake at h
  split at h
  · simp only [Bool.and_eq_true] at h
    obtain ⟨⟨⟨⟨hc, h1⟩, h2⟩, h3⟩, h4⟩ := h
    obtain ⟨⟨n, cl', f', i', ds'⟩, hq, h3⟩ := List.any_eq_true.mp h3
    simp only [Bool.and_eq_true, decide_eq_true_eq, Nat.beq_eq] at h3
    obtain ⟨⟨⟨⟨rfl, rfl⟩, rfl⟩, rfl⟩, h6⟩ := h3
    obtain rfl := beqWs_iff h6
    obtain ⟨a1, a2, a3⟩ := aa_ok Y G h4
    exact su_make ((G.obs hc).mks _ _ _ _ _ hq) G.tk (gl_ok G h1) (pl_ok h2).1 a2 a3 a1
  · cases h
theorem mth_ok {cl m f : Nat} {o : IA} {es : List IA} {ds : List W} {e : Expr} (h : ckMth P k S cl m f o es ds e = true) : SU C e (stepU c s (.mth cl m f o es ds)) := by
  unfold ckMth at h
  split at h
  · simp only [Bool.and_eq_true, decide_eq_true_eq] at h
    obtain ⟨⟨⟨⟨⟨⟨⟨hc, rfl⟩, h1⟩, h2⟩, h3⟩, h4⟩, h5⟩, h6⟩ := h
    obtain ⟨⟨cl', m', f', i', ds'⟩, hq, h1⟩ := List.any_eq_true.mp h1
    simp only [Bool.and_eq_true, Nat.beq_eq] at h1
    obtain ⟨⟨⟨⟨rfl, rfl⟩, rfl⟩, rfl⟩, h7⟩ := h1
    obtain rfl := beqWs_iff h7
    obtain ⟨a1, a2, a3⟩ := aa_ok Y G h6
    exact su_mth ((G.obs hc).mts _ _ _ _ _ hq) G.tk h2 a2 (Nat.blt_eq.mp h3) h4 a3 (a1_ok Y G h5) a1
  · cases h
theorem prp_ok {cl f : Nat} {o : IA} {e : Expr} (h : ckPrp P k S cl f o e = true) : SU C e (stepU c s (.prp cl f o)) := by
  unfold ckPrp at h
  split at h
  · simp only [Bool.and_eq_true, decide_eq_true_eq] at h
    obtain ⟨⟨⟨hc, h1⟩, h2⟩, h3⟩ := h
    exact su_prp ((G.obs hc).prs _ _ _ h1) h2 (a1_ok Y G h3)
  · cases h
theorem u_ok : ∀ {i : IU} {e : Expr}, ckU P k S i e = true → SU C e (stepU c s i)
  | .d _, _, h => SU.d (Y.E G h)
  | .mv i, e, h => by
    obtain ⟨x, pos, rfl, h1, h2, h3, h4⟩ := var_is G (show ckVar S i e = true from h)
    exact su_mv h1 h2 h3 h4
  | .lst _, _, h => lst_ok Y G h
  | .comp _ _ _ _ _, _, h => lc_ok Y G h
  | .cat _ _, _, h => cat_ok Y G h
  | .rep _ _, _, h => rep_ok Y G h
  | .slc _ _ _, _, h => slc_ok Y G h
  | .lof _, _, h => lof_ok Y G h
  | .srt _, _, h => by
    rw [ckU, Bool.and_eq_true] at h
    exact srt_ok Y G h.1 h.2
  | .ndic, _, h => dic_ok G h
  | .dlt _, _, h => dlt_ok Y G h
  | .call _ _, _, h => call_ok Y G h
  | .callK _ _, _, h => by cases h
  | .callD _ _ _, _, h => callD_ok Y G h
  | .make _ _ _ _, _, h => make_ok Y G h
  | .mth _ _ _ _ _ _, _, h => mth_ok Y G h
  | .prp _ _ _, _, h => prp_ok Y G h
  | .comp2 _ _ _ _ _ _ _ _ _, _, h => lc2_ok Y G h
end
end FM


set_option Elab.async false
set_option linter.all false
set_option maxRecDepth 100000
set_option maxHeartbeats 2000000
namespace FM
open PySem L2
section
variable (P : Pg) (k : CK) (S : Sc)
/-- tg = e is stored behind the whole value -/
def asgB (tg e : Expr) : Bool := (match tg with
  | .Name x _ => notComp e || !loc1 S x
  | .Tuple _ _ _ => !isTup e || (match e with | .Tuple vs _ _ => vs.all (foldedForSure 8) | _ => false)
  | _ => false)
def ckAsg (g : IG) (i : IE) : Stmt → Bool
  | .Assign [tg] e _ => asgB S tg e && ckG S g tg && k.E S i e
  | _ => false
def ckOwn (i : Nat) (u : IU) : Stmt → Bool
  | .Assign [.Name x npos] e _ => asgB S (.Name x npos) e && atB S i x && locB S x && k.U S u e
  | _ => false
def ckPar (i j : Nat) (a b : IE) : Stmt → Bool
  | .Assign [.Tuple [.Name x px, .Name y py] _ _] (.Tuple [u, v] _ _) _ =>
    S.calm && atB S i x && atB S j y && !Nat.beq i j && loc1 S x && loc1 S y && (py.line == px.line) && notStar u && notStar v && !(foldedForSure 8 u && foldedForSure 8 v) && !(constantsAlone 8 u && constantsAlone 8 v) && !decide (x = y) && k.E S a u && k.E S b v
  | _ => false
def ckPar2 (i j : Nat) (a b : IU) : Stmt → Bool
  | .Assign [.Tuple [.Name x px, .Name y py] _ _] (.Tuple [u, v] _ _) _ =>
    S.calm && atB S i x && atB S j y && !Nat.beq i j && loc1 S x && loc1 S y && (py.line == px.line) && notStar u && notStar v && !(foldedForSure 8 u && foldedForSure 8 v) && !(constantsAlone 8 u && constantsAlone 8 v) && !decide (x = y) && k.U S a u && k.U S b v
  | _ => false
def ckFset (cl i kf : Nat) (u : IU) : Stmt → Bool
  | .Assign [.Attribute (.Name x npos) n _] e _ => notComp e && decide (n = nmS kf) && decide ((cl, kf) ∈ P.fds) && ckVar S i (.Name x npos) && k.U S u e
  | _ => false
def ckSub (i : Nat) (n e : IE) : Stmt → Bool
  | .Assign [.Subscript (.Name x npos) y _] z _ => notComp z && ckVar S i (.Name x npos) && k.E S n y && k.E S e z
  | _ => false
def ckRet (i : IU) : Stmt → Bool
  | .Return (some e) _ => k.U S i e
  | _ => false
def ckExp (i : IE) : Stmt → Bool
  | .Expr e _ => notComp e && k.E S i e
  | _ => false
def ckIf (t : IT) (a b : List IS) : Stmt → Bool
  | .If e x y _ => k.T S t e && k.S S a x && k.S S b y
  | _ => false
def ckFor (g : IG) (it : II) (b : List IS) : Stmt → Bool
  | .For tg iter body [] _ => S.calm && notSet iter && ckI P k S tg it iter && ckG S g tg && k.S S b body
  | _ => false
def ckWhl (t : IT) (b : List IS) : Stmt → Bool
  | .While e body [] _ => S.calm && k.T S t e && k.S S b body
  | _ => false
def ckPass : Stmt → Bool
  | .Pass _ => true
  | _ => false
def ckBrk : Stmt → Bool
  | .Break _ => true
  | _ => false
def ckCont : Stmt → Bool
  | .Continue _ => true
  | _ => false
def ckSlc1 (i : Nat) (elt : IE) (g : IG) (own : List Nat) (it : II) (t : Option IT) : Stmt → Bool
  | .Assign [.Name y py] (.ListComp elt' [⟨tg, iter, ifs, 0⟩] scope pos) _ => atB S i y && loc1 S y && (py.line == pos.line) && !(scope.names.any fun (n, k) => n == y && (k == .local || k == .cell)) && ckComp P k S elt g own it t elt' tg iter ifs scope
  | _ => false
def ckRse (c kf : Nat) (e : IE) : Stmt → Bool
  | .Raise (some (.Call (.Name n _) [a] [] _)) none _ => S.calm && decide ((n, c, kf) ∈ P.xc) && notStar a && glB S n && pl n && k.E S e a
  | _ => false
def ckTry (body : List IS) (cs no : List Nat) (i : Nat) (h : List IS) : Stmt → Bool
  | .Try b [.ExceptHandler (some (.Name x _)) (some n) (s₀ :: su) _] [] [] _ => S.top && S.calm && atB S i n && loc1 S n && glB S x && pl x &&
    (match P.oc.lookup x with
     | some c => (cs.all fun q => decide ((q, c, true) ∈ P.sub) && P.xc.any fun z => Nat.beq z.2.1 q) && no.all fun q => decide ((q, c, false) ∈ P.sub)
     | none => false) && k.S S body b && k.S S.sui h (s₀ :: su)
  | _ => false
def ckCases : List (W × List IS) → List MatchCase → Bool
  | [], [] => true
  | (.str s, b) :: cs, ⟨.MatchValue (.Constant (.str x) _ _) _, none, body⟩ :: ms => decide (x = sv s) && k.S S b body && ckCases cs ms
  | _, _ => false
def ckMat (e : IE) (cs : List (W × List IS)) : Stmt → Bool
  | .Match x ms _ => k.E S e x && ckCases k S cs ms
  | _ => false
def ckS : IS → Stmt → Bool
  | .exp e => ckExp k S e
  | .asg g e => ckAsg k S g e
  | .own i u => ckOwn k S i u
  | .fset cl i kf u => ckFset P k S cl i kf u
  | .par i j a b => ckPar k S i j a b
  | .par2 i j a b => ckPar2 k S i j a b
  | .sub i n e => ckSub k S i n e
  | .dsub i n e => ckSub k S i n e
  | .ret e => ckRet k S e
  | .ifs t a b => ckIf k S t a b
  | .for g it b => ckFor P k S g it b
  | .whl t b => ckWhl k S t b
  | .lc _ i elt g own it t => ckSlc1 P k S i elt g own it t
  | .rse c (some kf) (some e) => ckRse P k S c kf e
  | .rse _ _ _ => fun _ => false
  | .try b cs no i h => ckTry P k S b cs no i h
  | .mat e cs => ckMat k S e cs
  | .pass => ckPass
  | .brk => ckBrk
  | .cont => ckCont
  | .unk => fun _ => true
def ckSs (is : List IS) (sts : List Stmt) : Bool := all2 (ckS P k S) is sts
end
section
variable {P : Pg} {k : CK} {S : Sc} {C : Cz} {c : CF} {s : SF} (Y : Snd P c k s) (G : Good P c S C)
include Y G
omit Y in
theorem asgB_ok {tg e : Expr} {l : Nat} (h : asgB S tg e = true) : notStar tg = true ∧ swapsWithSole [tg] e l C.X.env = pure false ∧ swappedStores [tg] e C.X.env = pure none := by
  unfold asgB at h
  split at h
  · rename_i x pos
    refine ⟨rfl, ?_, rfl⟩
    rw [Bool.or_eq_true] at h
    rcases h with h | h
    · exact (sw_no h : swapsWith e (some (.Name x pos)) l C.X.env = pure false)
    · have hx : ¬ C.X.env.kindOf x = some .local := fun e => by
        have e : C.X.env.scope.names.lookup x = some .local := e
        rw [G.sc] at e
        unfold loc1 at h
        rw [e] at h
        cases h
      have hb : (C.X.env.kindOf x == some NameKind.local) = false := beq_eq_false_iff_ne.mpr hx
      show swapsWith e (some (.Name x pos)) l C.X.env = pure false
      unfold swapsWith
      cases e <;> first | rfl | (simp only [hb, Bool.and_false, Bool.false_and])
  · rename_i ts kk tp
    refine ⟨rfl, ?_, ?_⟩
    · show swapsWith e (some (.Tuple ts kk tp)) l C.X.env = pure false
      cases e <;> rfl
    · cases e <;> first | rfl | (exact swap0 (by simpa only [isTup, Bool.not_true, Bool.false_or] using h))
  · cases h
theorem asg_ok {g : IG} {i : IE} {st : Stmt} (h : ckAsg k S g i st = true) : SS C st (stepS s (.asg g i)) := by
  unfold ckAsg at h
  split at h
  · simp only [Bool.and_eq_true] at h
    obtain ⟨⟨h1, h2⟩, h3⟩ := h
    obtain ⟨a1, a2, a3⟩ := asgB_ok G h1
    exact ss_asg (Y.E G h3) (ckG_ok G h2) a1 a2 a3
  · cases h
theorem own_ok {i : Nat} {u : IU} {st : Stmt} (h : ckOwn k S i u st = true) : SS C st (stepS s (.own i u)) := by
  unfold ckOwn at h
  split at h
  · simp only [Bool.and_eq_true] at h
    obtain ⟨⟨⟨h1, h2⟩, h3⟩, h4⟩ := h
    obtain ⟨a1, a2, a3⟩ := asgB_ok G h1
    obtain ⟨l1, l2⟩ := loc_ok G h3
    exact ss_own G.nd (at_ok G h2) l1 l2 (Y.U G h4) a2
  · cases h
theorem par_ok {i j : Nat} {a b : IE} {st : Stmt} (h : ckPar k S i j a b st = true) : SS C st (stepS s (.par i j a b)) := by
  unfold ckPar at h
  split at h
  · simp only [Bool.and_eq_true, Bool.not_eq_true'] at h
    obtain ⟨⟨⟨⟨⟨⟨⟨⟨⟨⟨⟨⟨⟨hc, h1⟩, h2⟩, h3⟩, h4⟩, h5⟩, h6⟩, h7⟩, h8⟩, h9⟩, h10⟩, h11⟩, h12⟩, h13⟩ := h
    refine ss_par (G.calm hc).1 G.nd (at_ok G h1) (at_ok G h2) (fun e => ?_) (loc1_ok G h4) (loc1_ok G h5) (swap2 (by rw [G.sc]; exact G.kd) (loc1_ok G h4) (loc1_ok G h5) (of_decide_eq_false h11) (eq_of_beq h6) h7 h8 h9 h10) h7 h8 (Y.E G h12) (Y.E G h13)
    subst e
    rw [Nat.beq_refl] at h3
    cases h3
  · cases h
theorem par2_ok {i j : Nat} {a b : IU} {st : Stmt} (h : ckPar2 k S i j a b st = true) : SS C st (stepS s (.par2 i j a b)) := by
  unfold ckPar2 at h
  split at h
  · simp only [Bool.and_eq_true, Bool.not_eq_true'] at h
    obtain ⟨⟨⟨⟨⟨⟨⟨⟨⟨⟨⟨⟨⟨hc, h1⟩, h2⟩, h3⟩, h4⟩, h5⟩, h6⟩, h7⟩, h8⟩, h9⟩, h10⟩, h11⟩, h12⟩, h13⟩ := h
    refine ss_par2 (G.calm hc).1 G.nd (at_ok G h1) (at_ok G h2) (fun e => ?_) (loc1_ok G h4) (loc1_ok G h5) (swap2 (by rw [G.sc]; exact G.kd) (loc1_ok G h4) (loc1_ok G h5) (of_decide_eq_false h11) (eq_of_beq h6) h7 h8 h9 h10) h7 h8 (Y.U G h12) (Y.U G h13)
    subst e
    rw [Nat.beq_refl] at h3
    cases h3
  · cases h
theorem fset_ok {cl i kf : Nat} {u : IU} {st : Stmt} (h : ckFset P k S cl i kf u st = true) : SS C st (stepS s (.fset cl i kf u)) := by
  unfold ckFset at h
  split at h
  · simp only [Bool.and_eq_true, decide_eq_true_eq] at h
    obtain ⟨⟨⟨⟨h0, rfl⟩, h1⟩, h2⟩, h3⟩ := h
    obtain ⟨x, pos, ex, v1, v2, v3, v4⟩ := var_is G h2
    cases ex
    have f := G.wr.fds _ _ h1
    exact ss_fset f.cls f.no f.lt v1 v2 v3 v4 (Y.U G h3) h0
  · cases h
theorem sub_ok {i : Nat} {n e : IE} {st : Stmt} (h : ckSub k S i n e st = true) : SS C st (stepS s (.sub i n e)) := by
  unfold ckSub at h
  split at h
  · simp only [Bool.and_eq_true] at h
    obtain ⟨⟨⟨h1, h2⟩, h3⟩, h4⟩ := h
    obtain ⟨x, pos, ex, v1, v2, v3, v4⟩ := var_is G h2
    cases ex
    exact ss_sub v1 v2 v3 v4 (Y.E G h3) (Y.E G h4) h1
  · cases h
theorem dsub_ok {i : Nat} {n e : IE} {st : Stmt} (h : ckSub k S i n e st = true) : SS C st (stepS s (.dsub i n e)) := by
  unfold ckSub at h
  split at h
  · simp only [Bool.and_eq_true] at h
    obtain ⟨⟨⟨h1, h2⟩, h3⟩, h4⟩ := h
    obtain ⟨x, pos, ex, v1, v2, v3, v4⟩ := var_is G h2
    cases ex
    exact ss_dsub (un1 G) v1 v2 v3 v4 (Y.E G h3) (Y.E G h4) h1
  · cases h
theorem ret_ok {i : IU} {st : Stmt} (h : ckRet k S i st = true) : SS C st (stepS s (.ret i)) := by
  unfold ckRet at h
  split at h
  · exact ss_ret (Y.U G h)
  · cases h
theorem exp_ok {i : IE} {st : Stmt} (h : ckExp k S i st = true) : SS C st (stepS s (.exp i)) := by
  unfold ckExp at h
  split at h
  · rw [Bool.and_eq_true] at h
    exact ss_exp (Y.E G h.2) h.1
  · cases h
theorem if_ok {t : IT} {a b : List IS} {st : Stmt} (h : ckIf k S t a b st = true) : SS C st (stepS s (.ifs t a b)) := by
  unfold ckIf at h
  split at h
  · simp only [Bool.and_eq_true] at h
    exact ss_if (Y.T G h.1.1) (Y.S G h.1.2) (Y.S G h.2)
  · cases h
theorem for_ok {g : IG} {it : II} {b : List IS} {st : Stmt} (h : ckFor P k S g it b st = true) : SS C st (stepS s (.for g it b)) := by
  unfold ckFor at h
  split at h
  · rename_i tg iter body pos
    simp only [Bool.and_eq_true] at h
    obtain ⟨⟨⟨⟨hc, h1⟩, h2⟩, h3⟩, h4⟩ := h
    exact ss_for (G.calm hc).2 (G.calm hc).1 (i_ok Y G h2) (ckG_ok G h3) (Y.S G h4) (noSet (by cases iter <;> first | rfl | cases h1))
  · cases h
theorem slc1_ok {bo : Bool} {i : Nat} {elt : IE} {g : IG} {own : List Nat} {it : II} {t : Option IT} {st : Stmt} (h : ckSlc1 P k S i elt g own it t st = true) : SS C st (stepS s (.lc bo i elt g own it t)) := by
  unfold ckSlc1 at h
  split at h
  · rename_i y py elt' tg iter ifs scope pos spos
    simp only [Bool.and_eq_true, Bool.not_eq_true'] at h
    obtain ⟨⟨⟨⟨h1, h2⟩, h3⟩, h4⟩, h5⟩ := h
    obtain ⟨hc, q⟩ := compOk Y G h5
    have hsw : swapsWith (.ListComp elt' [⟨tg, iter, ifs, 0⟩] scope pos) (some (.Name y py)) spos.line C.X.env = pure true := by
      have hb : C.X.env.blockKind = .function := by unfold Env.blockKind; rw [G.sc, G.kd]; rfl
      have ky : C.X.env.kindOf y = some .local := loc1_ok G h2
      unfold swapsWith
      simp only [hb, ky, Expr.pos, h3, h4]
      rfl
    have := ss_lc (bo := bo) (G.calm hc).1 G.nd (at_ok G h1) (loc1_ok G h2) hsw q.i q.ok q.tgt q.t q.e q.st q.o
    rw [ownN_map] at this
    show SS C _ (fun r => (compM s elt g own it t r).toS fun ws r1 => match setV r1 i (if bo then .l (ws.map U.d) else .d (.lis ws)) with
      | some r2 => .nx r2
      | none => .bad)
    rw [comp_eq]
    exact this
  · cases h
theorem rse_ok {cn kf : Nat} {e : IE} {st : Stmt} (h : ckRse P k S cn kf e st = true) : SS C st (stepS s (.rse cn (some kf) (some e))) := by
  unfold ckRse at h
  split at h
  · simp only [Bool.and_eq_true, decide_eq_true_eq] at h
    obtain ⟨⟨⟨⟨⟨hc, h1⟩, h2⟩, h3⟩, h4⟩, h5⟩ := h
    obtain ⟨fI, sc, ar, bd, Bn, newId, initId, bmB, T⟩ := (G.wr.xc _ _ _ h1).tx
    exact ss_rse T (G.calm hc).1 G.tk (G.rm hc) (Y.E G h5) h2 (gl_ok G h3) (pl_ok h4).1
  · cases h
theorem try_ok {b : List IS} {cs no : List Nat} {i : Nat} {h : List IS} {st : Stmt} (q : ckTry P k S b cs no i h st = true) : SS C st (stepS s (.try b cs no i h)) := by
  unfold ckTry at q
  split at q
  · rename_i body x np n s₀ su pos' pos
    simp only [Bool.and_eq_true] at q
    obtain ⟨⟨⟨⟨⟨⟨⟨⟨ht, hc⟩, h1⟩, h2⟩, h3⟩, h4⟩, h5⟩, h6⟩, h7⟩ := q
    split at h5
    · rename_i cn hl
      rw [Bool.and_eq_true] at h5
      obtain ⟨t1, t2, t3⟩ := G.topC ht hc
      have A : ∀ q ∈ cs, (q, cn, true) ∈ P.sub ∧ ∃ n f, (n, q, f) ∈ P.xc := fun q hq => by
        have := List.all_eq_true.mp h5.1 q hq
        rw [Bool.and_eq_true, decide_eq_true_eq] at this
        refine ⟨this.1, ?_⟩
        obtain ⟨⟨n, q', f⟩, hz, e⟩ := List.any_eq_true.mp this.2
        have e := Nat.eq_of_beq_eq_true e
        dsimp only at e
        subst e
        exact ⟨n, f, hz⟩
      refine ss_try (c := cn) t1 t2 t3 G.nd (at_ok G h1) (loc1_ok G h2) ⟨gl_ok G h3, (pl_ok h4).1, .inl (G.wr.oc _ _ hl)⟩ G.tk (fun q hq => G.wr.sub _ _ _ (A q hq).1) (fun q hq => G.wr.sub _ _ _ (of_decide_eq_true (List.all_eq_true.mp h5.2 q hq)))
        (fun W pn xe tk po => Y.S (G.tr hc tk po) h6) (fun a oe q d pn hq hz hv => Y.S (G.sui (A q hq).2 hz hv) h7)
    · cases h5
  · cases q
theorem cases_ok : ∀ {cs : List (W × List IS)} {ms : List MatchCase}, ckCases k S cs ms = true → MatR C ms (cs.map fun q => (q.1, s.S q.2))
  | [], [], _ => .nil
  | [], _ :: _, h => by simp [ckCases] at h
  | (w, b) :: cs, ms, h => by
    unfold ckCases at h
    split at h
    · rename_i e2; cases e2
    · rename_i e2
      cases e2
      simp only [Bool.and_eq_true, decide_eq_true_eq] at h
      exact .cons h.1.1 (Y.S G h.1.2) (cases_ok h.2)
    · cases h
omit Y G in
theorem pick_eq {w : W} {r : Env} : ∀ cs : List (W × List IS), pick s w r cs = pickM w r (cs.map fun q => (q.1, s.S q.2))
  | [] => rfl
  | (u, b) :: cs => by
    unfold pick
    show _ = pickM w r ((u, s.S b) :: cs.map fun q => (q.1, s.S q.2))
    unfold pickM
    rw [pick_eq cs]
    try (cases eqW w u with
      | none => rfl
      | some b' => cases b' <;> rfl)
theorem mat_ok' {e : IE} {cs : List (W × List IS)} {st : Stmt} (h : ckMat k S e cs st = true) : SS C st (stepS s (.mat e cs)) := by
  unfold ckMat at h
  split at h
  · rw [Bool.and_eq_true] at h
    have := ss_mat (pos := ‹Pos›) G.un (Y.E G h.1) (cases_ok Y G h.2)
    have e : stepS s (.mat e cs) = matM (s.E e) (cs.map fun q => (q.1, s.S q.2)) := by
      funext r
      show (s.E e r).toS (fun w r1 => pick s w r1 cs) = (s.E e r).toS (fun w r1 => pickM w r1 (cs.map fun q => (q.1, s.S q.2)))
      congr 1
      funext w r1
      exact pick_eq cs
    rw [e]
    exact this
  · cases h
/-- W: what is known of a while -/
theorem s_ok (W : ∀ {t : IT} {b : List IS} {st : Stmt}, ckWhl k S t b st = true → SS C st (s.Wh t b)) : ∀ {i : IS} {st : Stmt}, ckS P k S i st = true → SS C st (stepS s i)
  | .exp _, _, h => exp_ok Y G h
  | .asg _ _, _, h => asg_ok Y G h
  | .own _ _, _, h => own_ok Y G h
  | .fset _ _ _ _, _, h => fset_ok Y G h
  | .par _ _ _ _, _, h => par_ok Y G h
  | .par2 _ _ _ _, _, h => par2_ok Y G h
  | .sub _ _ _, _, h => sub_ok Y G h
  | .dsub _ _ _, _, h => dsub_ok Y G h
  | .ret _, _, h => ret_ok Y G h
  | .ifs _ _ _, _, h => if_ok Y G h
  | .for _ _ _, _, h => for_ok Y G h
  | .whl _ _, _, h => W h
  | .lc _ _ _ _ _ _ _, _, h => slc1_ok Y G h
  | .rse _ (some _) (some _), _, h => rse_ok Y G h
  | .rse _ none _, _, h => by simp [ckS] at h
  | .rse _ (some _) none, _, h => by simp [ckS] at h
  | .try _ _ _ _ _, _, h => try_ok Y G h
  | .mat _ _, _, h => mat_ok' Y G h
  | .pass, st, h => by
    cases st with
    | Pass p => exact ss_pass
    | _ => cases h
  | .brk, st, h => by
    cases st with
    | Break p => exact ss_brk
    | _ => cases h
  | .cont, st, h => by
    cases st with
    | Continue p => exact ss_cont
    | _ => cases h
  | .unk, _, _ => ss_unk
theorem ss_ok (W : ∀ {t : IT} {b : List IS} {st : Stmt}, ckWhl k S t b st = true → SS C st (s.Wh t b)) : ∀ {is : List IS} {sts : List Stmt}, ckSs P k S is sts = true → SSs C sts (stepSs s is)
  | [], [], _ => sss_nil
  | [], _ :: _, h => by simp [ckSs, all2] at h
  | _ :: _, [], h => by simp [ckSs, all2] at h
  | i :: is, st :: sts, h => by
    simp only [ckSs, all2, Bool.and_eq_true] at h
    exact sss_cons (s_ok Y G W h.1) (ss_ok W (is := is) (sts := sts) h.2)
end
def CK.bot : CK := ⟨fun _ _ _ => false, fun _ _ _ => false, fun _ _ _ => false, fun _ _ _ => false, fun _ _ _ => false⟩
def ckl (P : Pg) : Nat → CK
  | 0 => CK.bot
  | n + 1 => ⟨fun S => ckE P (ckl P n) S, fun S => ckV (ckl P n) S, fun S => ckT (ckl P n) S, fun S => ckU P (ckl P n) S, fun S => ckSs P (ckl P n) S⟩
theorem sv_bot {C : Cz} {e : Expr} : SV C e (fun _ => .bad) := ⟨fun _ _ _ => False, ⟨fun _ _ _ _ _ _ h => h.elim⟩, fun g r σ F Q re k => k⟩
theorem su_bot {C : Cz} {e : Expr} : SU C e (fun _ => .bad) := ⟨fun _ _ _ => False, ⟨fun _ _ _ _ _ _ h => h.elim⟩, fun g r σ F Q re k => k⟩
theorem st_bot {C : Cz} {e : Expr} : STt C e (fun _ => .bad) := ⟨fun _ _ _ => False, ⟨fun _ _ _ _ _ _ h => h.elim⟩, fun g r σ F Q re k => k⟩
theorem snd (P : Pg) (c : CF) : ∀ n m : Nat, Snd P c (ckl P m) (lvl c n) := by
  intro n
  induction n using Nat.strongRecOn with
  | ind n ih =>
    intro m
    cases n with
    | zero => exact ⟨fun _ _ => se_unk, fun _ _ => sv_bot, fun _ _ => st_bot, fun _ _ => su_bot, fun _ _ => sss_unk⟩
    | succ n =>
      cases m with
      | zero => exact ⟨fun _ h => (nomatch h), fun _ h => (nomatch h), fun _ h => (nomatch h), fun _ h => (nomatch h), fun _ h => (nomatch h)⟩
      | succ m =>
        have Y := ih n (Nat.lt_succ_self n) m
        refine ⟨fun G h => e_ok Y G h, fun G h => v_ok Y G h, fun G h => t_ok Y G h, fun G h => u_ok Y G h, fun {S C i e} G h => ss_ok Y G (fun {t b st} h => ?_) h⟩
        unfold ckWhl at h
        split at h
        · simp only [Bool.and_eq_true] at h
          exact ss_whl (G.calm h.1.1).2 (fun j hj => (ih j (Nat.lt_succ_of_lt hj) m).T G h.1.2) (fun j hj => (ih j (Nat.lt_succ_of_lt hj) m).S G h.2)
        · cases h
end FM


set_option Elab.async false
set_option linter.all false
set_option maxRecDepth 100000
set_option maxHeartbeats 2000000
namespace FM
open PySem L2

/-- where a def stands -/
inductive Wh where
  | glo (x : Str) | met (c m : Str) | prp (c n : Str)
/-- a def of the text: its name, its place, its names (parameters first), its parameters, its reading -/
structure DD where
  wh : Wh
  x : Str
  q : Str
  ds : List W
  st : Stmt
  N : List Str
  ps : List Str
  body : List IS
def DD.fd (d : DD) : FD := ⟨d.ps.length, d.N.length, d.body⟩
def parB (sc : Scope) (x : Str) : Bool := match sc.names.lookup x with
  | some .local => true
  | some .cell => true
  | _ => false
def nofB : NameKind → Bool
  | .free => false
  | _ => true
def scB (N ps : List Str) (sc : Scope) : Bool := fnK sc && !sc.isCoroutine && !sc.isGenerator && decide N.Nodup && decide (N.take ps.length = ps) && ps.all (parB sc) && sc.names.all fun y => nofB y.2
theorem scB_ok {N ps : List Str} {sc : Scope} (h : scB N ps sc = true) : FnScope N ps sc := by
  unfold scB at h
  simp only [Bool.and_eq_true, Bool.not_eq_true', decide_eq_true_eq] at h
  obtain ⟨⟨⟨⟨⟨⟨h1, h2⟩, h3⟩, h4⟩, h5⟩, h6⟩, h7⟩ := h
  refine ⟨?_, h2, h3, h4, h5, fun x hx => ?_, fun y hy e => ?_⟩
  · unfold fnK at h1
    split at h1
    · assumption
    · cases h1
  · have := List.all_eq_true.mp h6 x hx
    unfold parB at this
    split at this
    · exact .inl ‹_›
    · exact .inr ‹_›
    · cases this
  · have := List.all_eq_true.mp h7 y hy
    rw [e] at this
    cases this
def ckD (P : Pg) (m : Nat) (d : DD) : Bool := scB d.N d.ps (defScope d.st) && (ckl P m).S ⟨d.N, defScope d.st, true, true⟩ d.body (defBody d.st)

theorem pad_rep : ∀ n : Nat, pad n = List.replicate n En.no
  | 0 => rfl
  | n + 1 => by rw [pad, pad_rep n]; rfl
theorem re_start {Z : Kx} {B : Nat → Option V} {g : Sg} {N : List Str} {es : List En} {vs : List V} {Fa : Fp} (h : RE Z B none g es (vs.map some) Fa) : RE Z B none g (es ++ pad (N.length - es.length)) (start N vs) Fa := by
  have hl := h.len
  rw [List.length_map] at hl
  refine ⟨?_, fun i e he => ?_, fun i hi => h.out i ?_, h.nod, h.dis, h.nl, h.la⟩
  · unfold L2.start
    rw [pad_rep, List.length_append, List.length_append, List.length_map, List.length_replicate, List.length_replicate, hl]
  · by_cases hi : i < es.length
    · rw [List.getElem?_append_left hi] at he
      obtain ⟨o, h1, h2⟩ := h.at_ i e he
      refine ⟨o, ?_, h2⟩
      unfold L2.start
      rw [List.getElem?_append_left (by rw [List.length_map, ← hl]; exact hi)]
      exact h1
    · rw [List.getElem?_append_right (by omega), pad_rep, List.getElem?_replicate] at he
      split at he
      · rename_i hlt
        cases he
        refine ⟨none, ?_, h.out i (by omega)⟩
        unfold L2.start
        rw [List.getElem?_append_right (by rw [List.length_map, ← hl]; omega), List.length_map, ← hl, List.getElem?_replicate, if_pos hlt]
      · cases he
  · rw [List.length_append] at hi
    omega
/-- what was lent, at the end -/
theorem outs_ok {Z : Kx} {B : Nat → Option V} {g : Sg} {F : Fp} (hN : ∀ i, (F i).Nodup) (hD : ∀ i j a, a ∈ F i → a ∈ F j → i = j) : ∀ {es : List En} {vs : List V} {r : Env} {os : List U} (n : Nat), (∀ i u, es[i]? = some (.t u) → B (n + i) = vs[i]?) → es.length = vs.length →
    (∀ i u, r[i]? = some (.t u) → ∃ v, B (n + i) = some v ∧ OU Z g u v (F (n + i))) → outs es r = some os →
    ∃ fps, OUs Z g os (lentV es vs) fps ∧ fps.Nodup ∧ (∀ a ∈ fps, ∃ i, n ≤ i ∧ a ∈ F i) ∧ LOU Z g F n es os vs
  | [], vs, r, os, n, _, _, _, h => by
    cases h
    exact ⟨[], ⟨by cases vs <;> rfl, rfl⟩, List.nodup_nil, (fun _ m => nomatch m), by cases vs <;> rfl⟩
  | e :: es, [], r, os, n, _, hl, _, h => by cases hl
  | e :: es, v :: vs, [], os, n, hb, hl, hr, h => by cases e <;> cases h
  | e :: es, v :: vs, x :: r, os, n, hb, hl, hr, h => by
    have ih := fun os h => outs_ok (Z := Z) (B := B) (g := g) hN hD (es := es) (vs := vs) (r := r) (os := os) (n + 1) (fun i u q => by
      have := hb (i + 1) u q
      rw [show n + 1 + i = n + (i + 1) by omega]
      exact this) (Nat.succ.inj hl) (fun i u q => by
      have := hr (i + 1) u q
      rw [show n + 1 + i = n + (i + 1) by omega]
      exact this) h
    have nt : (∀ u, e ≠ .t u) → outs es r = some os → lentV (e :: es) (v :: vs) = lentV es vs → ∃ fps, OUs Z g os (lentV (e :: es) (v :: vs)) fps ∧ fps.Nodup ∧ (∀ a ∈ fps, ∃ i, n ≤ i ∧ a ∈ F i) ∧ LOU Z g F n (e :: es) os (v :: vs) := fun ne h q => by
      obtain ⟨fps, h1, h2, h3, h4⟩ := ih os h
      rw [q]
      refine ⟨fps, h1, h2, (fun a m => let ⟨i, hi, ha⟩ := h3 a m; ⟨i, by omega, ha⟩), ?_⟩
      cases e with
      | t u => exact absurd rfl (ne u)
      | _ => exact h4
    cases e with
    | no => exact nt (fun _ z => nomatch z) h rfl
    | m u => exact nt (fun _ z => nomatch z) h rfl
    | x c ks ws => exact nt (fun _ z => nomatch z) h rfl
    | t u =>
      cases x with
      | no => cases h
      | m _ => cases h
      | x _ _ _ => cases h
      | t u' =>
        obtain ⟨os', h', rfl⟩ := Option.map_eq_some_iff.mp (show (outs es r).map (u' :: ·) = some os from h)
        obtain ⟨fps, h1, h2, h3, h4⟩ := ih os' h'
        obtain ⟨w, hw, ho⟩ := hr 0 u' rfl
        have hv := hb 0 u rfl
        rw [hw] at hv
        cases hv
        refine ⟨F n ++ fps, ⟨v, lentV es vs, F n, fps, rfl, ho, h1, rfl⟩, ?_, (fun a m => ?_), ⟨u', os', rfl, ho, h4⟩⟩
        · rw [List.nodup_append]
          refine ⟨hN n, h2, fun a m b m' e => ?_⟩
          subst e
          obtain ⟨i, hi, ha⟩ := h3 a m'
          have := hD n i a m ha
          omega
        · rcases List.mem_append.mp m with m | m
          · exact ⟨n, Nat.le_refl n, m⟩
          · obtain ⟨i, hi, ha⟩ := h3 a m
            exact ⟨i, by omega, ha⟩
theorem RE.outs {Z : Kx} {B : Nat → Option V} {g : Sg} {F : Fp} {r : Env} {σ : L2.St} {es : List En} {vs : List V} {os : List U} (re : RE Z B none g r σ F) (hb : ∀ i u, es[i]? = some (.t u) → B i = vs[i]?) (hl : es.length = vs.length) (h : FM.outs es r = some os) :
    ∃ fps, OUs Z g os (lentV es vs) fps ∧ fps.Nodup ∧ (∀ a ∈ fps, ¬ g.L a ∧ ∃ i, a ∈ F i) ∧ LOU Z g F 0 es os vs := by
  obtain ⟨fps, h1, h2, h3, h4⟩ := outs_ok (Z := Z) (B := B) (g := g) (F := F) re.nod re.dis 0 (fun i u q => by rw [Nat.zero_add]; exact hb i u q) hl (fun i u q => by
    rw [Nat.zero_add]
    obtain ⟨o, _, v, h1, _, h2⟩ := re.at_ i _ q
    exact ⟨v, h1, h2⟩) h
  exact ⟨fps, h1, h2, (fun a m => let ⟨i, _, ha⟩ := h3 a m; ⟨re.nl i a ha, i, ha⟩), h4⟩
theorem nth_map {D : List DD} {f : Nat} {d : DD} (h : D[f]? = some d) : nth (D.map DD.fd) f = some d.fd := by
  rw [nth_iff, List.getElem?_map, h]
  rfl

section
variable {Pr : Program} {wo : World} {K : PySem.W.Frag} {mg : Str → Option Value} {base : Heap} {P : Pg} {D : List DD} {F m : Nat} {fa : Nat → Addr} {fd : Nat → FuncData} {ca : Nat → Addr}
/-- a call that leaves arguments to their defaults -/
structure Dfl (K : PySem.W.Frag) (ca : Nat → Addr) (fd : FuncData) (ps : List Str) (n : Nat) (ds : List W) : Prop where
  ex : ∃ (dV : List Value) (dvs : List V), Binds K fd ps dV ∧ Vals dvs dV ∧ (∀ g, RWs ⟨K, ca⟩ g ds dvs) ∧ ps.length = n + ds.length
/-- all that is known of a program's defs in the written part -/
structure Defs (Pr : Program) (K : PySem.W.Frag) (mg : Str → Option Value) (P : Pg) (D : List DD) (m : Nat) (fa : Nat → Addr) (fd : Nat → FuncData) (dv : Nat → List V) (ca : Nat → Addr) : Prop where
  ck : ∀ (f : Nat) (d : DD), D[f]? = some d → ckD P m d = true
  fn : ∀ (f : Nat) (d : DD), D[f]? = some d → FunD K d.x d.q (defArgs d.st) (defBody d.st) (defScope d.st) (dv f) [] (fa f) (fd f)
  fns : ∀ (x : Str) (f : Nat) (ps : List Str), P.fns.lookup x = some (f, ps) → ∃ d : DD, D[f]? = some d ∧ d.ps = ps ∧ mg x = some (.ref (fa f)) ∧ Binds K (fd f) d.ps []
  dfl : ∀ n f k ds, (n, f, k, ds) ∈ P.dfl → ∃ d : DD, D[f]? = some d ∧ mg n = some (.ref (fa f)) ∧ Dfl K ca (fd f) d.ps k ds
  mks : ∀ n cl f k ds, (n, cl, f, k, ds) ∈ P.mks → ∃ d : DD, D[f]? = some d ∧ mg n = some (.ref (ca cl)) ∧ Mk K (ca cl) (fa f) ∧ Dfl K ca (fd f) d.ps (k + 1) ds
  mts : ∀ cl mm f k ds, (cl, mm, f, k, ds) ∈ P.mts → ∃ d : DD, D[f]? = some d ∧ Cls K (ca cl) ∧ mm < 2 ^ 512 ∧ Meth K (ca cl) (nmS mm) (fa f) ∧ Dfl K ca (fd f) d.ps (k + 1) ds
  prs : ∀ cl n f, (cl, n, f) ∈ P.prs → ∃ d : DD, D[f]? = some d ∧ Cls K (ca cl) ∧ (∃ pa, PropOf K (ca cl) n pa (fa f)) ∧ d.ps.length = 1 ∧ Binds K (fd f) d.ps []
  lns : ∀ cl f, (cl, f) ∈ P.lns → ∃ d : DD, D[f]? = some d ∧ Meth K (ca cl) "__len__" (fa f) ∧ d.ps.length = 1 ∧ Binds K (fd f) d.ps []
  wr : Wr P Pr K mg ca
  dn : ∀ (f : Nat) (d : DD), D[f]? = some d → d.ds = [] → dv f = []
theorem Defs.ok {dv : Nat → List V} (B : Defs Pr K mg P D m fa fd dv ca) : ∀ (n f : Nat) (d : DD), D[f]? = some d → FnOk Pr wo K mg base (L2.CX Pr wo) (2 * n) (fa f) (fd f) d.ps (spOf ⟨K, ca⟩ (callF (D.map DD.fd) F n) f d.ps.length)
  | 0, f, d, hd => ⟨fun vs H Q E h => sp_len h, fun A outer s H args us vs Q E _ _ _ _ h => by
      obtain ⟨g, es, Fa, B', _, _, _, _, e⟩ := h
      exact False.elim e⟩
  | n + 1, f, d, hd => by
    have ih := Defs.ok (B := B) n
    have hc := B.ck f d hd
    unfold ckD at hc
    rw [Bool.and_eq_true] at hc
    have S := scB_ok hc.1
    refine FunD.ok (k := 2 * n + 1) (B.fn f d hd) S (fun vs H Q E h => sp_len h) fun cdv A outer s H vs Q E hr h => ?_
    have hvl := sp_len h
    obtain ⟨g, es, Fa, B', rfl, hl, re, hb, co⟩ := h
    have G : Good P (callF (D.map DD.fd) F n) ⟨d.N, defScope d.st, true, true⟩ ⟨cxOf (L2.CX Pr wo) Pr wo K mg base d.N d.q (defScope d.st) (fa f) cdv A outer s g.H E, ca, fun cls d _ H => E cls d H, B', none⟩ := by
      refine ⟨rfl, rfl, S.kind, S.nd, ?_, fun _ => hr.mono (Nat.zero_le _), fun _ _ => rfl, fun _ x f' ps hx => ?_, fun _ => ⟨fun n1 f' k1 ds1 hx => ?_, fun n1 cl f' k1 ds1 hx => ?_, fun cl m1 f' k1 ds1 hx => ?_, fun cl n1 f' hx => ?_, fun cl f' hx => ?_⟩, B.wr, fun _ => ⟨rfl, passes_of rfl⟩, takes_of rfl rfl rfl rfl, fun _ _ => ⟨rfl, rfl, rfl⟩, fun z => by cases z⟩
      · have := hr.un
        show (A.deeper _).units + 64 < cLine
        omega
      · obtain ⟨d', hd', rfl, hm, bd⟩ := B.fns x f' ps hx
        exact ⟨2 * n, fa f', fd f', ih f' d' hd', hr.mono (Nat.le_succ _), hm, (B.fn f' d' hd').kp, bd⟩
      · obtain ⟨d', hd', hm, dV, dvs, b1, b2, b3, b4⟩ := B.dfl _ _ _ _ hx
        exact ⟨2 * n, fa f', fd f', d'.ps, dV, dvs, ih f' d' hd', hr.mono (Nat.le_succ _), hm, (B.fn f' d' hd').kp, b1, b2, b3, b4⟩
      · obtain ⟨d', hd', hm, mk, dV, dvs, b1, b2, b3, b4⟩ := B.mks _ _ _ _ _ hx
        exact ⟨hm, 2 * n, fa f', fd f', d'.ps, dV, dvs, ih f' d' hd', hr, mk, b1, b2, b3, b4⟩
      · obtain ⟨d', hd', hc', hm, mt, dV, dvs, b1, b2, b3, b4⟩ := B.mts _ _ _ _ _ hx
        exact ⟨hc', hm, 2 * n, fa f', fd f', d'.ps, dV, dvs, ih f' d' hd', hr, mt, b1, b2, b3, b4⟩
      · obtain ⟨d', hd', hc', ⟨pa, hp⟩, hl', bd⟩ := B.prs _ _ _ hx
        exact ⟨hc', 2 * n, pa, fa f', fd f', d'.ps, ih f' d' hd', hr, hp, bd, hl'⟩
      · obtain ⟨d', hd', mt, hl', bd⟩ := B.lns _ _ hx
        exact ⟨2 * n, fa f', fd f', d'.ps, ih f' d' hd', hr, mt, bd, hl'⟩
    obtain ⟨t, p, i⟩ := (snd P (callF (D.map DD.fd) F n) F m).S G hc.2
    refine ⟨t, p, ?_⟩
    refine i g (es ++ pad (d.N.length - es.length)) (start d.N vs) Fa _ (re_start re) ?_
    have e2 : COk ⟨K, ca⟩ g Fa vs es Q E (if Nat.beq es.length d.ps.length then ((lvl (callF (D.map DD.fd) F n) F).S d.body (es ++ pad (d.N.length - d.ps.length))).val es else .bad) := by
      have co := co
      unfold callF at co
      rw [nth_map hd] at co
      exact co
    rw [hl, Nat.beq_refl, if_pos rfl] at e2
    rw [hl]
    have hel : es.length = vs.length := hl.trans hvl.symm
    cases hb' : (lvl (callF (D.map DD.fd) F n) F).S d.body (es ++ pad (d.N.length - d.ps.length)) with
    | nx r1 =>
      rw [hb'] at e2
      intro g' F' σ t1 re1
      dsimp only [SRes.val] at e2
      cases ho : outs es r1 with
      | none => rw [ho] at e2; exact False.elim e2
      | some os =>
        rw [ho] at e2
        obtain ⟨fps, o1, o2, o3, o4⟩ := re1.outs hb hel ho
        exact e2 g' F' .non [] fps t1 re1.la o1 o2 o3 re1.dis ⟨re1.nod, re1.nl, o4⟩ ⟨rfl, rfl⟩ tmp_nil fun _ m => nomatch m
    | rt u r1 =>
      rw [hb'] at e2
      intro g' F' σ v fp t1 re1 ou tm sr
      dsimp only [SRes.val] at e2
      cases ho : outs es r1 with
      | none => rw [ho] at e2; exact False.elim e2
      | some os =>
        rw [ho] at e2
        obtain ⟨fps, o1, o2, o3, o4⟩ := re1.outs hb hel ho
        exact e2 g' F' v fp fps t1 re1.la o1 o2 o3 re1.dis ⟨re1.nod, re1.nl, o4⟩ ou tm sr
    | ex x r1 =>
      rw [hb'] at e2
      intro σ g' F' dd xs t1 re1 xd ld rw
      dsimp only [SRes.val] at e2
      cases ho : outs es r1 with
      | none => rw [ho] at e2; exact False.elim e2
      | some os =>
        rw [ho] at e2
        obtain ⟨fps, o1, o2, o3, o4⟩ := re1.outs hb hel ho
        exact e2 g' F' dd xs fps t1 re1.la o1 o2 o3 re1.dis ⟨re1.nod, re1.nl, o4⟩ xd ld rw
    | bk _ => rw [hb'] at e2; exact False.elim e2
    | ct _ => rw [hb'] at e2; exact False.elim e2
    | bad => rw [hb'] at e2; exact False.elim e2
end
end FM


set_option Elab.async false
set_option linter.all false
set_option maxRecDepth 100000
set_option maxHeartbeats 2000000
namespace FM
open PySem L2 PySem.OwnX

/-! ### the built-in bases -/
def baseB : Nat → String
  | 0 => "ValueError" | 1 => "LookupError" | 2 => "RuntimeError" | _ => "OverflowError"
def baseN : Nat → String
  | 0 => "ValueError.__new__" | 1 => "LookupError.__new__" | 2 => "RuntimeError.__new__" | _ => "OverflowError.__new__"
def baseI : Nat → String
  | 0 => "ValueError.__init__" | 1 => "LookupError.__init__" | 2 => "RuntimeError.__init__" | _ => "OverflowError.__init__"
def baseM : Nat → List Value
  | 0 => [.type "ValueError", .type "Exception", .type "BaseException", .type "object"]
  | 1 => [.type "LookupError", .type "Exception", .type "BaseException", .type "object"]
  | 2 => [.type "RuntimeError", .type "Exception", .type "BaseException", .type "object"]
  | _ => [.type "OverflowError", .type "ArithmeticError", .type "Exception", .type "BaseException", .type "object"]
theorem base_ok : ∀ n : Nat, BaseX (baseB n) (baseN n) (baseI n) (baseM n)
  | 0 => ⟨F.excBase_ValueError, F.store_ValueError, PySem.W.kxs_ValueError⟩
  | 1 => ⟨F.excBase_LookupError, F.store_LookupError, PySem.W.kxs_LookupError⟩
  | 2 => ⟨F.excBase_RuntimeError, F.store_RuntimeError, PySem.W.kxs_RuntimeError⟩
  | _ + 3 => ⟨F.excBase_OverflowError, F.store_OverflowError, PySem.W.kxs_OverflowError⟩

/-- an exception class of the text: its name, number, field, base, its __init__ -/
structure XDf where
  n : Str
  c : Nat
  k : Nat
  b : Nat
  st : Stmt
/-- what its text says -/
structure XSyn (x : XDf) : Prop where
  arg : ∃ p1 p2, defArgs x.st = iA (nmS x.k) p1 p2
  bod : ∃ q1 q2 q3 q4 q5 q6 q7 q8 q9 q10, defBody x.st = iB (nmS x.k) q1 q2 q3 q4 q5 q6 q7 q8 q9 q10 ∧ (q3.endLine == q5.line) = true
  bi : ∀ (q : Str) (doc pm : Value) (an : Option Addr) (cdv ct : Value) (cc : Addr) (a v : Value), bindArgs (PySem.W.ksFn "__init__" q (defArgs x.st) (defBody x.st) (defScope x.st) .none .none doc pm an cdv ct cc) ⟨[a, v], []⟩ = pure [(("self" : Str), a), (nmS x.k, v)]
  fne : nmS x.k ≠ "self" ∧ (nmS x.k == ("__debug__" : Str)) = false
  sk : (defScope x.st).kind = .function
  sco : (defScope x.st).isCoroutine = false
  sge : (defScope x.st).isGenerator = false
  ssu : (defScope x.st).names.lookup ("super" : Str) = some .globalImplicit
  scl : (defScope x.st).names.lookup ("__class__" : Str) = some .free
  sse : (defScope x.st).names.lookup ("self" : Str) = some .local
  sfl : (defScope x.st).names.lookup (nmS x.k) = some .local
  snc : ∀ y ∈ (defScope x.st).names, y.2 ≠ .cell
def nmOf (l : List (Str × Nat)) (c : Nat) : Str := ((l.find? fun q => Nat.beq q.2 c).map (·.1)).getD ""
def caOf (P : Pg) (K : PySem.W.Frag) (c : Nat) : Addr := He.ga K (nmOf P.oc c)
/-- all but the text of a function -/
def fdB (K : PySem.W.Frag) (file : Str) (C : Addr) (fd : FuncData) : Bool := decide (fd.name = "__init__") && decide (fd.globals = mainGlobals) && decide (fd.defaults = .none) && decide (fd.kwdefaults = .none) && decide (fd.builtins = builtinsNs) &&
  (match fd.closure with
   | [(x, cc)] => decide (x = "__class__") && (match K.lookup cc with | some ⟨_, _, .cell (some v), _⟩ => decide (v = .ref C) | _ => false)
   | _ => false) &&
  (match fd.code with
   | .ref cda => PySem.W.codeIn K (.ref cda) fd.qualname && (match K.lookup cda with
     | some ⟨_, _, .fields vs, _⟩ => (match (vs[2]? : Option Value) with | some (.str f _) => file == f | _ => false)
     | _ => false)
   | _ => false)
theorem fdB_ok {K : PySem.W.Frag} {file : Str} {C : Addr} {fd : FuncData} (h : fdB K file C fd = true) : ∃ (cda cc : Addr), fd = { name := "__init__", qualname := fd.qualname, params := fd.params, body := fd.body, scope := fd.scope, globals := mainGlobals, closure := [("__class__", cc)], defaults := .none, kwdefaults := .none, doc := fd.doc, pyModule := fd.pyModule, annotations := fd.annotations, code := .ref cda, closureTuple := fd.closureTuple, builtins := builtinsNs } ∧
    PySem.W.codeIn K (.ref cda) fd.qualname = true ∧ (∃ ccl cdd vs ccs f tf, K.lookup cda = some ⟨ccl, cdd, .fields vs, ccs⟩ ∧ vs[2]? = some (.str f tf) ∧ (file == f) = true) ∧ ∃ cl cld csl, K.lookup cc = some ⟨cl, cld, .cell (some (.ref C)), csl⟩ := by
  obtain ⟨nm, qn, pa, bd, sc, gl, cls, df, kd, doc, pm, an, cd, ct, bl⟩ := fd
  unfold fdB at h
  simp only [Bool.and_eq_true, decide_eq_true_eq] at h
  obtain ⟨⟨⟨⟨⟨⟨rfl, rfl⟩, rfl⟩, rfl⟩, rfl⟩, h1⟩, h2⟩ := h
  rcases cls with _ | ⟨⟨x, cc⟩, _ | ⟨_, _⟩⟩
  · cases h1
  rotate_left
  · cases h1
  cases cd with
  | ref cda =>
    dsimp only at h1 h2
    rw [Bool.and_eq_true, decide_eq_true_eq] at h1
    obtain ⟨rfl, h1⟩ := h1
    rw [Bool.and_eq_true] at h2
    obtain ⟨h3, h4⟩ := h2
    cases hlk : K.lookup cc with
    | none => rw [hlk] at h1; cases h1
    | some oc =>
      rw [hlk] at h1
      obtain ⟨cl, cld, da, csl⟩ := oc
      cases da with
      | cell ov =>
        cases ov with
        | none => cases h1
        | some v =>
          have := of_decide_eq_true h1
          subst this
          cases hv : K.lookup cda with
          | none => rw [hv] at h4; cases h4
          | some od =>
            rw [hv] at h4
            obtain ⟨cl2, cld2, da2, csl2⟩ := od
            cases da2 with
            | fields vs =>
              dsimp only at h4
              cases hf : (vs[2]? : Option Value) with
              | none => rw [hf] at h4; cases h4
              | some u =>
                rw [hf] at h4
                cases u with
                | str f tf => exact ⟨cda, cc, rfl, h3, ⟨_, _, _, _, _, _, hv, hf, h4⟩, _, _, _, hlk⟩
                | _ => cases h4
            | _ => cases h4
      | _ => cases h1
  | _ => cases h2
def initFd (K : PySem.W.Frag) (C : Addr) : Option FuncData := match K.lookup (He.ma K C "__init__") with
  | some ⟨_, _, .func fd, _⟩ => some fd
  | _ => none
def eqT (a : Option Bool) (b : Bool) : Bool := match a with
  | some c => c == b
  | none => false
theorem eqT_ok {a : Option Bool} {b : Bool} (h : eqT a b = true) : a = some b := by
  cases a with
  | none => cases h
  | some c => rw [show c = b from eq_of_beq h]
/-- the facts of a class -/
def xB (file : Str) (P : Pg) (K : PySem.W.Frag) (x : XDf) : Bool :=
  He.eqO (PySem.W.nsIn K mainGlobals x.n) (some (some (.ref (caOf P K x.c)))) && PySem.W.excInitIn K (caOf P K x.c) (baseM x.b) (baseN x.b) && PySem.W.excOver K (caOf P K x.c) (baseM x.b) && PySem.W.hasDictIn K (caOf P K x.c) &&
  He.eqO (PySem.W.findIn K (.ref (caOf P K x.c)) "__setattr__") (some (some (.builtin "object.__setattr__"))) && He.eqO (PySem.W.findIn K (.ref (caOf P K x.c)) "__getattribute__") (some (some (.builtin "BaseException.__getattribute__"))) && He.eqO (PySem.W.findIn K (.ref (caOf P K x.c)) "__getattr__") (some none) &&
  He.eqO (PySem.W.findIn K (.ref (caOf P K x.c)) (nmS x.k)) (some none) && decide (PySem.W.takerIn K (caOf P K x.c) (nmS x.k) = some none) && He.eqO (PySem.W.findIn K (.ref (caOf P K x.c)) "__init__") (some (some (.ref (He.ma K (caOf P K x.c) "__init__")))) &&
  PySem.W.isFn K (.ref (He.ma K (caOf P K x.c) "__init__")) && PySem.W.keepIn K (.ref (caOf P K x.c)) && eqT (PySem.W.subIn K (.ref (caOf P K x.c)) (.type "BaseException")) true && eqT (PySem.W.subIn K (.ref (caOf P K x.c)) (.type (baseB x.b))) true && eqT (PySem.W.mroIn K (caOf P K x.c) (.ref (caOf P K x.c))) true &&
  decide (PySem.W.typeIn K (.ref (caOf P K x.c)) = some (.type "type")) && He.eqO (PySem.W.nsIn K cStatics "thirdparty.any") (some none) && He.eqO (PySem.W.nsIn K mainGlobals "super") (some none) && He.eqO (PySem.W.ks_superIn K (caOf P K x.c) (caOf P K x.c) "__init__") (some (some (.builtin (baseI x.b)))) &&
  (match initFd K (caOf P K x.c) with | some fd => fdB K file (caOf P K x.c) fd | none => false) &&
  He.eqO (PySem.W.findIn K (.ref (caOf P K x.c)) "__class__") (some (some (.builtin "object.__class__"))) && He.eqO (PySem.W.specialIn K (.builtin "object.__class__") "__get__") (some (some (.builtin "getset_descriptor.__get__"))) && eqT (PySem.W.takesIn K (.builtin "object.__class__")) true && eqT (PySem.W.mroIn K (caOf P K x.c) (.type "object")) true
/-- its text -/
def xT (P : Pg) (K : PySem.W.Frag) (x : XDf) : Option (Arguments × FuncBody × Scope) := (initFd K (caOf P K x.c)).map fun fd => (fd.params, fd.body, fd.scope)
def xV (x : XDf) : Option (Arguments × FuncBody × Scope) := some (defArgs x.st, .stmts (defBody x.st), defScope x.st)
theorem x_ok {Pr : Program} {P : Pg} {K : PySem.W.Frag} {h : Heap} {mg : Str → Option Value} {x : XDf} (X : K.In h) (G : h.Ns mainGlobals mg) (hf : (Pr.main.scope.names.lookup ("super" : Str)).isSome = false) (sy : XSyn x) (c : xB Pr.main.file P K x = true) (t : xT P K x = xV x) : XcAt Pr K mg (caOf P K) x.n x.c x.k := by
  unfold xB at c
  simp only [Bool.and_eq_true] at c
  obtain ⟨⟨⟨⟨⟨⟨⟨⟨⟨⟨⟨⟨⟨⟨⟨⟨⟨⟨⟨⟨⟨⟨⟨c1, c2⟩, c3⟩, c4⟩, c5⟩, c6⟩, c7⟩, c8⟩, c9⟩, c10⟩, c11⟩, c12⟩, c13⟩, c14⟩, c15⟩, c16⟩, c17⟩, c18⟩, c19⟩, c20⟩, c21⟩, c22⟩, c23⟩, c24⟩ := c
  have c13 := eqT_ok c13
  refine ⟨⟨He.ma K (caOf P K x.c) "__init__", defScope x.st, defArgs x.st, defBody x.st, baseB x.b, baseN x.b, baseI x.b, baseM x.b, ?_⟩, He.eqO_ok c6, He.eqO_ok c7, c13, c4, He.eqO_ok c21, He.eqO_ok c22, eqT_ok c23, eqT_ok c24⟩
  have fn : ∃ (oc : Value) (od : Option Addr) (q : Str) (doc pm : Value) (an : Option Addr) (cda cc : Addr) (ct : Value) (osl : Array (Option Value)),
    K.lookup (He.ma K (caOf P K x.c) "__init__") = some ⟨oc, od, .func (PySem.W.ksFn "__init__" q (defArgs x.st) (defBody x.st) (defScope x.st) .none .none doc pm an (.ref cda) ct cc), osl⟩ ∧ PySem.W.codeIn K (.ref cda) q = true ∧
    (∃ ccl cdd vs ccs file tf, K.lookup cda = some ⟨ccl, cdd, .fields vs, ccs⟩ ∧ vs[2]? = some (.str file tf) ∧ ((Pr.main.file : Str) == file) = true) ∧
    ∃ cl cld csl, K.lookup cc = some ⟨cl, cld, .cell (some (.ref (caOf P K x.c))), csl⟩ := by
    split at c20
    · rename_i fd hfd
      obtain ⟨cda, cc, e, h1, h2, h3⟩ := fdB_ok c20
      unfold xT xV at t
      rw [hfd] at t
      have t := Option.some.inj t
      obtain ⟨t1, t2⟩ := Prod.mk.inj t
      obtain ⟨t2, t3⟩ := Prod.mk.inj t2
      unfold initFd at hfd
      split at hfd
      · rename_i oc od fd' osl hl
        cases hfd
        rw [t1, t2, t3] at e
        rw [e] at hl
        exact ⟨oc, od, fd.qualname, fd.doc, fd.pyModule, fd.annotations, cda, cc, fd.closureTuple, osl, hl, h1, h2, h3⟩
      · cases hfd
    · cases c20
  exact { bx := base_ok x.b, gC := PySem.W.mg_of X G (He.eqO_ok c1), cls := c2, ov := c3, hdC := c4, sa := He.eqO_ok c5, ga := He.eqO_ok c6, gg := He.eqO_ok c7, noN := He.eqO_ok c8, tk := of_decide_eq_true c9, iC := He.eqO_ok c10, tC := c11, kC := c12, exC := c13, exB := eqT_ok c14, slf := eqT_ok c15, tyC := of_decide_eq_true c16, th := He.eqO_ok c17, su := PySem.W.mg_none_of X G (He.eqO_ok c18), sI := He.eqO_ok c19, fn := fn, top := hf, arg := sy.arg, bod := sy.bod, bi := sy.bi, fne := sy.fne, sk := sy.sk, sco := sy.sco, sge := sy.sge, ssu := sy.ssu, scl := sy.scl, sse := sy.sse, sfl := sy.sfl, snc := sy.snc }
end FM


set_option Elab.async false
set_option linter.all false
set_option maxRecDepth 100000
set_option maxHeartbeats 2000000
namespace FM
open PySem L2 PySem.OwnX
/-! ### the module's constants -/
mutual
def wB (K : PySem.W.Frag) : W → Value → Bool
  | .non, .none => true
  | .bl b, .bool c => b == c
  | .int i, .int j _ => decide (i = j)
  | .str s, .str y _ => decide (y = sv s)
  | .tup ws, .ref a => (match K.lookup a with
    | some ⟨.type c, none, .seq its _, _⟩ => decide (c = "tuple") && decide (its.size ≤ sizeLine) && wsB K ws its.toList
    | _ => false)
  | _, _ => false
def wsB (K : PySem.W.Frag) : List W → List Value → Bool
  | [], [] => true
  | w :: ws, v :: vs => wB K w v && wsB K ws vs
  | _, _ => false
end
mutual
theorem wB_ok {K : PySem.W.Frag} {ca : Nat → Addr} : ∀ {w : W} {u : Value}, wB K w u = true → ∃ v, RelV v u ∧ ∀ g, RW ⟨K, ca⟩ g w v
  | .non, u, h => by
    cases u with
    | none => exact ⟨.non, rfl, fun _ => rfl⟩
    | _ => simp [wB] at h
  | .bl b, u, h => by
    cases u with
    | bool c =>
      simp only [wB] at h
      have e := eq_of_beq h
      subst e
      exact ⟨.bl b, rfl, fun _ => rfl⟩
    | _ => simp [wB] at h
  | .int b, u, h => by
    cases u with
    | int c t =>
      simp only [wB] at h
      have e := of_decide_eq_true h
      subst e
      exact ⟨.int b, ⟨_, rfl⟩, fun _ => rfl⟩
    | _ => simp [wB] at h
  | .str b, u, h => by
    cases u with
    | str c t =>
      simp only [wB] at h
      have e := of_decide_eq_true h
      subst e
      exact ⟨.str (sv b), ⟨_, rfl⟩, fun _ => rfl⟩
    | _ => simp [wB] at h
  | .tup ws, u, h => by
    cases u with
    | ref a =>
      simp only [wB] at h
      split at h
      · rename_i c its n sl hl
        simp only [Bool.and_eq_true, decide_eq_true_eq] at h
        obtain ⟨⟨rfl, h1⟩, h2⟩ := h
        obtain ⟨vs, r, q⟩ := wsB_ok (ca := ca) h2
        exact ⟨.ref a, rfl, fun g => ⟨a, vs, rfl, ⟨.inr ⟨_, its, n, hl, rfl, rfl, h1, r⟩, .inr ⟨_, hl, rfl⟩⟩, q g⟩⟩
      · cases h
    | _ => simp [wB] at h
  | .lis ws, u, h => by cases u <;> simp [wB] at h
  | .scr ws, u, h => by cases u <;> simp [wB] at h
  | .dic _ _, u, h => by cases u <;> simp [wB] at h
  | .obj _ _ _, u, h => by cases u <;> simp [wB] at h
theorem wsB_ok {K : PySem.W.Frag} {ca : Nat → Addr} : ∀ {ws : List W} {us : List Value}, wsB K ws us = true → ∃ vs, Vals vs us ∧ ∀ g, RWs ⟨K, ca⟩ g ws vs
  | [], [], _ => ⟨[], .nil, fun _ => rfl⟩
  | [], _ :: _, h => by simp [wsB] at h
  | _ :: _, [], h => by simp [wsB] at h
  | w :: ws, u :: us, h => by
    simp only [wsB, Bool.and_eq_true] at h
    obtain ⟨v, r1, q1⟩ := wB_ok (ca := ca) h.1
    obtain ⟨vs, r2, q2⟩ := wsB_ok (ca := ca) h.2
    exact ⟨v :: vs, .cons r1 r2, fun g => ⟨v, vs, rfl, q1 g, q2 g⟩⟩
end
/-! ### defs where they stand -/
def Wh.adr (K : PySem.W.Frag) : Wh → Addr
  | .glo x => He.ga K x
  | .met c m => He.ma K (He.ga K c) m
  | .prp c n => (match PySem.W.recIn K (He.ma K (He.ga K c) n) "property" with
    | some (.ref g :: _) => g
    | _ => 0)
def dvB (K : PySem.W.Frag) : List W → Value → Bool
  | [], .none => true
  | w :: ws, .ref T => (match K.lookup T with
    | some ⟨_, _, .seq its _, _⟩ => wsB K (w :: ws) its.toList
    | _ => false)
  | _, _ => false
theorem dvB_ok {K : PySem.W.Frag} {ca : Nat → Addr} {ds : List W} {dV : Value} (h : dvB K ds dV = true) : ∃ dvs, DflV K dV dvs ∧ ∀ g, RWs ⟨K, ca⟩ g ds dvs := by
  cases ds with
  | nil =>
    cases dV with
    | none => exact ⟨[], .inl ⟨rfl, rfl⟩, fun _ => rfl⟩
    | _ => cases h
  | cons w ws =>
    cases dV with
    | ref T =>
      have h : (match K.lookup T with
        | some ⟨_, _, .seq its _, _⟩ => wsB K (w :: ws) its.toList
        | _ => false) = true := h
      cases hl : K.lookup T with
      | none => rw [hl] at h; cases h
      | some o =>
        rw [hl] at h
        obtain ⟨c, d, da, sl⟩ := o
        cases da with
        | seq its n =>
          have h : wsB K (w :: ws) its.toList = true := h
          obtain ⟨vs, r, q⟩ := wsB_ok (ca := ca) h
          refine ⟨vs, .inr ⟨fun e => ?_, T, _, its.toList, n, rfl, hl, by simp, r⟩, q⟩
          subst e
          obtain ⟨x, rr, e, _⟩ := q ⟨fun _ => none, fun _ => False⟩
          cases e
        | _ => cases h
    | _ => cases h
def DD.ob (K : PySem.W.Frag) (d : DD) : He.FnW := match K.lookup (d.wh.adr K) with
  | some ⟨_, _, .func fd, _⟩ => some (fd.name, fd.qualname, fd.params, fd.body, fd.scope, fd.globals, fd.closure, fd.builtins)
  | _ => none
def DD.vl (d : DD) : He.FnW := some (d.x, d.q, defArgs d.st, .stmts (defBody d.st), defScope d.st, mainGlobals, [], builtinsNs)
def DD.bb (K : PySem.W.Frag) (d : DD) : Bool := PySem.W.keepIn K (.ref (d.wh.adr K)) && (match K.lookup (d.wh.adr K) with
  | some ⟨_, _, .func fd, _⟩ => PySem.W.codeIn K fd.code d.q && dvB K d.ds fd.defaults
  | _ => false)
theorem DD.ok {K : PySem.W.Frag} {ca : Nat → Addr} {d : DD} (e : d.ob K = d.vl) (c : d.bb K = true) : ∃ fd dvs, FunD K d.x d.q (defArgs d.st) (defBody d.st) (defScope d.st) dvs [] (d.wh.adr K) fd ∧ ∀ g, RWs ⟨K, ca⟩ g d.ds dvs := by
  unfold DD.bb at c
  rw [Bool.and_eq_true] at c
  obtain ⟨kp, c⟩ := c
  unfold DD.ob DD.vl at e
  cases q : K.lookup (d.wh.adr K) with
  | none => rw [q] at c; cases c
  | some o =>
    obtain ⟨oc, od, dt, osl⟩ := o
    rw [q] at c e
    cases dt with
    | func fd =>
      obtain ⟨n1, n2, n3, n4, n5, n6, n7, n8, n9, n10, n11, n12, n13, n14, n15⟩ := fd
      dsimp only at c e
      simp only [Option.some.injEq, Prod.mk.injEq] at e
      obtain ⟨rfl, rfl, rfl, rfl, rfl, rfl, rfl, rfl⟩ := e
      rw [Bool.and_eq_true] at c
      obtain ⟨dvs, h1, h2⟩ := dvB_ok (ca := ca) c.2
      exact ⟨_, dvs, ⟨⟨oc, od, n8, n9, n10, n11, n12, n13, n14, osl, rfl, q, c.1, h1, .inl rfl⟩, kp⟩, h2⟩
    | _ => cases c
end FM


set_option Elab.async false
set_option linter.all false
set_option maxRecDepth 100000
set_option maxHeartbeats 2000000
/-! What the written part says of constants, classes, fields. -/
namespace FM
open PySem L2 PySem.OwnX
def cstB (K : PySem.W.Frag) (q : Str × W) : Bool := match PySem.W.nsIn K mainGlobals q.1 with
  | some (some u) => wB K q.2 u
  | _ => false
theorem cstB_ok {K : PySem.W.Frag} {ca : Nat → Addr} {h : Heap} {mg : Str → Option Value} {q : Str × W} (X : K.In h) (G : h.Ns mainGlobals mg) (c : cstB K q = true) : ∃ u v, mg q.1 = some u ∧ RelV v u ∧ ∀ g, RW ⟨K, ca⟩ g q.2 v := by
  unfold cstB at c
  split at c
  · rename_i u hu
    obtain ⟨v, r, z⟩ := wB_ok (ca := ca) c
    exact ⟨u, v, PySem.W.mg_of X G hu, r, z⟩
  · cases c
def isbB (P : Pg) (K : PySem.W.Frag) (q : Nat × Str × Bool) : Bool := match PySem.W.nsIn K mainGlobals q.2.1 with
  | some (some cv) => eqT (PySem.W.kitOne K (.ref (caOf P K q.1)) cv) q.2.2
  | some none => (match bootBuiltins q.2.1 with
    | some cv => eqT (PySem.W.kitOne K (.ref (caOf P K q.1)) cv) q.2.2
    | none => false)
  | none => false
theorem isbB_ok {P : Pg} {K : PySem.W.Frag} {h : Heap} {mg : Str → Option Value} {q : Nat × Str × Bool} (X : K.In h) (G : h.Ns mainGlobals mg) (c : isbB P K q = true) : ∀ cv, (mg q.2.1 = some cv ∨ (mg q.2.1 = none ∧ bootBuiltins q.2.1 = some cv)) → PySem.W.kitOne K (.ref (caOf P K q.1)) cv = some q.2.2 := by
  intro cv hc
  unfold isbB at c
  cases e : PySem.W.nsIn K mainGlobals q.2.1 with
  | none => rw [e] at c; cases c
  | some o =>
    rw [e] at c
    cases o with
    | some u =>
      have := PySem.W.mg_of X G e
      rcases hc with hc | ⟨hc, _⟩
      · rw [this] at hc; cases hc; exact eqT_ok c
      · rw [this] at hc; cases hc
    | none =>
      have := PySem.W.mg_none_of X G e
      rcases hc with hc | ⟨_, hc⟩
      · rw [this] at hc; cases hc
      · rw [hc] at c; exact eqT_ok c
def clsB (K : PySem.W.Frag) (C : Addr) : Bool := PySem.W.plainGet K C Str.empty && PySem.W.hasDictIn K C && PySem.W.plainOver K C && He.eqO (PySem.W.findIn K (.ref C) "__setattr__") (some (some (.builtin "object.__setattr__")))
theorem clsB_ok {K : PySem.W.Frag} {C : Addr} (h : clsB K C = true) : Cls K C := by
  unfold clsB at h
  simp only [Bool.and_eq_true] at h
  exact ⟨h.1.1.1, h.1.1.2, h.1.2, He.eqO_ok h.2⟩
def fdsB (P : Pg) (K : PySem.W.Frag) (q : Nat × Nat) : Bool := clsB K (caOf P K q.1) && He.eqO (PySem.W.findIn K (.ref (caOf P K q.1)) (nmS q.2)) (some none) && Nat.blt q.2 (2 ^ 512)
theorem fdsB_ok {P : Pg} {K : PySem.W.Frag} {q : Nat × Nat} (h : fdsB P K q = true) : FdAt K (caOf P K) q.1 q.2 := by
  unfold fdsB at h
  simp only [Bool.and_eq_true] at h
  exact ⟨clsB_ok h.1.1, He.eqO_ok h.1.2, Nat.blt_eq.mp h.2⟩
def wrB (file : Str) (P : Pg) (XS : List XDf) (K : PySem.W.Frag) : Bool := P.cs.all (cstB K) && (XS.all (xB file P K)) && (P.oc.all fun q => He.eqO (PySem.W.nsIn K mainGlobals q.1) (some (some (.ref (caOf P K q.2))))) &&
  (P.sub.all fun q => eqT (PySem.W.exmOne K (.ref (caOf P K q.1)) (.ref (caOf P K q.2.1))) q.2.2) && P.isb.all (isbB P K) && P.fds.all (fdsB P K) && XS.all fun x => P.fl.all fun f => He.eqO (PySem.W.findIn K (.ref (caOf P K x.c)) (nmS f)) (some none)
theorem lookup_mem {α : Type} : ∀ {l : List (Str × α)} {x : Str} {a : α}, l.lookup x = some a → (x, a) ∈ l
  | (y, b) :: r, x, a, h => by
    rw [List.lookup_cons] at h
    cases e : x == y with
    | true =>
      rw [e] at h
      have := eq_of_beq e
      subst this
      cases h
      exact List.mem_cons_self
    | false =>
      rw [e] at h
      exact List.mem_cons_of_mem _ (lookup_mem h)
theorem wr_ok {Pr : Program} {P : Pg} {XS : List XDf} {K : PySem.W.Frag} {h : Heap} {mg : Str → Option Value} (X : K.In h) (G : h.Ns mainGlobals mg) (hf : (Pr.main.scope.names.lookup ("super" : Str)).isSome = false) (sy : ∀ x ∈ XS, XSyn x) (hx : P.xc = XS.map fun x => (x.n, x.c, x.k)) (hfr : ∀ x ∈ P.fr, mg x = none)
    (c : wrB Pr.main.file P XS K = true) (t : XS.map (xT P K) = XS.map xV) : Wr P Pr K mg (caOf P K) := by
  unfold wrB at c
  simp only [Bool.and_eq_true] at c
  obtain ⟨⟨⟨⟨⟨⟨c1, c2⟩, c3⟩, c4⟩, c5⟩, c7⟩, c6⟩ := c
  have mem : ∀ n c k, (n, c, k) ∈ P.xc → ∃ x ∈ XS, x.n = n ∧ x.c = c ∧ x.k = k := fun n c k m => by
    rw [hx] at m
    obtain ⟨x, hx, e⟩ := List.mem_map.mp m
    cases e
    exact ⟨x, hx, rfl, rfl, rfl⟩
  refine ⟨fun x w hl => cstB_ok X G (List.all_eq_true.mp c1 _ (lookup_mem hl)), hfr, fun n c k m => ?_, fun n c hl => PySem.W.mg_of X G (He.eqO_ok (List.all_eq_true.mp c3 _ (lookup_mem hl))), fun n c k m f hf => ?_, fun a b v m => eqT_ok (List.all_eq_true.mp c4 _ m), fun cl k m => fdsB_ok (List.all_eq_true.mp c7 _ m), fun a n v m cv hc => isbB_ok X G (List.all_eq_true.mp c5 _ m) cv hc⟩
  · obtain ⟨x, hx, rfl, rfl, rfl⟩ := mem n c k m
    refine x_ok X G hf (sy x hx) (List.all_eq_true.mp c2 x hx) ?_
    obtain ⟨i, hi, e⟩ := List.getElem_of_mem hx
    have := congrArg (fun l => l[i]?) t
    simp only [List.getElem?_map, List.getElem?_eq_getElem hi, e, Option.map_some, Option.some.injEq] at this
    exact this
  · obtain ⟨x, hx, rfl, rfl, rfl⟩ := mem n c k m
    exact He.eqO_ok (List.all_eq_true.mp (List.all_eq_true.mp c6 x hx) f hf)
/-- the first def of a class's text -/
def clsInit : Stmt → Stmt
  | .ClassDef _ _ _ body _ _ _ _ _ _ _ => body.getD 0 (.Pass ⟨0, 0, 0, 0⟩)
  | s => s
end FM


set_option Elab.async false
set_option linter.all false
set_option maxRecDepth 100000
set_option maxHeartbeats 2000000
/-! Calls with defaults; the tables of classes. -/
namespace FM
open PySem L2 PySem.OwnX
/-- all arguments given, no defaults -/
def BindT (d : DD) : Prop := ∀ (kV doc pm : Value) (an : Option Addr) (cdv ct : Value) (us : List Value), us.length = d.ps.length → bindArgs (PySem.W.fnOf d.x d.q (defArgs d.st) (defBody d.st) (defScope d.st) .none kV doc pm an cdv ct) ⟨us, []⟩ = pure (d.ps.zip us)
/-- n given, j defaults passed over -/
def BindP (d : DD) (n j : Nat) : Prop := ∀ (T : Addr) (kV doc pm : Value) (an : Option Addr) (cdv ct : Value) (us its : List Value), us.length = n → its.length = d.ds.length →
  ∃ k, bindArgs (PySem.W.fnOf d.x d.q (defArgs d.st) (defBody d.st) (defScope d.st) (.ref T) kV doc pm an cdv ct) ⟨us, []⟩ = seqItems? (.ref T) >>= k ∧ k (some its.toArray) = pure (d.ps.zip (us ++ its.drop j))
/-- how a def is called with n arguments -/
def BindC (d : DD) (n : Nat) (ds : List W) : Prop := (d.ds = [] ∧ ds = [] ∧ n = d.ps.length ∧ BindT d) ∨ ∃ j, d.ds ≠ [] ∧ ds = d.ds.drop j ∧ n + (d.ds.length - j) = d.ps.length ∧ BindP d n j
theorem dfl_of {K : PySem.W.Frag} {ca : Nat → Addr} {d : DD} {fd : FuncData} {dvs : List V} {f : Addr} {n : Nat} {ds : List W} (F : FunD K d.x d.q (defArgs d.st) (defBody d.st) (defScope d.st) dvs [] f fd) (r : ∀ g, RWs ⟨K, ca⟩ g d.ds dvs) (b : BindC d n ds) : Dfl K ca fd d.ps n ds := by
  have len : d.ds.length = dvs.length := (r ⟨fun _ => none, fun _ => False⟩).length
  rcases b with ⟨h1, rfl, rfl, h⟩ | ⟨j, h1, rfl, h2, h⟩
  · rw [h1] at len
    have e : dvs = [] := List.eq_nil_of_length_eq_zero len.symm
    subst e
    exact ⟨[], [], F.bindsN h, .nil, fun _ => rfl, rfl⟩
  · have hne : dvs ≠ [] := fun e => h1 (List.eq_nil_of_length_eq_zero (by rw [len, e]; rfl))
    obtain ⟨dV, v, bd⟩ := F.binds1 (ps := d.ps) n j hne (by rw [← len]; exact h2) fun T kV doc pm an cdv ct us its l1 l2 => h T kV doc pm an cdv ct us its l1 (l2.trans len.symm)
    exact ⟨dV, dvs.drop j, bd, v, fun g => (r g).drop j, by rw [List.length_drop]; exact h2.symm⟩
/-- what the text says of the tables -/
structure Bnd (P : Pg) (D : List DD) : Prop where
  fns : ∀ x f ps, (x, f, ps) ∈ P.fns → ∃ d : DD, D[f]? = some d ∧ d.ps = ps ∧ BindC d ps.length []
  dfl : ∀ n f k ds, (n, f, k, ds) ∈ P.dfl → ∃ d : DD, D[f]? = some d ∧ BindC d k ds
  mks : ∀ n cl f k ds, (n, cl, f, k, ds) ∈ P.mks → ∃ d : DD, D[f]? = some d ∧ BindC d (k + 1) ds
  mts : ∀ cl m f k ds, (cl, m, f, k, ds) ∈ P.mts → ∃ d : DD, D[f]? = some d ∧ BindC d (k + 1) ds
  prs : ∀ cl n f, (cl, n, f) ∈ P.prs → ∃ d : DD, D[f]? = some d ∧ d.ps.length = 1 ∧ BindC d 1 []
  lns : ∀ cl f, (cl, f) ∈ P.lns → ∃ d : DD, D[f]? = some d ∧ d.ps.length = 1 ∧ BindC d 1 []
def adrF (D : List DD) (K : PySem.W.Frag) (f : Nat) : Addr := match D[f]? with
  | some d => d.wh.adr K
  | none => 0
def gloB (K : PySem.W.Frag) (n : Str) (a : Addr) : Bool := He.eqO (PySem.W.nsIn K mainGlobals n) (some (some (.ref a)))
def metB (K : PySem.W.Frag) (C : Addr) (m : Str) (a : Addr) : Bool := He.eqO (PySem.W.findIn K (.ref C) m) (some (some (.ref a))) && PySem.W.isFn K (.ref a) && PySem.W.keepIn K (.ref a)
def makB (K : PySem.W.Frag) (C a : Addr) : Bool := PySem.W.makesIn K C && He.eqO (PySem.W.findIn K (.ref C) "__init__") (some (some (.ref a))) && PySem.W.isFn K (.ref a) && PySem.W.keepIn K (.ref C)
def prpB (K : PySem.W.Frag) (C : Addr) (n : Str) (a : Addr) : Bool := He.eqO (PySem.W.findIn K (.ref C) n) (some (some (.ref (He.ma K C n)))) && He.eqO (PySem.W.specialIn K (.ref (He.ma K C n)) "__get__") (some (some (.builtin "property.__get__"))) && eqT (PySem.W.takesIn K (.ref (He.ma K C n))) true &&
  (match PySem.W.recIn K (He.ma K C n) "property" with
   | some (.ref g :: _) => Nat.beq g a
   | _ => false)
theorem metB_ok {K : PySem.W.Frag} {C a : Addr} {m : Str} (h : metB K C m a = true) : Meth K C m a := by
  unfold metB at h
  simp only [Bool.and_eq_true] at h
  exact ⟨He.eqO_ok h.1.1, h.1.2, h.2⟩
theorem makB_ok {K : PySem.W.Frag} {C a : Addr} (h : makB K C a = true) : Mk K C a := by
  unfold makB at h
  simp only [Bool.and_eq_true] at h
  exact ⟨h.1.1.1, He.eqO_ok h.1.1.2, h.1.2, h.2⟩
theorem prpB_ok {K : PySem.W.Frag} {C a : Addr} {n : Str} (h : prpB K C n a = true) : ∃ p, PropOf K C n p a := by
  unfold prpB at h
  simp only [Bool.and_eq_true] at h
  obtain ⟨⟨⟨h1, h2⟩, h3⟩, h4⟩ := h
  split at h4
  · rename_i g rest e
    have := Nat.eq_of_beq_eq_true h4
    subst this
    exact ⟨_, He.eqO_ok h1, He.eqO_ok h2, eqT_ok h3, rest, e⟩
  · cases h4
def tabB (P : Pg) (D : List DD) (K : PySem.W.Frag) : Bool := (P.fns.all fun q => gloB K q.1 (adrF D K q.2.1)) && (P.dfl.all fun q => gloB K q.1 (adrF D K q.2.1)) && (P.mks.all fun q => gloB K q.1 (caOf P K q.2.1) && makB K (caOf P K q.2.1) (adrF D K q.2.2.1)) &&
  (P.mts.all fun q => clsB K (caOf P K q.1) && Nat.blt q.2.1 (2 ^ 512) && metB K (caOf P K q.1) (nmS q.2.1) (adrF D K q.2.2.1)) && (P.prs.all fun q => clsB K (caOf P K q.1) && prpB K (caOf P K q.1) q.2.1 (adrF D K q.2.2)) && P.lns.all fun q => metB K (caOf P K q.1) "__len__" (adrF D K q.2)
end FM


set_option Elab.async false
set_option linter.all false
set_option maxRecDepth 100000
set_option maxHeartbeats 2000000
/-! The Hook; the defs of the written part; the law's call. -/
namespace FM
open PySem L2 PySem.OwnX
abbrev ObF : Type := List He.FnW × Bool × List (Option (Arguments × FuncBody × Scope))
def allB (file : Str) (P : Pg) (D : List DD) (XS : List XDf) (K : PySem.W.Frag) : Bool := D.all (DD.bb K) && tabB P D K && wrB file P XS K && P.fr.all fun x => He.eqO (PySem.W.nsIn K mainGlobals x) (some none)
def obsV (file : Str) (P : Pg) (D : List DD) (XS : List XDf) (K : PySem.W.Frag) : ObF := (D.map (DD.ob K), allB file P D XS K, XS.map (xT P K))
def valV (D : List DD) (XS : List XDf) : ObF := (D.map DD.vl, true, XS.map xV)
def SaysV (file : Str) (P : Pg) (D : List DD) (XS : List XDf) (K : PySem.W.Frag) : Prop := obsV file P D XS K = valV D XS
def obsVG (n : Nat) (file : Str) (P : Pg) (D : List DD) (XS : List XDf) (g : Addr → Option Obj) : ObF := obsV file P D XS (He.frG g (cStatics :: He.asD g n))
def hookV (n : Nat) (file : Str) (P : Pg) (D : List DD) (XS : List XDf) : PySem.W.Hook where
  α := ObF
  obs := fun s => obsVG n file P D XS s.heap.get?
  val := fun _ => valV D XS
  says := fun _ h => ∃ K : PySem.W.Frag, K.In h ∧ SaysV file P D XS K
  of := fun _ _ e => ⟨_, He.frG_in, e⟩
  keeps := fun _ _ _ ⟨K, hK, c⟩ k => ⟨K, PySem.W.Frag.In.keeps hK k, c⟩
theorem obsVG_eq {n : Nat} {file : Str} {P : Pg} {D : List DD} {XS : List XDf} {g : Addr → Option Obj} {s : Shared} (h : ∀ a, g a = s.heap.get? a) : obsVG n file P D XS g = (hookV n file P D XS).obs s := by
  rw [funext h]; rfl
theorem defs_of {Pr : Program} {K : PySem.W.Frag} {h : Heap} {mg : Str → Option Value} {P : Pg} {D : List DD} {XS : List XDf} {m : Nat} (X : K.In h) (G : h.Ns mainGlobals mg) (c : SaysV Pr.main.file P D XS K) (hck : D.all (ckD P m) = true) (hb : Bnd P D)
    (hf : (Pr.main.scope.names.lookup ("super" : Str)).isSome = false) (sy : ∀ x ∈ XS, XSyn x) (hx : P.xc = XS.map fun x => (x.n, x.c, x.k)) : ∃ (fa : Nat → Addr) (fd : Nat → FuncData) (dv : Nat → List V), Defs Pr K mg P D m fa fd dv (caOf P K) := by
  have c1 : D.map (DD.ob K) = D.map DD.vl := congrArg (fun z : ObF => z.1) c
  have c2 : allB Pr.main.file P D XS K = true := congrArg (fun z : ObF => z.2.1) c
  have c3 : XS.map (xT P K) = XS.map xV := congrArg (fun z : ObF => z.2.2) c
  unfold allB tabB at c2
  simp only [Bool.and_eq_true] at c2
  obtain ⟨⟨⟨b1, ⟨⟨⟨⟨⟨t1, t2⟩, t3⟩, t4⟩, t5⟩, t6⟩⟩, b3⟩, b4⟩ := c2
  have hex : ∀ f : Nat, ∃ q : FuncData × List V, ∀ d, D[f]? = some d → adrF D K f = d.wh.adr K ∧ FunD K d.x d.q (defArgs d.st) (defBody d.st) (defScope d.st) q.2 [] (adrF D K f) q.1 ∧ ∀ g, RWs ⟨K, caOf P K⟩ g d.ds q.2 := by
    intro f
    cases e : D[f]? with
    | none => exact ⟨(default, []), fun d h => by cases h⟩
    | some d =>
      have ha : adrF D K f = d.wh.adr K := by unfold adrF; rw [e]
      have e1 : d.ob K = d.vl := by
        have := congrArg (fun l => l[f]?) c1
        simp only [List.getElem?_map, e, Option.map_some, Option.some.injEq] at this
        exact this
      obtain ⟨fd, dvs, F, r⟩ := DD.ok (ca := caOf P K) e1 (List.all_eq_true.mp b1 d (List.mem_of_getElem? e))
      exact ⟨(fd, dvs), fun d' h => by cases h; exact ⟨ha, by rw [ha]; exact F, r⟩⟩
  obtain ⟨q, hq⟩ := Classical.skolem.mp hex
  have bnd0 : ∀ {f : Nat} {d : DD} {n : Nat}, D[f]? = some d → BindC d n [] → Binds K (q f).1 d.ps [] := fun {f d n} hd b => by
    obtain ⟨dV, dvs, h1, h2, h3, h4⟩ := dfl_of (hq f d hd).2.1 (hq f d hd).2.2 b
    have e := h3 ⟨fun _ => none, fun _ => False⟩
    cases e
    cases h2
    exact h1
  refine ⟨adrF D K, fun f => (q f).1, fun f => (q f).2, fun f d hd => List.all_eq_true.mp hck d (List.mem_of_getElem? hd), fun f d hd => (hq f d hd).2.1, fun x f ps hx => ?_, fun n f k ds hx => ?_, fun n cl f k ds hx => ?_, fun cl mm f k ds hx => ?_, fun cl n f hx => ?_, fun cl f hx => ?_, ?_, ?_⟩
  · obtain ⟨d, hd, rfl, b⟩ := hb.fns x f ps (lookup_mem hx)
    exact ⟨d, hd, rfl, PySem.W.mg_of X G (He.eqO_ok (List.all_eq_true.mp t1 _ (lookup_mem hx))), bnd0 hd b⟩
  · obtain ⟨d, hd, b⟩ := hb.dfl _ _ _ _ hx
    exact ⟨d, hd, PySem.W.mg_of X G (He.eqO_ok (List.all_eq_true.mp t2 _ hx)), dfl_of (hq f d hd).2.1 (hq f d hd).2.2 b⟩
  · obtain ⟨d, hd, b⟩ := hb.mks _ _ _ _ _ hx
    have z := List.all_eq_true.mp t3 _ hx
    rw [Bool.and_eq_true] at z
    exact ⟨d, hd, PySem.W.mg_of X G (He.eqO_ok z.1), makB_ok z.2, dfl_of (hq f d hd).2.1 (hq f d hd).2.2 b⟩
  · obtain ⟨d, hd, b⟩ := hb.mts _ _ _ _ _ hx
    have z := List.all_eq_true.mp t4 _ hx
    rw [Bool.and_eq_true, Bool.and_eq_true] at z
    exact ⟨d, hd, clsB_ok z.1.1, Nat.blt_eq.mp z.1.2, metB_ok z.2, dfl_of (hq f d hd).2.1 (hq f d hd).2.2 b⟩
  · obtain ⟨d, hd, hl, b⟩ := hb.prs _ _ _ hx
    have z := List.all_eq_true.mp t5 _ hx
    rw [Bool.and_eq_true] at z
    exact ⟨d, hd, clsB_ok z.1, prpB_ok z.2, hl, bnd0 hd b⟩
  · obtain ⟨d, hd, hl, b⟩ := hb.lns _ _ hx
    exact ⟨d, hd, metB_ok (List.all_eq_true.mp t6 _ hx), hl, bnd0 hd b⟩
  · exact wr_ok X G hf sy hx (fun x hx => PySem.W.mg_none_of X G (He.eqO_ok (List.all_eq_true.mp b4 x hx))) b3 c3
  · intro f d hd e
    have z := (hq f d hd).2.2 ⟨fun _ => none, fun _ => False⟩
    rw [e] at z
    exact z
/-! ### the law's call -/
theorem rws_ints {Z : Kx} {g : Sg} : ∀ ns : List Int, RWs Z g (ns.map W.int) (ns.map V.int)
  | [] => rfl
  | n :: ns => ⟨.int n, ns.map V.int, rfl, rfl, rws_ints ns⟩
theorem sp_law {Z : Kx} {c : CF} {f : Nat} {H : Hp} {a : Addr} {ns : List Int} {E : XK} (ho : Only H) (hS : SqL Z.K H a (ns.map V.int)) (hl : c f [.m (.d (.scr (ns.map W.int)))] = .ok (.d (.bl true)) []) :
    spOf Z c f 1 [.ref a] H (fun v _ => v = .bl true) E := by
  have hs : ScrR Z ⟨H, fun _ => False⟩ a (ns.map V.int) := by
    rcases hS with hr | hk
    · rcases ho a with e | ⟨o, xs, e⟩
      · rcases hr with hr | ⟨o, hr⟩
        · rw [e] at hr; cases hr
        · rw [e] at hr; cases hr
      · rcases hr with hr | ⟨o', hr⟩
        · rw [e] at hr; cases hr
        · rw [e] at hr
          cases hr
          exact .inl ⟨_, e⟩
    · exact .inr hk
  refine ⟨⟨H, fun _ => False⟩, [.m (.d (.scr (ns.map W.int)))], fun _ => [], fun _ => none, rfl, rfl, ⟨rfl, fun i e he => ?_, fun _ _ => rfl, fun _ => List.nodup_nil, fun _ _ _ m => (nomatch m), fun _ _ m => (nomatch m), fun _ l => False.elim l⟩, fun i u he => ?_, ?_⟩
  · cases i with
    | zero => cases he; exact ⟨_, rfl, .ref a, rfl, rfl, a, _, rfl, hs, rws_ints ns⟩
    | succ i => cases he
  · cases i with
    | zero => cases he
    | succ i => cases he
  · rw [hl]
    intro g' F' v fp fps _ _ _ _ _ _ _ o _ _
    exact o.2
end FM


set_option Elab.async false
set_option linter.all false
set_option maxRecDepth 100000
set_option maxHeartbeats 2000000
namespace FM
open PySem L2
/-- what a def may let out, in whatever world -/
def CXs (P : Program) : CXT := fun outer H s E u s' => ∃ w, L2.CX P w outer H s E u s'
theorem FnOk.cx {P : Program} {w : World} {K : PySem.W.Frag} {mg : Str → Option Value} {base : Heap} {CX CX' : CXT} {k : Nat} {f : Addr} {fd : FuncData} {ps : List Str} {sp : Sp} (F : FnOk P w K mg base CX k f fd ps sp) (h : ∀ outer H s E u s', CX outer H s E u s' → CX' outer H s E u s') : FnOk P w K mg base CX' k f fd ps sp :=
  ⟨F.len, fun A outer s H args us vs Q E hr he hb hv hs => codeAny_mono (F.run A outer s H args us vs Q E hr he hb hv hs) fun r s' q => by
    cases r with
    | error e => exact h _ _ _ _ _ _ q
    | ok fl => cases fl <;> exact q⟩
theorem cxs_no {P : Program} {H : Hp} {s : Shared} {e : Value} {s' : Shared} (h : CXs P [] H s (fun _ _ _ => False) e s') : False := by
  obtain ⟨w, a, B, H', cls, d, _, _, _, _, _, _, _, z⟩ := h
  exact z
end FM


set_option linter.all false
set_option maxRecDepth 100000
set_option maxHeartbeats 2000000
/-! The evaluator by a script: what calls give is written ahead, what was called is noted. If the notes are true of c, so is the run. -/
namespace FM
/-- what is written ahead: what a call gives; behind n such operations: a value, an outcome, a thing, the names behind a change -/
inductive It where
  | a (r : CRes) | v (n : Nat) (w : W) | t (n : Nat) (b : Bool) | u (n : Nat) (u : U) | q (n : Nat) (r : Env)
  /-- n calls are run; what a comprehension gives; what a loop does -/
  | k (n : Nat) | m (n : Nat) (ws : List W) (r : Env) | lp (n : Nat) (x : SRes)
/-- what is to be shown: a call, and what was said of the operations -/
inductive Ob where
  | a (f : Nat) (es : List En) (r : CRes) | v (o : Option W) (w : W) | t (o : Option Bool) (b : Bool) | u (o : Option U) (u : U) | q (o : Res W) (r : Env)
  | m (o : Res (List W)) (ws : List W) (r : Env) | lp (o : SRes) (x : SRes)
structure Kt where
  sc : List It
  lg : List Ob
abbrev RX (α : Type) := Res α × Kt
abbrev SX := SRes × Kt
def bX {α β : Type} (m : RX α) (f : α → Env → Kt → RX β) : RX β := match m with
  | (.ok a r, k) => f a r k
  | (.ex x r, k) => (.ex x r, k)
  | (.bad, k) => (.bad, k)
def tX {α : Type} (m : RX α) (f : α → Env → Kt → SX) : SX := match m with
  | (.ok a r, k) => f a r k
  | (.ex x r, k) => (.ex x r, k)
  | (.bad, k) => (.bad, k)
def ofW (o : Option W) (r : Env) (k : Kt) : RX W := match k.sc with
  | .v 0 w :: sc => (.ok w r, ⟨sc, .v o w :: k.lg⟩)
  | .v (n + 1) w :: sc => (Res.of o r, ⟨.v n w :: sc, k.lg⟩)
  | _ => (Res.of o r, k)
def ofT (o : Option Bool) (r : Env) (k : Kt) : RX Bool := match k.sc with
  | .t 0 w :: sc => (.ok w r, ⟨sc, .t o w :: k.lg⟩)
  | .t (n + 1) w :: sc => (Res.of o r, ⟨.t n w :: sc, k.lg⟩)
  | _ => (Res.of o r, k)
def ofU (o : Option U) (r : Env) (k : Kt) : RX U := match k.sc with
  | .u 0 w :: sc => (.ok w r, ⟨sc, .u o w :: k.lg⟩)
  | .u (n + 1) w :: sc => (Res.of o r, ⟨.u n w :: sc, k.lg⟩)
  | _ => (Res.of o r, k)
def ofQ (o : Res W) (k : Kt) : RX W := match k.sc with
  | .q 0 r :: sc => (.ok .non r, ⟨sc, .q o r :: k.lg⟩)
  | .q (n + 1) r :: sc => (o, ⟨.q n r :: sc, k.lg⟩)
  | _ => (o, k)
def ofM (o : Res (List W)) (k : Kt) (go : Kt → RX (List W)) : RX (List W) := match k.sc with
  | .m 0 ws r :: sc => (.ok ws r, ⟨sc, .m o ws r :: k.lg⟩)
  | .m (n + 1) ws r :: sc => go ⟨.m n ws r :: sc, k.lg⟩
  | _ => go k
def ofF (o : SRes) (k : Kt) (go : Kt → SX) : SX := match k.sc with
  | .lp 0 x :: sc => (x, ⟨sc, .lp o x :: k.lg⟩)
  | .lp (n + 1) x :: sc => go ⟨.lp n x :: sc, k.lg⟩
  | _ => go k
structure SFX where
  s : SF
  E : IE → Env → Kt → RX W
  V : IV → Env → Kt → RX Arg
  T : IT → Env → Kt → RX Bool
  U : IU → Env → Kt → RX U
  S : List IS → Env → Kt → SX
  Wh : IT → List IS → Env → Kt → SX
def SFX.bot : SFX := ⟨SF.bot, fun _ _ k => (.bad, k), fun _ _ k => (.bad, k), fun _ _ k => (.bad, k), fun _ _ k => (.bad, k), fun _ _ k => (.bad, k), fun _ _ _ k => (.bad, k)⟩
def evsX {α β : Type} (f : α → Env → Kt → RX β) : List α → Env → Kt → RX (List β)
  | [], r, k => (.ok [] r, k)
  | e :: es, r, k => bX (f e r k) fun w r1 k => bX (evsX f es r1 k) fun ws r2 k => (.ok (w :: ws) r2, k)
def stepIX (s : SFX) : II → Env → Kt → RX Wk
  | .v a, r, k => bX (s.V a r k) fun x r1 k => (Res.of (walkA r1 x) r1, k)
  | .rng a, r, k => bX (s.E a r k) fun x r1 k => match x with
    | .int n => if decide (n ≤ 1000000) && decide (-1000000 ≤ n) then (.ok ⟨iota 0 n.toNat, []⟩ r1, k) else (.bad, k)
    | _ => (.bad, k)
  | .rng2 a b, r, k => bX (s.E a r k) fun x r1 k => bX (s.E b r1 k) fun y r2 k => match x, y with
    | .int m, .int n => if decide (n ≤ 1000000) && decide (-1000000 ≤ n) && decide (m ≤ 1000000) && decide (-1000000 ≤ m) then (.ok ⟨iota m (n - m).toNat, []⟩ r2, k) else (.bad, k)
    | _, _ => (.bad, k)
  | .zip a b, r, k => bX (s.V a r k) fun x r1 k => bX (s.V b r1 k) fun y r2 k => (Res.of ((vw r2 x).bind fun u => (lstW u).bind fun us => (vw r2 y).bind fun w => (lstW w).map fun ws => ⟨zipW us ws, keep x u ++ keep y w⟩) r2, k)
  | .enm a, r, k => bX (s.V a r k) fun x r1 k => (Res.of ((vw r1 x).bind fun u => (extW u).map fun ws => ⟨enmW 0 ws, keep x u⟩) r1, k)
def compLX (q : Wk) (own : List Nat) (f : W → Env → Kt → RX (Option W)) : List W → Env → Kt → RX (List W)
  | [], r, k => if q.still r then (.ok [] r, k) else (.bad, k)
  | w :: ws, r, k => if q.still r then (match f w r k with
    | (.ok o r1, k1) => (match compLX q own f ws (wipe r1 own) k1 with
      | (.ok us r2, k2) => (match o with
        | some u => (.ok (u :: us) r2, k2)
        | none => (.ok us r2, k2))
      | (_, k2) => (.bad, k2))
    | (_, k1) => (.bad, k1))
    else (.bad, k)
def optEX (s : SFX) (e : Option IE) (r : Env) (k : Kt) : RX (Option Int) := match e with
  | none => (.ok none r, k)
  | some e => bX (s.E e r k) fun x r1 k => match x with
    | .int i => (.ok (some i) r1, k)
    | _ => (.bad, k)
def turnLX (s : SFX) (elt : IE) (g : IG) (t : Option IT) (w : W) (r : Env) (k : Kt) : RX (Option W) := match bindG g w r with
  | none => (.bad, k)
  | some r1 => match t with
    | none => bX (s.E elt r1 k) fun u r2 k => (.ok (some u) r2, k)
    | some t => bX (s.T t r1 k) fun b r2 k => if b then bX (s.E elt r2 k) fun u r3 k => (.ok (some u) r3, k) else (.ok none r2, k)
def compMX (s : SFX) (elt : IE) (g : IG) (own : List Nat) (it : II) (t : Option IT) (r : Env) (k : Kt) : RX (List W) := ofM (compM s.s elt g own it t r) k fun k => bX (stepIX s it r k) fun q r1 k => if Nat.ble q.ws.length size && ownOk r1 own && q.ks.all (fun q => !own.any (Nat.beq q.1)) then (match compLX q own (turnLX s elt g t) q.ws (wipe r1 own) k with
    | (.ok ws r2, k) => (.ok ws (back r1 r2 own), k)
    | (_, k) => (.bad, k)) else (.bad, k)
def stepAX (s : SFX) : IA → Env → Kt → RX AV
  | .d e, r, k => bX (s.E e r k) fun w r1 k => (.ok (.d w) r1, k)
  | .r i, r, k => (match lookU r i with
    | some _ => (.ok (.r i) r, k)
    | none => (.bad, k))
  | .u x, r, k => bX (s.U x r k) fun u r1 k => (.ok (.u u) r1, k)
/-- the next call is run -/
def skipK : List It → Option (List It)
  | .a _ :: _ => none
  | .k 0 :: sc => (match sc with
    | .a _ :: _ => none
    | sc => some sc)
  | .k (n + 1) :: sc => some (.k n :: sc)
  | sc => some sc
/-- what is written of the next call -/
def nextA : List It → Option (CRes × List It)
  | .a a :: sc => some (a, sc)
  | .k 0 :: .a a :: sc => some (a, sc)
  | _ => none
def callX1 (c : CF) (f : Nat) (es : List En) (k : Kt) : CRes × Kt := match nextA k.sc with
  | some (a, sc) => (a, ⟨sc, .a f es a :: k.lg⟩)
  | none => (match skipK k.sc with
    | some sc => (c f es, ⟨sc, k.lg⟩)
    | none => (c f es, k))
def runCX (c : CF) (f : Nat) (as : List AV) (r : Env) (k : Kt) : RX U := match args r as with
  | none => (.bad, k)
  | some (es, is) => match callX1 c f es k with
      | (.ok u os, k) => (match puts r is os with
        | some r1 => (.ok u r1, k)
        | none => (.bad, k))
      | (.ex x os, k) => (match puts r is os with
        | some r1 => (.ex x r1, k)
        | none => (.bad, k))
      | (.bad, k) => (.bad, k)
def runMX (c : CF) (cl f : Nat) (as : List AV) (r : Env) (k : Kt) : RX U := match args r as with
  | none => (.bad, k)
  | some (es, is) => match callX1 c f (.t (.o cl [] []) :: es) k with
      | (.ok (.d .non) (u :: os), k) => (match puts r is os with
        | some r1 => (.ok u r1, k)
        | none => (.bad, k))
      | (.ex x (_ :: os), k) => (match puts r is os with
        | some r1 => (.ex x r1, k)
        | none => (.bad, k))
      | (_, k) => (.bad, k)
def noXX {α : Type} : RX α → RX α
  | (.ok a r, k) => (.ok a r, k)
  | (_, k) => (.bad, k)
def compL2X (q : Wk) (own : List Nat) (f : W → Env → Kt → RX (List W)) : List W → Env → Kt → RX (List W)
  | [], r, k => if q.still r then (.ok [] r, k) else (.bad, k)
  | w :: ws, r, k => if q.still r then (match f w r k with
    | (.ok us r1, k1) => (match compL2X q own f ws (wipe r1 own) k1 with
      | (.ok vs r2, k2) => (.ok (us ++ vs) r2, k2)
      | (_, k2) => (.bad, k2))
    | (_, k1) => (.bad, k1))
    else (.bad, k)
def condX (s : SFX) (t : Option IT) (r : Env) (k : Kt) : RX Bool := match t with
  | none => (Res.ok true r, k)
  | some t => s.T t r k
def turnL2X (s : SFX) (elt : IE) (g : IG) (t : Option IT) (g1 : IG) (e1 : IE) (t1 : Option IT) (own1 : List Nat) (w : W) (r : Env) (k : Kt) : RX (List W) := match bindG g w r with
  | none => (.bad, k)
  | some r1 => bX (condX s t r1 k) fun b r2 k => if b then bX (s.E e1 r2 k) fun u r3 k => (match extW u with
      | some ws => compLX ⟨ws, []⟩ own1 (turnLX s elt g1 t1) ws (wipe r3 own1) k
      | none => (.bad, k)) else (.ok [] r2, k)
def compM2X (s : SFX) (elt : IE) (g : IG) (it : II) (t : Option IT) (g1 : IG) (e1 : IE) (t1 : Option IT) (own own1 : List Nat) (r : Env) (k : Kt) : RX (List W) := ofM (compM2 s.s elt g it t g1 e1 t1 own own1 r) k fun k => bX (stepIX s it r k) fun q r1 k => if Nat.ble q.ws.length size && ownOk r1 own && q.ks.all (fun q => !own.any (Nat.beq q.1)) then (match compL2X q own (turnL2X s elt g t g1 e1 t1 own1) q.ws (wipe r1 own) k with
    | (.ok ws r2, k) => if Nat.ble ws.length size then (.ok ws (back r1 r2 own), k) else (.bad, k)
    | (_, k) => (.bad, k)) else (.bad, k)
def stepUX (c : CF) (s : SFX) : IU → Env → Kt → RX U
  | .d e, r, k => bX (s.E e r k) fun w r1 k => (.ok (.d w) r1, k)
  | .mv i, r, k => (match mvV r i with
    | some (u, r1) => (.ok u r1, k)
    | none => (.bad, k))
  | .lst es, r, k => bX (evsX s.E es r k) fun ws r1 k => (.ok (.l (ws.map U.d)) r1, k)
  | .comp elt g own it t, r, k => bX (compMX s elt g own it t r k) fun ws r1 k => (.ok (.l (ws.map U.d)) r1, k)
  | .cat a b, r, k => bX (s.V a r k) fun x r1 k => bX (s.V b r1 k) fun y r2 k => ofU ((vw r2 x).bind fun u => (lstW u).bind fun us => (vw r2 y).bind fun w => (lstW w).bind fun ws => if Nat.ble (us.length + ws.length) size then some (.l ((us ++ ws).map U.d)) else none) r2 k
  | .rep a n, r, k => bX (s.V a r k) fun x r1 k => bX (s.E n r1 k) fun y r2 k => match y with
    | .int j => ofU ((vw r2 x).bind fun u => (lstW u).bind fun us => if decide (-1000000 ≤ j) && Nat.ble (us.length * j.toNat) size && decide (j ≤ 1000000) then some (.l ((reps us j.toNat).map U.d)) else none) r2 k
    | _ => (.bad, k)
  | .slc a lo hi, r, k => bX (s.V a r k) fun x r1 k => bX (optEX s lo r1 k) fun l r2 k => bX (optEX s hi r2 k) fun h r3 k => ofU ((vw r3 x).bind fun u => (lstW u).map fun ws => .l ((cut ws l h).map U.d)) r3 k
  | .lof a, r, k => bX (s.V a r k) fun x r1 k => ofU ((vw r1 x).bind fun u => (seqW u).map fun ws => .l (ws.map U.d)) r1 k
  | .srt a, r, k => bX (s.V a r k) fun x r1 k => ofU ((vw r1 x).bind fun u => (sortF u).map fun ws => .l (ws.map U.d)) r1 k
  | .ndic, r, k => (.ok (.c [] []) r, k)
  | .dlt ps, r, k => bX (evsX (fun p r k => bX (s.E p.1 r k) fun a r1 k => bX (s.E p.2 r1 k) fun v r2 k => (.ok (a, v) r2, k)) ps r k) fun qs r1 k => if (qs.all fun q => keyOk q.1) && Nat.ble qs.length 15 && Nat.blt 0 qs.length then (.ok (.c (dall [] [] qs).1 ((dall [] [] qs).2.map U.d)) r1, k) else (.bad, k)
  | .call f as, r, k => bX (evsX (stepAX s) as r k) fun vs r1 k => runCX c f vs r1 k
  | .callK f as, r, k => bX (evsX (stepAX s) as r k) fun vs r1 k => runCX c f vs r1 k
  | .callD f as ds, r, k => bX (evsX (stepAX s) as r k) fun vs r1 k => runCX c f (vs ++ ds.map AV.d) r1 k
  | .make cl f as ds, r, k => bX (evsX (stepAX s) as r k) fun vs r1 k => runMX c cl f (vs ++ ds.map AV.d) r1 k
  | .mth cl m f o as ds, r, k => bX (stepAX s o r k) fun x r1 k => if clsA r1 cl m x then bX (evsX (stepAX s) as r1 k) fun vs r2 k => runCX c f (x :: (vs ++ ds.map AV.d)) r2 k else (.bad, k)
  | .prp cl f o, r, k => bX (stepAX s o r k) fun x r1 k => if clsA r1 cl 0 x then noXX (runCX c f [x] r1 k) else (.bad, k)
  | .comp2 elt g it t g1 e1 t1 own own1, r, k => bX (compM2X s elt g it t g1 e1 t1 own own1 r k) fun ws r1 k => (.ok (.l (ws.map U.d)) r1, k)
def stepVX (s : SFX) : IV → Env → Kt → RX Arg
  | .e e, r, k => bX (s.E e r k) fun w r1 k => (.ok (.w w) r1, k)
  | .s i, r, k => (match lookU r i with
    | some _ => (.ok (.sl i) r, k)
    | none => (.bad, k))
  | .u x, r, k => bX (s.U x r k) fun u r1 k => (.ok (.fr u) r1, k)
def andEX (s : SFX) : List IE → Env → Kt → RX W
  | [], _, k => (.bad, k)
  | [e], r, k => s.E e r k
  | e :: es, r, k => bX (s.E e r k) fun w r1 k => match w with
    | .bl true => andEX s es r1 k
    | .bl false => (.ok (.bl false) r1, k)
    | _ => (.bad, k)
def orEX (s : SFX) : List IE → Env → Kt → RX W
  | [], _, k => (.bad, k)
  | [e], r, k => s.E e r k
  | e :: es, r, k => bX (s.E e r k) fun w r1 k => match w with
    | .bl true => (.ok (.bl true) r1, k)
    | .bl false => orEX s es r1 k
    | _ => (.bad, k)
def andTX (s : SFX) : List IT → Env → Kt → RX Bool
  | [], _, k => (.bad, k)
  | [e], r, k => s.T e r k
  | e :: es, r, k => bX (s.T e r k) fun b r1 k => if b then andTX s es r1 k else (.ok false r1, k)
def orTX (s : SFX) : List IT → Env → Kt → RX Bool
  | [], _, k => (.bad, k)
  | [e], r, k => s.T e r k
  | e :: es, r, k => bX (s.T e r k) fun b r1 k => if b then (.ok true r1, k) else orTX s es r1 k
def cmpSX (s : SFX) (op : C2) (a b : IV) (r : Env) (k : Kt) : RX Bool := bX (s.V a r k) fun x r1 k => bX (s.V b r1 k) fun y r2 k => ofT (cmp2 op x y r2) r2 k
def chnSX (s : SFX) (op op' : C2) (a b d : IV) (r : Env) (k : Kt) : RX Bool := bX (s.V a r k) fun x r1 k => bX (s.V b r1 k) fun y r2 k => bX (ofT (cmp2 op x y r2) r2 k) fun t r2 k => if t then bX (s.V d r2 k) fun z r3 k => ofT (cmp2 op' y z r3) r3 k else (.ok false r2, k)
def stepTX (s : SFX) : IT → Env → Kt → RX Bool
  | .val e, r, k => bX (s.E e r k) fun w r1 k => match w with
    | .bl b => (.ok b r1, k)
    | _ => (.bad, k)
  | .cmp op a b, r, k => cmpSX s op a b r k
  | .chn op op' a b d, r, k => chnSX s op op' a b d r k
  | .and ts, r, k => andTX s ts r k
  | .or ts, r, k => orTX s ts r k
  | .not t, r, k => bX (s.T t r k) fun b r1 k => (.ok (!b) r1, k)
def stepEX (c : CF) (s : SFX) : IE → Env → Kt → RX W
  | .var i, r, k => (match rdV r i with
    | some (w, r1) => (.ok w r1, k)
    | none => (.bad, k))
  | .cst w, r, k => (.ok w r, k)
  | .tup es, r, k => bX (evsX s.E es r k) fun ws r1 k => (.ok (.tup ws) r1, k)
  | .frz x, r, k => bX (s.U x r k) fun u r1 k => (.ok (fz u) r1, k)
  | .bin op a b, r, k => bX (s.V a r k) fun x r1 k => bX (s.V b r1 k) fun y r2 k => ofW ((vw r2 x).bind fun u => (vw r2 y).bind fun w => arith op u w) r2 k
  | .neg a, r, k => bX (s.E a r k) fun x r1 k => match x with
    | .int i => (.ok (.int (-i)) r1, k)
    | _ => (.bad, k)
  | .cmp op a b, r, k => bX (cmpSX s op a b r k) fun c r1 k => (.ok (.bl c) r1, k)
  | .chn op op' a b d, r, k => bX (chnSX s op op' a b d r k) fun c r1 k => (.ok (.bl c) r1, k)
  | .and es, r, k => andEX s es r k
  | .or es, r, k => orEX s es r k
  | .not a, r, k => bX (s.E a r k) fun x r1 k => match x with
    | .bl b => (.ok (.bl (!b)) r1, k)
    | _ => (.bad, k)
  | .ite t a b, r, k => bX (s.T t r k) fun x r1 k => if x then s.E a r1 k else s.E b r1 k
  | .idx a i, r, k => bX (s.V a r k) fun x r1 k => bX (s.E i r1 k) fun j r2 k => ofW ((vw r2 x).bind fun u => idxW u j) r2 k
  | .slc a lo hi, r, k => bX (s.V a r k) fun x r1 k => bX (optEX s lo r1 k) fun l r2 k => bX (optEX s hi r2 k) fun h r3 k => ofW ((vw r3 x).bind fun u => cutD u l h) r3 k
  | .didx a i, r, k => bX (s.V a r k) fun x r1 k => bX (s.E i r1 k) fun j r2 k => ofW ((vw r2 x).bind fun u => match u with
    | .dic ks vs => if keyOk j then dfind j ks vs else none
    | _ => none) r2 k
  | .dget i a d, r, k => (match lookU r i with
    | some (.c _ _) => bX (s.E a r k) fun a r1 k => bX (s.E d r1 k) fun d r2 k => ofW (dgetV i a d r2) r2 k
    | _ => (.bad, k))
  | .isi e t, r, k => bX (s.V e r k) fun x r1 k => ofW ((vw r1 x).bind fun w => tyIsO t w) r1 k
  | .blt f vs, r, k => bX (evsX s.V vs r k) fun xs r1 k => ofW ((vws r1 xs).bind fun ws => bltF f ws) r1 k
  | .app i e, r, k => (match lookU r i with
    | some (.l _) => bX (s.E e r k) fun y r1 k => ofQ (appS i y r1) k
    | _ => (.bad, k))
  | .ext i e, r, k => (match lookU r i with
    | some (.l _) => bX (s.V e r k) fun x r1 k => ofQ (extS i x r1) k
    | _ => (.bad, k))
  | .xfl i f, r, k => (match nth r i with
    | some (.x _ [l] [w]) => if Nat.beq l f then (.ok w r, k) else (.bad, k)
    | _ => (.bad, k))
  | .xis i cs no, r, k => (match nth r i with
    | some (.x c [_] [_]) => if cs.any (Nat.beq c) then (.ok (.bl true) r, k) else if no.any (Nat.beq c) then (.ok (.bl false) r, k) else (.bad, k)
    | _ => (.bad, k))
  | .fld cl a f, r, k => bX (s.V a r k) fun x r1 k => ofW (fldV r1 cl f x) r1 k
  | .isc a cl, r, k => bX (s.V a r k) fun x r1 k => ofW ((vw r1 x).map fun w => iscW cl w) r1 k
  | .lset a, r, k => bX (s.V a r k) fun x r1 k => ofW ((vw r1 x).bind fun w => (extW w).bind setN) r1 k
  | .tix a e, r, k => bX (s.E a r k) fun x r1 k => (match x with
    | .tup _ => bX (s.E e r1 k) fun y r2 k => ofW (indexW x y) r2 k
    | _ => (.bad, k))
  | .oln cl f o, r, k => bX (stepAX s o r k) fun x r1 k => if clsA r1 cl 0 x then bX (noXX (runCX c f [x] r1 k)) fun u r2 k => ofW (lenU u) r2 k else (.bad, k)
  | .unk, _, k => (.bad, k)
def forLX (f : W → Env → Kt → SX) : List W → Env → Kt → SX
  | [], r, k => (.nx r, k)
  | w :: ws, r, k => match f w r k with
    | (.nx r1, k) => forLX f ws r1 k
    | (.ct r1, k) => forLX f ws r1 k
    | (.bk r1, k) => (.nx r1, k)
    | x => x
def unXX (i : Nat) (x : SX) : SX := (unX i x.1, x.2)
def handleX (s : SFX) (x : Xn) (r : Env) (k : Kt) (cs no : List Nat) (i : Nat) (h : List IS) : SX := if cs.any (Nat.beq x.c) then (match nth r i with
    | some e => if plainE e then unXX i (s.S h (r.set i (.x x.c x.ks x.ws)) k) else (.bad, k)
    | none => (.bad, k)) else if no.any (Nat.beq x.c) then (.ex x r, k) else (.bad, k)
def pickX (s : SFX) (w : W) (r : Env) (k : Kt) : List (W × List IS) → SX
  | [] => (.nx r, k)
  | (u, b) :: cs => match eqW w u with
    | some true => s.S b r k
    | some false => pickX s w r k cs
    | none => (.bad, k)
def stepSX (s : SFX) : IS → Env → Kt → SX
  | .exp e, r, k => tX (s.E e r k) fun _ r1 k => (.nx r1, k)
  | .asg g e, r, k => tX (s.E e r k) fun w r1 k => match bindG g w r1 with
    | some r2 => (.nx r2, k)
    | none => (.bad, k)
  | .own i x, r, k => tX (s.U x r k) fun u r1 k => match setV r1 i u with
    | some r2 => (.nx r2, k)
    | none => (.bad, k)
  | .par i j a b, r, k => tX (s.E a r k) fun x r1 k => tX (s.E b r1 k) fun y r2 k => match (setV r2 i (.d x)).bind fun r3 => setV r3 j (.d y) with
    | some r4 => (.nx r4, k)
    | none => (.bad, k)
  | .par2 i j a b, r, k => tX (s.U a r k) fun x r1 k => tX (s.U b r1 k) fun y r2 k => match (setV r2 i x).bind fun r3 => setV r3 j y with
    | some r4 => (.nx r4, k)
    | none => (.bad, k)
  | .fset c i f x, r, k => tX (s.U x r k) fun u r1 k => (match lookU r1 i with
    | some (.o cl ks us) => if Nat.beq cl c && Nat.blt ks.length 900 then (match putV r1 i (.o cl (fput f u ks us).1 (fput f u ks us).2) with
      | some r2 => (.nx r2, k)
      | none => (.bad, k)) else (.bad, k)
    | _ => (.bad, k))
  | .sub i a e, r, k => tX (s.E e r k) fun v r1 k => (match lookU r1 i with
    | some (.l _) => tX (s.E a r1 k) fun n r2 k => (putS i v n r2, k)
    | _ => (.bad, k))
  | .dsub i a e, r, k => tX (s.E e r k) fun v r1 k => (match lookU r1 i with
    | some (.c _ _) => tX (s.E a r1 k) fun n r2 k => (dputS i v n r2, k)
    | _ => (.bad, k))
  | .ret x, r, k => tX (s.U x r k) fun u r1 k => (.rt u r1, k)
  | .ifs t a b, r, k => tX (s.T t r k) fun c r1 k => if c then s.S a r1 k else s.S b r1 k
  | .for g it body, r, k => ofF (stepS s.s (.for g it body) r) k fun k => tX (stepIX s it r k) fun q r1 k => if q.ks.isEmpty then forLX (fun w r2 k => match bindG g w r2 with
      | some r3 => s.S body r3 k
      | none => (.bad, k)) q.ws r1 k else (.bad, k)
  | .whl t body, r, k => ofF (s.s.Wh t body r) k fun k => s.Wh t body r k
  | .lc b i elt g own it t, r, k => tX (compMX s elt g own it t r k) fun ws r1 k => match setV r1 i (if b then .l (ws.map U.d) else .d (.lis ws)) with
    | some r2 => (.nx r2, k)
    | none => (.bad, k)
  | .rse c f e, r, k => (match f, e with
    | some f, some e => tX (s.E e r k) fun w r1 k => (.ex ⟨c, [f], [w]⟩ r1, k)
    | none, none => (.ex ⟨c, [], []⟩ r, k)
    | _, _ => (.bad, k))
  | .try body cs no i h, r, k => (match s.S body r k with
    | (.ex x r1, k) => handleX s x r1 k cs no i h
    | y => y)
  | .mat e cs, r, k => tX (s.E e r k) fun w r1 k => pickX s w r1 k cs
  | .pass, r, k => (.nx r, k)
  | .brk, r, k => (.bk r, k)
  | .cont, r, k => (.ct r, k)
  | .unk, _, k => (.bad, k)
def stepSsX (s : SFX) : List IS → Env → Kt → SX
  | [], r, k => (.nx r, k)
  | st :: sts, r, k => match stepSX s st r k with
    | (.nx r1, k) => stepSsX s sts r1 k
    | x => x
def stepWhX (s : SFX) (t : IT) (body : List IS) (r : Env) (k : Kt) : SX := tX (s.T t r k) fun b r1 k => if b then (match s.S body r1 k with
    | (.nx r2, k) => s.Wh t body r2 k
    | (.ct r2, k) => s.Wh t body r2 k
    | (.bk r2, k) => (.nx r2, k)
    | x => x) else (.nx r1, k)
def lvlX (c : CF) : Nat → SFX
  | 0 => SFX.bot
  | n + 1 => ⟨lvl c (n + 1), stepEX c (lvlX c n), stepVX (lvlX c n), stepTX (lvlX c n), stepUX c (lvlX c n), stepSsX (lvlX c n), stepWhX (lvlX c n)⟩
end FM


set_option linter.all false
set_option maxRecDepth 100000
set_option maxHeartbeats 2000000
namespace FM
def Ob.ok (c : CF) : Ob → Prop
  | .a f es y => c f es = y
  | .v o y => o = some y
  | .t o y => o = some y
  | .u o y => o = some y
  | .q o y => o = .ok .non y
  | .m o ws r => o = .ok ws r
  | .lp o x => o = x
def Gd (c : CF) : List Ob → Prop
  | [] => True
  | [q] => q.ok c
  | q :: l => q.ok c ∧ Gd c l
theorem Gd.cons {c : CF} {q : Ob} {l : List Ob} : Gd c (q :: l) ↔ q.ok c ∧ Gd c l := by
  cases l with
  | nil => exact ⟨fun h => ⟨h, trivial⟩, fun h => h.1⟩
  | cons p l => exact Iff.rfl
theorem Gd.both {c : CF} : ∀ {a b : List Ob}, Gd c (a ++ b) → Gd c a ∧ Gd c b
  | [], b, h => ⟨trivial, h⟩
  | q :: a, b, h => by
    have h := Gd.cons.mp (show Gd c (q :: (a ++ b)) from h)
    obtain ⟨h1, h2⟩ := Gd.both h.2
    exact ⟨Gd.cons.mpr ⟨h.1, h1⟩, h2⟩
theorem Gd.l {c : CF} {a b : List Ob} (h : Gd c (a ++ b)) : Gd c a := h.both.1
theorem Gd.r {c : CF} {a b : List Ob} (h : Gd c (a ++ b)) : Gd c b := h.both.2
def Ag (c : CF) {α : Type} (k : Kt) (x : Res α) (y : RX α) : Prop := ∃ l, y.2.lg = l ++ k.lg ∧ (Gd c l → y.1 = .bad ∨ x = y.1)
def AgS (c : CF) (k : Kt) (x : SRes) (y : SX) : Prop := ∃ l, y.2.lg = l ++ k.lg ∧ (Gd c l → y.1 = .bad ∨ x = y.1)
section
variable {c : CF} {α β : Type} {k : Kt}
theorem Ag.p {x : Res α} : Ag c k x (x, k) := ⟨[], rfl, fun _ => .inr rfl⟩
theorem Ag.b {x : Res α} : Ag c k x (.bad, k) := ⟨[], rfl, fun _ => .inl rfl⟩
theorem AgS.p {x : SRes} : AgS c k x (x, k) := ⟨[], rfl, fun _ => .inr rfl⟩
theorem AgS.b {x : SRes} : AgS c k x (.bad, k) := ⟨[], rfl, fun _ => .inl rfl⟩
theorem Ag.bind {m : Res α} {y : RX α} {f : α → Env → Res β} {g : α → Env → Kt → RX β} (h : Ag c k m y) (hf : ∀ a r k1, Ag c k1 (f a r) (g a r k1)) : Ag c k (m.bind f) (bX y g) := by
  obtain ⟨l, e, h⟩ := h
  obtain ⟨y1, k1⟩ := y
  cases y1 with
  | bad => exact ⟨l, e, fun _ => .inl rfl⟩
  | ex x r =>
    refine ⟨l, e, fun G => ?_⟩
    rcases h G with z | rfl
    · cases z
    · exact .inr rfl
  | ok a r =>
    obtain ⟨l2, e2, h2⟩ := hf a r k1
    refine ⟨l2 ++ l, ?_, fun G => ?_⟩
    · show (g a r k1).2.lg = _
      rw [e2, show k1.lg = l ++ k.lg from e, List.append_assoc]
    · rcases h G.r with z | rfl
      · cases z
      · exact h2 G.l
theorem Ag.toS {m : Res α} {y : RX α} {f : α → Env → SRes} {g : α → Env → Kt → SX} (h : Ag c k m y) (hf : ∀ a r k1, AgS c k1 (f a r) (g a r k1)) : AgS c k (m.toS f) (tX y g) := by
  obtain ⟨l, e, h⟩ := h
  obtain ⟨y1, k1⟩ := y
  cases y1 with
  | bad => exact ⟨l, e, fun _ => .inl rfl⟩
  | ex x r =>
    refine ⟨l, e, fun G => ?_⟩
    rcases h G with z | rfl
    · cases z
    · exact .inr rfl
  | ok a r =>
    obtain ⟨l2, e2, h2⟩ := hf a r k1
    refine ⟨l2 ++ l, ?_, fun G => ?_⟩
    · show (g a r k1).2.lg = _
      rw [e2, show k1.lg = l ++ k.lg from e, List.append_assoc]
    · rcases h G.r with z | rfl
      · cases z
      · exact h2 G.l
end
section
variable {c : CF} {k : Kt} {r : Env}
theorem Ag.ow {o : Option W} : Ag c k (Res.of o r) (ofW o r k) := by
  unfold ofW
  split
  · exact ⟨[_], rfl, fun h => .inr (by rw [show o = some _ from h]; rfl)⟩
  · exact ⟨[], rfl, fun _ => .inr rfl⟩
  · exact Ag.p
theorem Ag.ot {o : Option Bool} : Ag c k (Res.of o r) (ofT o r k) := by
  unfold ofT
  split
  · exact ⟨[_], rfl, fun h => .inr (by rw [show o = some _ from h]; rfl)⟩
  · exact ⟨[], rfl, fun _ => .inr rfl⟩
  · exact Ag.p
theorem Ag.ou {o : Option U} : Ag c k (Res.of o r) (ofU o r k) := by
  unfold ofU
  split
  · exact ⟨[_], rfl, fun h => .inr (by rw [show o = some _ from h]; rfl)⟩
  · exact ⟨[], rfl, fun _ => .inr rfl⟩
  · exact Ag.p
theorem Ag.oq {o : Res W} : Ag c k o (ofQ o k) := by
  unfold ofQ
  split
  · exact ⟨[_], rfl, fun h => .inr h⟩
  · exact ⟨[], rfl, fun _ => .inr rfl⟩
  · exact Ag.p
theorem Ag.om {o : Res (List W)} {go : Kt → RX (List W)} (h : ∀ k, Ag c k o (go k)) : Ag c k o (ofM o k go) := by
  unfold ofM
  split
  · exact ⟨[_], rfl, fun h => .inr h⟩
  · exact h ⟨_, k.lg⟩
  · exact h k
theorem AgS.of {o : SRes} {go : Kt → SX} (h : ∀ k, AgS c k o (go k)) : AgS c k o (ofF o k go) := by
  unfold ofF
  split
  · exact ⟨[_], rfl, fun h => .inr h⟩
  · exact h ⟨_, k.lg⟩
  · exact h k
end
structure Tr (c : CF) (s : SF) (sX : SFX) : Prop where
  sf : sX.s = s
  E : ∀ e r k, Ag c k (s.E e r) (sX.E e r k)
  V : ∀ e r k, Ag c k (s.V e r) (sX.V e r k)
  T : ∀ e r k, Ag c k (s.T e r) (sX.T e r k)
  U : ∀ e r k, Ag c k (s.U e r) (sX.U e r k)
  S : ∀ e r k, AgS c k (s.S e r) (sX.S e r k)
  Wh : ∀ t b r k, AgS c k (s.Wh t b r) (sX.Wh t b r k)
section
variable {c : CF} {s : SF} {sX : SFX} (Y : Tr c s sX)
theorem evs_x {α β : Type} {f : α → Env → Res β} {g : α → Env → Kt → RX β} (h : ∀ a r k, Ag c k (f a r) (g a r k)) : ∀ (es : List α) (r : Env) (k : Kt), Ag c k (evs f es r) (evsX g es r k)
  | [], r, k => Ag.p
  | e :: es, r, k => (h e r k).bind fun w r1 k1 => (evs_x h es r1 k1).bind fun ws r2 k2 => Ag.p
include Y
theorem opt_x (e : Option IE) (r : Env) (k : Kt) : Ag c k (optE s e r) (optEX sX e r k) := by
  cases e with
  | none => exact Ag.p
  | some e => exact (Y.E e r k).bind fun x r1 k1 => by cases x <;> first | exact Ag.p | exact Ag.b
theorem step_i (i : II) (r : Env) (k : Kt) : Ag c k (stepI s i r) (stepIX sX i r k) := by
  cases i with
  | v a => exact (Y.V a r k).bind fun x r1 k1 => Ag.p
  | rng a =>
    refine (Y.E a r k).bind fun x r1 k1 => ?_
    cases x with
    | int n =>
      dsimp only
      split
      · exact Ag.p
      · exact Ag.b
    | _ => exact Ag.b
  | rng2 a b =>
    refine (Y.E a r k).bind fun x r1 k1 => (Y.E b r1 k1).bind fun y r2 k2 => ?_
    cases x with
    | int m =>
      cases y with
      | int n =>
        dsimp only
        split
        · exact Ag.p
        · exact Ag.b
      | _ => exact Ag.b
    | _ => exact Ag.b
  | zip a b => exact (Y.V a r k).bind fun x r1 k1 => (Y.V b r1 k1).bind fun y r2 k2 => Ag.p
  | enm a => exact (Y.V a r k).bind fun x r1 k1 => Ag.p
omit Y in
theorem comp_l (q : Wk) (own : List Nat) {f : W → Env → Res (Option W)} {g : W → Env → Kt → RX (Option W)} (h : ∀ w r k, Ag c k (f w r) (g w r k)) : ∀ (ws : List W) (r : Env) (k : Kt), Ag c k (compL q own f ws r) (compLX q own g ws r k)
  | [], r, k => by
    unfold compL compLX
    split
    · exact Ag.p
    · exact Ag.b
  | w :: ws, r, k => by
    unfold compL compLX
    split
    · obtain ⟨l, e, hw⟩ := h w r k
      generalize hy : g w r k = y at e hw ⊢
      obtain ⟨y1, k1⟩ := y
      cases y1 with
      | bad => exact ⟨l, e, fun _ => .inl rfl⟩
      | ex x r1 => exact ⟨l, e, fun _ => .inl rfl⟩
      | ok o r1 =>
        obtain ⟨l2, e2, h2⟩ := comp_l q own h ws (wipe r1 own) k1
        dsimp only
        generalize hz : compLX q own g ws (wipe r1 own) k1 = z at e2 h2 ⊢
        obtain ⟨z1, k2⟩ := z
        have el : k2.lg = (l2 ++ l) ++ k.lg := by rw [show k2.lg = l2 ++ k1.lg from e2, show k1.lg = l ++ k.lg from e, List.append_assoc]
        cases z1 with
        | bad => exact ⟨l2 ++ l, el, fun _ => .inl rfl⟩
        | ex x r2 => exact ⟨l2 ++ l, el, fun _ => .inl rfl⟩
        | ok us r2 =>
          cases o with
          | none =>
            refine ⟨l2 ++ l, el, fun G => ?_⟩
            rcases hw G.r with z | e1
            · cases z
            · rcases h2 G.l with z | e3
              · cases z
              · right
                rw [e1]
                dsimp only
                rw [e3]
          | some u =>
            refine ⟨l2 ++ l, el, fun G => ?_⟩
            rcases hw G.r with z | e1
            · cases z
            · rcases h2 G.l with z | e3
              · cases z
              · right
                rw [e1]
                dsimp only
                rw [e3]
    · exact Ag.b
theorem turn_l (elt : IE) (g : IG) (t : Option IT) (w : W) (r : Env) (k : Kt) : Ag c k (turnL s elt g t w r) (turnLX sX elt g t w r k) := by
  unfold turnL turnLX
  cases bindG g w r with
  | none => exact Ag.b
  | some r1 =>
    cases t with
    | none => exact (Y.E elt r1 k).bind fun u r2 k2 => Ag.p
    | some t =>
      refine (Y.T t r1 k).bind fun b r2 k2 => ?_
      cases b with
      | true => exact (Y.E elt r2 k2).bind fun u r3 k3 => Ag.p
      | false => exact Ag.p
theorem comp_m (elt : IE) (g : IG) (own : List Nat) (it : II) (t : Option IT) (r : Env) (k : Kt) : Ag c k (compM s elt g own it t r) (compMX sX elt g own it t r k) := by
  unfold compMX
  rw [Y.sf]
  refine Ag.om fun k => ?_
  refine (step_i Y it r k).bind fun q r1 k1 => ?_
  split
  · obtain ⟨l, e, h⟩ := comp_l q own (turn_l Y elt g t) q.ws (wipe r1 own) k1
    generalize hy : compLX q own (turnLX sX elt g t) q.ws (wipe r1 own) k1 = y at e h ⊢
    obtain ⟨y1, k2⟩ := y
    cases y1 with
    | bad => exact ⟨l, e, fun _ => .inl rfl⟩
    | ex x r1 => exact ⟨l, e, fun _ => .inl rfl⟩
    | ok ws r2 =>
      refine ⟨l, e, fun G => ?_⟩
      rcases h G with z | e1
      · cases z
      · right
        rw [e1]
  · exact Ag.b
theorem step_a (a : IA) (r : Env) (k : Kt) : Ag c k (stepA s a r) (stepAX sX a r k) := by
  cases a with
  | d e => exact (Y.E e r k).bind fun w r1 k1 => Ag.p
  | r i =>
    show Ag c k (match lookU r i with | some _ => Res.ok (AV.r i) r | none => .bad) (match lookU r i with | some _ => (Res.ok (AV.r i) r, k) | none => (.bad, k))
    cases lookU r i with
    | none => exact Ag.b
    | some _ => exact Ag.p
  | u x => exact (Y.U x r k).bind fun w r1 k1 => Ag.p
omit Y in
theorem call_x1 (f : Nat) (es : List En) (k : Kt) : ∃ l, (callX1 c f es k).2.lg = l ++ k.lg ∧ (Gd c l → c f es = (callX1 c f es k).1) := by
  unfold callX1
  split
  · exact ⟨[_], rfl, fun h => h⟩
  · split
    · exact ⟨[], rfl, fun _ => rfl⟩
    · exact ⟨[], rfl, fun _ => rfl⟩
omit Y in
theorem run_c (f : Nat) (as : List AV) (r : Env) (k : Kt) : Ag c k (runC c f as r) (runCX c f as r k) := by
  unfold runC runCX
  cases args r as with
  | none => exact Ag.b
  | some q =>
    obtain ⟨es, is⟩ := q
    dsimp only
    obtain ⟨l, e, h⟩ := call_x1 (c := c) f es k
    generalize callX1 c f es k = z at e h ⊢
    obtain ⟨z1, k1⟩ := z
    dsimp only at e h
    cases z1 with
    | ok u os =>
      dsimp only
      cases hp : puts r is os with
      | none => exact ⟨l, e, fun G => .inl rfl⟩
      | some r1 => exact ⟨l, e, fun G => .inr (by rw [h G]; dsimp only; rw [hp])⟩
    | ex u os =>
      dsimp only
      cases hp : puts r is os with
      | none => exact ⟨l, e, fun G => .inl rfl⟩
      | some r1 => exact ⟨l, e, fun G => .inr (by rw [h G]; dsimp only; rw [hp])⟩
    | bad => exact ⟨l, e, fun G => .inl rfl⟩
omit Y in
theorem run_m (cl f : Nat) (as : List AV) (r : Env) (k : Kt) : Ag c k (runM c cl f as r) (runMX c cl f as r k) := by
  unfold runM runMX
  cases args r as with
  | none => exact Ag.b
  | some q =>
    obtain ⟨es, is⟩ := q
    dsimp only
    obtain ⟨l, e, h⟩ := call_x1 (c := c) f (.t (.o cl [] []) :: es) k
    generalize callX1 c f (.t (.o cl [] []) :: es) k = z at e h ⊢
    obtain ⟨z1, k1⟩ := z
    dsimp only at e h
    cases z1 with
    | ok u os =>
      cases u with
      | d w =>
        cases w with
        | non =>
          cases os with
          | nil => exact ⟨l, e, fun G => .inl rfl⟩
          | cons u os =>
            dsimp only
            cases hp : puts r is os with
            | none => exact ⟨l, e, fun G => .inl rfl⟩
            | some r1 => exact ⟨l, e, fun G => .inr (by rw [h G]; dsimp only; rw [hp])⟩
        | _ => exact ⟨l, e, fun G => .inl rfl⟩
      | _ => exact ⟨l, e, fun G => .inl rfl⟩
    | ex u os =>
      cases os with
      | nil => exact ⟨l, e, fun G => .inl rfl⟩
      | cons v os =>
        dsimp only
        cases hp : puts r is os with
        | none => exact ⟨l, e, fun G => .inl rfl⟩
        | some r1 => exact ⟨l, e, fun G => .inr (by rw [h G]; dsimp only; rw [hp])⟩
    | bad => exact ⟨l, e, fun G => .inl rfl⟩
omit Y in
theorem no_x {α : Type} {k : Kt} {m : Res α} {y : RX α} (h : Ag c k m y) : Ag c k (noX m) (noXX y) := by
  obtain ⟨l, e, h⟩ := h
  obtain ⟨y1, k1⟩ := y
  cases y1 with
  | ok a r => exact ⟨l, e, fun G => (h G).elim (fun z => by cases z) fun z => .inr (by rw [z]; rfl)⟩
  | ex x r => exact ⟨l, e, fun G => .inl rfl⟩
  | bad => exact ⟨l, e, fun G => .inl rfl⟩
omit Y in
theorem comp_l2 (q : Wk) (own : List Nat) {f : W → Env → Res (List W)} {g : W → Env → Kt → RX (List W)} (h : ∀ w r k, Ag c k (f w r) (g w r k)) : ∀ (ws : List W) (r : Env) (k : Kt), Ag c k (compL2 q own f ws r) (compL2X q own g ws r k)
  | [], r, k => by
    unfold compL2 compL2X
    split
    · exact Ag.p
    · exact Ag.b
  | w :: ws, r, k => by
    unfold compL2 compL2X
    split
    · obtain ⟨l, e, hw⟩ := h w r k
      generalize hy : g w r k = y at e hw ⊢
      obtain ⟨y1, k1⟩ := y
      cases y1 with
      | bad => exact ⟨l, e, fun _ => .inl rfl⟩
      | ex x r1 => exact ⟨l, e, fun _ => .inl rfl⟩
      | ok o r1 =>
        obtain ⟨l2, e2, h2⟩ := comp_l2 q own h ws (wipe r1 own) k1
        dsimp only
        generalize hz : compL2X q own g ws (wipe r1 own) k1 = z at e2 h2 ⊢
        obtain ⟨z1, k2⟩ := z
        have el : k2.lg = (l2 ++ l) ++ k.lg := by rw [show k2.lg = l2 ++ k1.lg from e2, show k1.lg = l ++ k.lg from e, List.append_assoc]
        cases z1 with
        | bad => exact ⟨l2 ++ l, el, fun _ => .inl rfl⟩
        | ex x r2 => exact ⟨l2 ++ l, el, fun _ => .inl rfl⟩
        | ok us r2 =>
          refine ⟨l2 ++ l, el, fun G => ?_⟩
          rcases hw G.r with z | e1
          · cases z
          · rcases h2 G.l with z | e3
            · cases z
            · right
              rw [e1]
              dsimp only
              rw [e3]
    · exact Ag.b
theorem turn_l2 (elt : IE) (g : IG) (t : Option IT) (g1 : IG) (e1 : IE) (t1 : Option IT) (own1 : List Nat) (w : W) (r : Env) (k : Kt) : Ag c k (turnL2 s elt g t g1 e1 t1 own1 w r) (turnL2X sX elt g t g1 e1 t1 own1 w r k) := by
  unfold turnL2 turnL2X
  cases bindG g w r with
  | none => exact Ag.b
  | some r1 =>
    dsimp only
    have hc : Ag c k (match t with | none => Res.ok true r1 | some t => s.T t r1) (condX sX t r1 k) := by
      cases t with
      | none => exact Ag.p
      | some t => exact Y.T t r1 k
    refine hc.bind fun b r2 k2 => ?_
    cases b with
    | false => exact Ag.p
    | true =>
      refine (Y.E e1 r2 k2).bind fun u r3 k3 => ?_
      cases extW u with
      | none => exact Ag.b
      | some ws => exact comp_l ⟨ws, []⟩ own1 (turn_l Y elt g1 t1) ws _ _
theorem comp_m2 (elt : IE) (g : IG) (it : II) (t : Option IT) (g1 : IG) (e1 : IE) (t1 : Option IT) (own own1 : List Nat) (r : Env) (k : Kt) : Ag c k (compM2 s elt g it t g1 e1 t1 own own1 r) (compM2X sX elt g it t g1 e1 t1 own own1 r k) := by
  unfold compM2X
  rw [Y.sf]
  refine Ag.om fun k => ?_
  refine (step_i Y it r k).bind fun q r1 k1 => ?_
  split
  · obtain ⟨l, e, h⟩ := comp_l2 q own (turn_l2 Y elt g t g1 e1 t1 own1) q.ws (wipe r1 own) k1
    generalize hy : compL2X q own (turnL2X sX elt g t g1 e1 t1 own1) q.ws (wipe r1 own) k1 = y at e h ⊢
    obtain ⟨y1, k2⟩ := y
    cases y1 with
    | bad => exact ⟨l, e, fun _ => .inl rfl⟩
    | ex x r1 => exact ⟨l, e, fun _ => .inl rfl⟩
    | ok ws r2 =>
      dsimp only at e h ⊢
      by_cases hs : Nat.ble ws.length size = true
      · rw [if_pos hs]
        refine ⟨l, e, fun G => ?_⟩
        rcases h G with z | z
        · cases z
        · right
          rw [z]
          dsimp only
          rw [if_pos hs]
      · rw [if_neg hs]
        exact ⟨l, e, fun G => .inl rfl⟩
  · exact Ag.b
theorem step_u (x : IU) (r : Env) (k : Kt) : Ag c k (stepU c s x r) (stepUX c sX x r k) := by
  cases x with
  | d e => exact (Y.E e r k).bind fun w r1 k1 => Ag.p
  | mv i =>
    show Ag c k (match mvV r i with | some (u, r1) => Res.ok u r1 | none => .bad) (match mvV r i with | some (u, r1) => (Res.ok u r1, k) | none => (.bad, k))
    cases mvV r i with
    | none => exact Ag.b
    | some q => exact Ag.p
  | lst es => exact (evs_x Y.E es r k).bind fun ws r1 k1 => Ag.p
  | comp elt g own it t => exact (comp_m Y elt g own it t r k).bind fun ws r1 k1 => Ag.p
  | cat a b => exact (Y.V a r k).bind fun x r1 k1 => (Y.V b r1 k1).bind fun y r2 k2 => Ag.ou
  | rep a n => exact (Y.V a r k).bind fun x r1 k1 => (Y.E n r1 k1).bind fun y r2 k2 => by cases y <;> first | exact Ag.ou | exact Ag.b
  | slc a lo hi => exact (Y.V a r k).bind fun x r1 k1 => (opt_x Y lo r1 k1).bind fun l r2 k2 => (opt_x Y hi r2 k2).bind fun h r3 k3 => Ag.ou
  | lof a => exact (Y.V a r k).bind fun x r1 k1 => Ag.ou
  | srt a => exact (Y.V a r k).bind fun x r1 k1 => Ag.ou
  | ndic => exact Ag.p
  | dlt ps =>
    refine (evs_x (fun p r k => (Y.E p.1 r k).bind fun a r1 k1 => (Y.E p.2 r1 k1).bind fun v r2 k2 => Ag.p) ps r k).bind fun qs r1 k1 => ?_
    split
    · exact Ag.p
    · exact Ag.b
  | call f as => exact (evs_x (step_a Y) as r k).bind fun vs r1 k1 => run_c f vs r1 k1
  | callK f as => exact (evs_x (step_a Y) as r k).bind fun vs r1 k1 => run_c f vs r1 k1
  | callD f as ds => exact (evs_x (step_a Y) as r k).bind fun vs r1 k1 => run_c f _ r1 k1
  | make cl f as ds => exact (evs_x (step_a Y) as r k).bind fun vs r1 k1 => run_m cl f _ r1 k1
  | mth cl m f o as ds =>
    refine (step_a Y o r k).bind fun x r1 k1 => ?_
    split
    · exact (evs_x (step_a Y) as r1 k1).bind fun vs r1 k1 => run_c f _ r1 k1
    · exact Ag.b
  | prp cl f o =>
    refine (step_a Y o r k).bind fun x r1 k1 => ?_
    split
    · exact no_x (run_c f _ r1 k1)
    · exact Ag.b
  | comp2 elt g it t g1 e1 t1 own own1 => exact (comp_m2 Y elt g it t g1 e1 t1 own own1 r k).bind fun ws r1 k1 => Ag.p
theorem step_v (x : IV) (r : Env) (k : Kt) : Ag c k (stepV s x r) (stepVX sX x r k) := by
  cases x with
  | e e => exact (Y.E e r k).bind fun w r1 k1 => Ag.p
  | s i =>
    show Ag c k (match lookU r i with | some _ => Res.ok (Arg.sl i) r | none => .bad) (match lookU r i with | some _ => (Res.ok (Arg.sl i) r, k) | none => (.bad, k))
    cases lookU r i with
    | none => exact Ag.b
    | some q => exact Ag.p
  | u x => exact (Y.U x r k).bind fun w r1 k1 => Ag.p
theorem and_e : ∀ (es : List IE) (r : Env) (k : Kt), Ag c k (andE s es r) (andEX sX es r k)
  | [], r, k => Ag.b
  | [e], r, k => Y.E e r k
  | e :: f :: es, r, k => (Y.E e r k).bind fun w r1 k1 => by
      cases w with
      | bl b => cases b with
        | true => exact and_e (f :: es) r1 k1
        | false => exact Ag.p
      | _ => exact Ag.b
theorem or_e : ∀ (es : List IE) (r : Env) (k : Kt), Ag c k (orE s es r) (orEX sX es r k)
  | [], r, k => Ag.b
  | [e], r, k => Y.E e r k
  | e :: f :: es, r, k => (Y.E e r k).bind fun w r1 k1 => by
      cases w with
      | bl b => cases b with
        | true => exact Ag.p
        | false => exact or_e (f :: es) r1 k1
      | _ => exact Ag.b
theorem and_t : ∀ (es : List IT) (r : Env) (k : Kt), Ag c k (andT s es r) (andTX sX es r k)
  | [], r, k => Ag.b
  | [e], r, k => Y.T e r k
  | e :: f :: es, r, k => (Y.T e r k).bind fun b r1 k1 => by
      cases b with
      | true => exact and_t (f :: es) r1 k1
      | false => exact Ag.p
theorem or_t : ∀ (es : List IT) (r : Env) (k : Kt), Ag c k (orT s es r) (orTX sX es r k)
  | [], r, k => Ag.b
  | [e], r, k => Y.T e r k
  | e :: f :: es, r, k => (Y.T e r k).bind fun b r1 k1 => by
      cases b with
      | true => exact Ag.p
      | false => exact or_t (f :: es) r1 k1
theorem cmp_s (op : C2) (a b : IV) (r : Env) (k : Kt) : Ag c k (cmpS s op a b r) (cmpSX sX op a b r k) := (Y.V a r k).bind fun x r1 k1 => (Y.V b r1 k1).bind fun y r2 k2 => Ag.ot
theorem chn_s (op op' : C2) (a b d : IV) (r : Env) (k : Kt) : Ag c k (chnS s op op' a b d r) (chnSX sX op op' a b d r k) := (Y.V a r k).bind fun x r1 k1 => (Y.V b r1 k1).bind fun y r2 k2 => by
  have h : Ag c k2 ((Res.of (cmp2 op x y r2) r2).bind fun t r2 => if t then (s.V d r2).bind fun z r3 => Res.of (cmp2 op' y z r3) r3 else .ok false r2) (bX (ofT (cmp2 op x y r2) r2 k2) fun t r2 k => if t then bX (sX.V d r2 k) fun z r3 k => ofT (cmp2 op' y z r3) r3 k else (.ok false r2, k)) := by
    refine Ag.ot.bind fun t r3 k3 => ?_
    cases t with
    | true => exact (Y.V d r3 k3).bind fun z r4 k4 => Ag.ot
    | false => exact Ag.p
  cases hq : cmp2 op x y r2 with
  | none => rw [hq] at h; exact h
  | some b => cases b <;> (rw [hq] at h; exact h)
theorem step_t (x : IT) (r : Env) (k : Kt) : Ag c k (stepT s x r) (stepTX sX x r k) := by
  cases x with
  | val e => exact (Y.E e r k).bind fun w r1 k1 => by cases w <;> first | exact Ag.p | exact Ag.b
  | cmp op a b => exact cmp_s Y op a b r k
  | chn op op' a b d => exact chn_s Y op op' a b d r k
  | and ts => exact and_t Y ts r k
  | or ts => exact or_t Y ts r k
  | not t => exact (Y.T t r k).bind fun b r1 k1 => Ag.p
theorem step_e (x : IE) (r : Env) (k : Kt) : Ag c k (stepE c s x r) (stepEX c sX x r k) := by
  cases x with
  | var i =>
    show Ag c k (match rdV r i with | some (w, r1) => Res.ok w r1 | none => .bad) (match rdV r i with | some (w, r1) => (Res.ok w r1, k) | none => (.bad, k))
    cases rdV r i with
    | none => exact Ag.b
    | some q => exact Ag.p
  | cst w => exact Ag.p
  | tup es => exact (evs_x Y.E es r k).bind fun ws r1 k1 => Ag.p
  | frz x => exact (Y.U x r k).bind fun w r1 k1 => Ag.p
  | bin op a b => exact (Y.V a r k).bind fun x r1 k1 => (Y.V b r1 k1).bind fun y r2 k2 => Ag.ow
  | neg a => exact (Y.E a r k).bind fun w r1 k1 => by cases w <;> first | exact Ag.p | exact Ag.b
  | cmp op a b => exact (cmp_s Y op a b r k).bind fun w r1 k1 => Ag.p
  | chn op op' a b d => exact (chn_s Y op op' a b d r k).bind fun w r1 k1 => Ag.p
  | and es => exact and_e Y es r k
  | or es => exact or_e Y es r k
  | not a => exact (Y.E a r k).bind fun w r1 k1 => by cases w <;> first | exact Ag.p | exact Ag.b
  | ite t a b =>
    refine (Y.T t r k).bind fun x r1 k1 => ?_
    cases x with
    | true => exact Y.E a r1 k1
    | false => exact Y.E b r1 k1
  | idx a i => exact (Y.V a r k).bind fun x r1 k1 => (Y.E i r1 k1).bind fun y r2 k2 => Ag.ow
  | slc a lo hi => exact (Y.V a r k).bind fun x r1 k1 => (opt_x Y lo r1 k1).bind fun l r2 k2 => (opt_x Y hi r2 k2).bind fun h r3 k3 => Ag.ow
  | didx a i => exact (Y.V a r k).bind fun x r1 k1 => (Y.E i r1 k1).bind fun y r2 k2 => Ag.ow
  | dget i a d =>
    simp only [stepE, stepEX]
    cases lookU r i with
    | none => exact Ag.b
    | some u => cases u with
      | c ks us => exact (Y.E a r k).bind fun x r1 k1 => (Y.E d r1 k1).bind fun y r2 k2 => Ag.ow
      | _ => exact Ag.b
  | isi e t => exact (Y.V e r k).bind fun x r1 k1 => Ag.ow
  | blt f vs => exact (evs_x Y.V vs r k).bind fun ws r1 k1 => Ag.ow
  | app i e =>
    simp only [stepE, stepEX]
    cases lookU r i with
    | none => exact Ag.b
    | some u => cases u with
      | l us => exact (Y.E e r k).bind fun x r1 k1 => Ag.oq
      | _ => exact Ag.b
  | ext i e =>
    simp only [stepE, stepEX]
    cases lookU r i with
    | none => exact Ag.b
    | some u => cases u with
      | l us => exact (Y.V e r k).bind fun x r1 k1 => Ag.oq
      | _ => exact Ag.b
  | xfl i f =>
    have e : stepEX c sX (.xfl i f) r k = (stepE c s (.xfl i f) r, k) := by
      simp only [stepE, stepEX]
      generalize nth r i = o
      rcases o with _ | (_ | _ | _ | ⟨c', ks, ws⟩)
      case some.x =>
        rcases ks with _ | ⟨l, _ | ⟨_, _⟩⟩ <;> rcases ws with _ | ⟨w, _ | ⟨_, _⟩⟩ <;> first | rfl | (dsimp only; split <;> rfl)
      all_goals rfl
    rw [e]; exact Ag.p
  | xis i cs no =>
    have e : stepEX c sX (.xis i cs no) r k = (stepE c s (.xis i cs no) r, k) := by
      simp only [stepE, stepEX]
      generalize nth r i = o
      rcases o with _ | (_ | _ | _ | ⟨c', ks, ws⟩)
      case some.x =>
        rcases ks with _ | ⟨l, _ | ⟨_, _⟩⟩ <;> rcases ws with _ | ⟨w, _ | ⟨_, _⟩⟩ <;> first | rfl | (dsimp only; split; rfl; split <;> rfl)
      all_goals rfl
    rw [e]; exact Ag.p
  | fld cl a f => exact (Y.V a r k).bind fun x r1 k1 => Ag.ow
  | isc a cl => exact (Y.V a r k).bind fun x r1 k1 => Ag.ow
  | lset a => exact (Y.V a r k).bind fun x r1 k1 => Ag.ow
  | tix a e =>
    refine (Y.E a r k).bind fun x r1 k1 => ?_
    cases x with
    | tup ws => exact (Y.E e r1 k1).bind fun x r1 k1 => Ag.ow
    | _ => exact Ag.b
  | oln cl f o =>
    refine (step_a Y o r k).bind fun x r1 k1 => ?_
    split
    · exact (no_x (run_c f _ r1 k1)).bind fun u r1 k1 => Ag.ow
    · exact Ag.b
  | unk => exact Ag.b
omit Y in
theorem for_l {f : W → Env → SRes} {g : W → Env → Kt → SX} (h : ∀ w r k, AgS c k (f w r) (g w r k)) : ∀ (ws : List W) (r : Env) (k : Kt), AgS c k (forL f ws r) (forLX g ws r k)
  | [], r, k => AgS.p
  | w :: ws, r, k => by
    unfold forL forLX
    obtain ⟨l, e, hw⟩ := h w r k
    generalize hy : g w r k = y at e hw ⊢
    obtain ⟨y1, k1⟩ := y
    have go : ∀ r1, (Gd c l → f w r = .nx r1 ∨ f w r = .ct r1) → AgS c k (match f w r with | .nx r1 => forL f ws r1 | .ct r1 => forL f ws r1 | .bk r1 => .nx r1 | x => x) (forLX g ws r1 k1) := fun r1 hq => by
      obtain ⟨l2, e2, h2⟩ := for_l h ws r1 k1
      refine ⟨l2 ++ l, by rw [e2, show k1.lg = l ++ k.lg from e, List.append_assoc], fun G => ?_⟩
      rcases hq G.r with z | z <;> (rw [z]; exact h2 G.l)
    cases y1 with
    | nx r1 => exact go r1 fun G => (hw G).elim (fun z => by cases z) .inl
    | ct r1 => exact go r1 fun G => (hw G).elim (fun z => by cases z) .inr
    | bk r1 =>
      refine ⟨l, e, fun G => ?_⟩
      rcases hw G with z | z
      · cases z
      · right; rw [z]
    | rt u r1 =>
      refine ⟨l, e, fun G => ?_⟩
      rcases hw G with z | z
      · cases z
      · right; rw [z]
    | ex u r1 =>
      refine ⟨l, e, fun G => ?_⟩
      rcases hw G with z | z
      · cases z
      · right; rw [z]
    | bad => exact ⟨l, e, fun _ => .inl rfl⟩
theorem pick_x (w : W) (r : Env) (k : Kt) : ∀ cs : List (W × List IS), AgS c k (pick s w r cs) (pickX sX w r k cs)
  | [] => AgS.p
  | (u, b) :: cs => by
    unfold pick pickX
    cases eqW w u with
    | none => exact AgS.b
    | some x => cases x with
      | true => exact Y.S b r k
      | false => exact pick_x w r k cs
theorem handle_x (x : Xn) (r : Env) (k : Kt) (cs no : List Nat) (i : Nat) (h : List IS) : AgS c k (handle s x r cs no i h) (handleX sX x r k cs no i h) := by
  unfold handle handleX
  split
  · cases nth r i with
    | none => exact AgS.b
    | some e =>
      dsimp only
      split
      · obtain ⟨l, q, hh⟩ := Y.S h (r.set i (.x x.c x.ks x.ws)) k
        refine ⟨l, q, fun G => ?_⟩
        rcases hh G with z | z
        · left
          show unX i _ = _
          rw [z]; rfl
        · right
          show _ = unX i _
          rw [z]
      · exact AgS.b
  · split
    · exact AgS.p
    · exact AgS.b
theorem step_s (x : IS) (r : Env) (k : Kt) : AgS c k (stepS s x r) (stepSX sX x r k) := by
  cases x with
  | exp e => exact (Y.E e r k).toS fun w r1 k1 => AgS.p
  | asg g e =>
    refine (Y.E e r k).toS fun w r1 k1 => ?_
    cases bindG g w r1 with
    | none => exact AgS.b
    | some r2 => exact AgS.p
  | own i x =>
    refine (Y.U x r k).toS fun w r1 k1 => ?_
    cases setV r1 i w with
    | none => exact AgS.b
    | some r2 => exact AgS.p
  | par i j a b =>
    refine (Y.E a r k).toS fun w r1 k1 => (Y.E b r1 k1).toS fun v r2 k2 => ?_
    cases (setV r2 i (.d w)).bind fun r3 => setV r3 j (.d v) with
    | none => exact AgS.b
    | some r2 => exact AgS.p
  | par2 i j a b =>
    refine (Y.U a r k).toS fun w r1 k1 => (Y.U b r1 k1).toS fun v r2 k2 => ?_
    cases (setV r2 i w).bind fun r3 => setV r3 j v with
    | none => exact AgS.b
    | some r2 => exact AgS.p
  | fset cl i f x =>
    refine (Y.U x r k).toS fun u r1 k1 => ?_
    cases lookU r1 i with
    | none => exact AgS.b
    | some v => cases v with
      | o d ks us =>
        dsimp only
        split
        · cases putV r1 i (.o d (fput f u ks us).1 (fput f u ks us).2) with
          | none => exact AgS.b
          | some r2 => exact AgS.p
        · exact AgS.b
      | _ => exact AgS.b
  | sub i a e =>
    refine (Y.E e r k).toS fun w r1 k1 => ?_
    cases lookU r1 i with
    | none => exact AgS.b
    | some u => cases u with
      | l us => exact (Y.E a r1 k1).toS fun x r1 k1 => AgS.p
      | _ => exact AgS.b
  | dsub i a e =>
    refine (Y.E e r k).toS fun w r1 k1 => ?_
    cases lookU r1 i with
    | none => exact AgS.b
    | some u => cases u with
      | c ks us => exact (Y.E a r1 k1).toS fun x r1 k1 => AgS.p
      | _ => exact AgS.b
  | ret x => exact (Y.U x r k).toS fun w r1 k1 => AgS.p
  | ifs t a b =>
    refine (Y.T t r k).toS fun x r1 k1 => ?_
    cases x with
    | true => exact Y.S a r1 k1
    | false => exact Y.S b r1 k1
  | «for» g it body =>
    simp only [stepSX]
    rw [Y.sf]
    refine AgS.of fun k => ?_
    refine (step_i Y it r k).toS fun q r1 k1 => ?_
    split
    · exact for_l (fun w r2 k2 => by
        cases bindG g w r2 with
        | none => exact AgS.b
        | some r3 => exact Y.S body r3 k2) q.ws r1 k1
    · exact AgS.b
  | whl t body =>
    simp only [stepSX]
    rw [Y.sf]
    exact AgS.of fun k => Y.Wh t body r k
  | lc b i elt g own it t =>
    refine (comp_m Y elt g own it t r k).toS fun ws r1 k1 => ?_
    cases setV r1 i (if b then .l (ws.map U.d) else .d (.lis ws)) with
    | none => exact AgS.b
    | some r2 => exact AgS.p
  | rse q f e =>
    simp only [stepS, stepSX]
    cases f with
    | none => cases e with
      | none => exact AgS.p
      | some e => exact AgS.b
    | some f => cases e with
      | none => exact AgS.b
      | some e => exact (Y.E e r k).toS fun w r1 k1 => AgS.p
  | «try» body cs no i h =>
    simp only [stepS, stepSX]
    obtain ⟨l, e, hw⟩ := Y.S body r k
    generalize hy : sX.S body r k = y at e hw ⊢
    obtain ⟨y1, k1⟩ := y
    have same : ∀ y1, (∀ x r, y1 ≠ SRes.ex x r) → (Gd c l → y1 = .bad ∨ s.S body r = y1) → AgS c k (match s.S body r with | .ex x r1 => handle s x r1 cs no i h | y => y) (y1, k1) := fun y1 n q => ⟨l, e, fun G => by
      rcases q G with z | z
      · exact .inl z
      · right
        rw [z]
        cases y1 <;> first | rfl | exact absurd rfl (n _ _)⟩
    cases y1 with
    | ex x r1 =>
      obtain ⟨l2, e2, h2⟩ := handle_x Y x r1 k1 cs no i h
      refine ⟨l2 ++ l, ?_, fun G => ?_⟩
      · show (handleX sX x r1 k1 cs no i h).2.lg = _
        rw [e2, show k1.lg = l ++ k.lg from e, List.append_assoc]
      · rcases hw G.r with z | z
        · cases z
        · rw [z]; exact h2 G.l
    | nx r1 => exact same _ (fun _ _ z => nomatch z) hw
    | rt u r1 => exact same _ (fun _ _ z => nomatch z) hw
    | bk r1 => exact same _ (fun _ _ z => nomatch z) hw
    | ct r1 => exact same _ (fun _ _ z => nomatch z) hw
    | bad => exact same _ (fun _ _ z => nomatch z) hw
  | mat e cs => exact (Y.E e r k).toS fun w r1 k1 => pick_x Y w r1 k1 cs
  | pass => exact AgS.p
  | brk => exact AgS.p
  | cont => exact AgS.p
  | unk => exact AgS.b
theorem step_ss : ∀ (xs : List IS) (r : Env) (k : Kt), AgS c k (stepSs s xs r) (stepSsX sX xs r k)
  | [], r, k => AgS.p
  | x :: xs, r, k => by
    unfold stepSs stepSsX
    obtain ⟨l, e, hw⟩ := step_s Y x r k
    generalize hy : stepSX sX x r k = y at e hw ⊢
    obtain ⟨y1, k1⟩ := y
    have same : ∀ y1, (∀ r, y1 ≠ SRes.nx r) → (Gd c l → y1 = .bad ∨ stepS s x r = y1) → AgS c k (match stepS s x r with | .nx r1 => stepSs s xs r1 | y => y) (y1, k1) := fun y1 n q => ⟨l, e, fun G => by
      rcases q G with z | z
      · exact .inl z
      · right
        rw [z]
        cases y1 <;> first | rfl | exact absurd rfl (n _)⟩
    cases y1 with
    | nx r1 =>
      obtain ⟨l2, e2, h2⟩ := step_ss xs r1 k1
      refine ⟨l2 ++ l, ?_, fun G => ?_⟩
      · show (stepSsX sX xs r1 k1).2.lg = _
        rw [e2, show k1.lg = l ++ k.lg from e, List.append_assoc]
      · rcases hw G.r with z | z
        · cases z
        · rw [z]; exact h2 G.l
    | ex x r1 => exact same _ (fun _ z => nomatch z) hw
    | rt u r1 => exact same _ (fun _ z => nomatch z) hw
    | bk r1 => exact same _ (fun _ z => nomatch z) hw
    | ct r1 => exact same _ (fun _ z => nomatch z) hw
    | bad => exact same _ (fun _ z => nomatch z) hw
theorem step_wh (t : IT) (b : List IS) (r : Env) (k : Kt) : AgS c k (stepWh s t b r) (stepWhX sX t b r k) := by
  refine (Y.T t r k).toS fun x r1 k1 => ?_
  cases x with
  | false => exact AgS.p
  | true =>
    obtain ⟨l, e, hw⟩ := Y.S b r1 k1
    rw [if_pos rfl, if_pos rfl]
    generalize hy : sX.S b r1 k1 = y at e hw ⊢
    obtain ⟨y1, k2⟩ := y
    have go : ∀ r2, (Gd c l → s.S b r1 = .nx r2 ∨ s.S b r1 = .ct r2) → AgS c k1 (match s.S b r1 with | .nx r2 => s.Wh t b r2 | .ct r2 => s.Wh t b r2 | .bk r2 => .nx r2 | x => x) (sX.Wh t b r2 k2) := fun r2 hq => by
      obtain ⟨l2, e2, h2⟩ := Y.Wh t b r2 k2
      refine ⟨l2 ++ l, by rw [e2, show k2.lg = l ++ k1.lg from e, List.append_assoc], fun G => ?_⟩
      rcases hq G.r with z | z <;> (rw [z]; exact h2 G.l)
    cases y1 with
    | nx r1 => exact go r1 fun G => (hw G).elim (fun z => by cases z) .inl
    | ct r1 => exact go r1 fun G => (hw G).elim (fun z => by cases z) .inr
    | bk r1 =>
      refine ⟨l, e, fun G => ?_⟩
      rcases hw G with z | z
      · cases z
      · right; rw [z]
    | rt u r1 =>
      refine ⟨l, e, fun G => ?_⟩
      rcases hw G with z | z
      · cases z
      · right; rw [z]
    | ex u r1 =>
      refine ⟨l, e, fun G => ?_⟩
      rcases hw G with z | z
      · cases z
      · right; rw [z]
    | bad => exact ⟨l, e, fun _ => .inl rfl⟩
end
theorem tr (c : CF) : ∀ n : Nat, Tr c (lvl c n) (lvlX c n)
  | 0 => ⟨rfl, fun _ _ _ => Ag.b, fun _ _ _ => Ag.b, fun _ _ _ => Ag.b, fun _ _ _ => Ag.b, fun _ _ _ => AgS.b, fun _ _ _ _ => AgS.b⟩
  | n + 1 => ⟨rfl, step_e (tr c n), step_v (tr c n), step_t (tr c n), step_u (tr c n), step_ss (tr c n), step_wh (tr c n)⟩
/-- a run by its script -/
theorem runX {c : CF} {n : Nat} {b : List IS} {r : Env} (sc : List It) {x : SRes} {l : List Ob} (h : (fun z : SX => (z.1, z.2.lg)) ((lvlX c n).S b r ⟨sc, []⟩) = (x, l)) (hb : x ≠ .bad) (g : Gd c l) : (lvl c n).S b r = x := by
  obtain ⟨l2, e, q⟩ := (tr c n).S b r ⟨sc, []⟩
  have h1 := congrArg Prod.fst h
  have h2 := congrArg Prod.snd h
  dsimp only at h1 h2
  rw [h2] at e
  have e : l = l2 ++ [] := e
  rw [List.append_nil] at e
  subst e
  rcases q g with z | z
  · rw [z] at h1
    exact absurd h1.symm hb
  · rw [z]; exact h1
end FM


set_option linter.all false
set_option maxRecDepth 100000
set_option maxHeartbeats 4000000
/-! Loops of the evaluator by an invariant, as equations. -/
namespace FM
theorem forL_nx {f : W → Env → SRes} {ws : List W} (I : Nat → Env → Prop) (hs : ∀ k w r, ws[k]? = some w → I k r → ∃ r', f w r = .nx r' ∧ I (k + 1) r') : ∀ (us : List W) (k : Nat) (r : Env), ws.drop k = us → I k r → ∃ r', forL f us r = .nx r' ∧ I (k + us.length) r'
  | [], k, r, _, h => ⟨r, rfl, h⟩
  | u :: us, k, r, e, h => by
    have hk : ws[k]? = some u := by
      have := congrArg (fun l => l[0]?) e
      simpa using this
    have ht : ws.drop (k + 1) = us := by
      have := congrArg List.tail e
      rw [List.tail_drop] at this
      exact this
    obtain ⟨r1, h1, h2⟩ := hs k u r hk h
    obtain ⟨r2, h3, h4⟩ := forL_nx I hs us (k + 1) r1 ht h2
    refine ⟨r2, ?_, ?_⟩
    · unfold forL
      rw [h1]
      exact h3
    · rw [List.length_cons, show k + (us.length + 1) = k + 1 + us.length by omega]
      exact h4
theorem S_nx {c : CF} {n : Nat} {st : IS} {sts : List IS} {r r1 : Env} (h : stepS (lvl c n) st r = .nx r1) : (lvl c (n + 1)).S (st :: sts) r = (lvl c (n + 1)).S sts r1 := by
  show stepSs (lvl c n) (st :: sts) r = stepSs (lvl c n) sts r1
  rw [stepSs, h]
theorem S_single {c : CF} {n : Nat} {st : IS} {r : Env} : (lvl c (n + 1)).S [st] r = stepS (lvl c n) st r := by
  show stepSs (lvl c n) [st] r = _
  rw [stepSs]
  cases stepS (lvl c n) st r <;> rfl
theorem S_end {c : CF} {n : Nat} {r : Env} : (lvl c (n + 1)).S [] r = .nx r := rfl
theorem for_nx {s : SF} {g : IG} {it : II} {body : List IS} {ws : List W} {r r1 : Env} (hI : stepI s it r = .ok ⟨ws, []⟩ r1) (I : Nat → Env → Prop) (h0 : I 0 r1) (hs : ∀ k w r, ws[k]? = some w → I k r → ∃ r2 r3, bindG g w r = some r2 ∧ s.S body r2 = .nx r3 ∧ I (k + 1) r3) : ∃ r', stepS s (.for g it body) r = .nx r' ∧ I ws.length r' := by
  obtain ⟨r', h1, h2⟩ := forL_nx (f := fun w r2 => match bindG g w r2 with
      | some r3 => s.S body r3
      | none => .bad) (ws := ws) I (fun k w r hk h => by
    obtain ⟨r2, r3, e1, e2, e3⟩ := hs k w r hk h
    refine ⟨r3, ?_, e3⟩
    rw [e1]
    exact e2) ws 0 r1 rfl h0
  refine ⟨r', ?_, by rw [Nat.zero_add] at h2; exact h2⟩
  show ((stepI s it r).toS fun k r1 => if k.ks.isEmpty then forL _ k.ws r1 else .bad) = _
  rw [hI]
  exact h1
/-- a call by its body's run -/
theorem call_eq {P : List FD} {d f : Nat} {es : List En} {fd : FD} {x : SRes} {y : CRes} (hf : nth P f = some fd) (hl : Nat.beq es.length fd.ar = true) (h : (lvl (callF P 60 d) 60).S fd.body (es ++ pad (fd.sl - fd.ar)) = x) (hv : x.val es = y) : callF P 60 (d + 1) f es = y := by
  unfold callF
  rw [hf]
  dsimp only
  rw [hl, if_pos rfl, h, hv]
theorem iota_at {lo : Int} : ∀ {n k : Nat} {w : W}, (iota lo n)[k]? = some w → w = .int (lo + k) ∧ k < n
  | 0, k, w, h => by simp [iota] at h
  | n + 1, 0, w, h => by
    simp [iota] at h
    exact ⟨by rw [← h]; simp, Nat.succ_pos n⟩
  | n + 1, k + 1, w, h => by
    have h : (iota (lo + 1) n)[k]? = some w := by simpa [iota] using h
    obtain ⟨h1, h2⟩ := iota_at h
    exact ⟨by rw [h1]; congr 1; omega, Nat.succ_lt_succ h2⟩
/-- how often a law goes round -/
def rounds (m : Nat) (n : Nat) : Int := if (if (n : Int) < m then (n : Int) else m) > 1 then (if (n : Int) < m then (n : Int) else m) else 1
theorem rounds_le {m n : Nat} (h : 1 ≤ m) : 1 ≤ rounds m n ∧ rounds m n ≤ m := by
  unfold rounds
  split <;> split <;> omega
theorem rng_rounds {c : CF} {k m : Nat} {ws : List W} {r : Env} (h1 : 1 ≤ m) (h2 : m < 100) : stepI (lvl c (k + 8)) (.rng (.blt .max [.e (.cst (.int 1)), .e (.blt .min [.e (.cst (.int m)), .e (.blt .len [.s 0])])])) (.m (.d (.scr ws)) :: r) = .ok ⟨iota 0 (rounds m ws.length).toNat, []⟩ (.m (.d (.scr ws)) :: r) := by
  have e : stepI (lvl c (k + 8)) (.rng (.blt .max [.e (.cst (.int 1)), .e (.blt .min [.e (.cst (.int m)), .e (.blt .len [.s 0])])])) (.m (.d (.scr ws)) :: r) = if decide (rounds m ws.length ≤ 1000000) && decide (-1000000 ≤ rounds m ws.length) then .ok ⟨iota 0 (rounds m ws.length).toNat, []⟩ (.m (.d (.scr ws)) :: r) else .bad := by kernel_rfl
  obtain ⟨h3, h4⟩ := rounds_le (n := ws.length) h1
  rw [e, decide_eq_true (show rounds m ws.length ≤ 1000000 by omega), decide_eq_true (show -1000000 ≤ rounds m ws.length by omega)]
  rfl
end FM


set_option linter.all false
set_option maxRecDepth 100000
/-! Reasoning about the evaluator: what a run gives, step by step. -/
namespace FM
def Rn {α : Type} (x : Res α) (Q : α → Env → Prop) (X : Xn → Env → Prop) : Prop := match x with
  | .ok a r => Q a r
  | .ex e r => X e r
  | .bad => False
structure Dn where
  N : Env → Prop
  T : U → Env → Prop
  B : Env → Prop
  C : Env → Prop
  X : Xn → Env → Prop
@[reducible] def Dn.wn (D : Dn) (N : Env → Prop) : Dn := ⟨N, D.T, D.B, D.C, D.X⟩
@[reducible] def Dn.wx (D : Dn) (X : Xn → Env → Prop) : Dn := ⟨D.N, D.T, D.B, D.C, X⟩
@[reducible] def Dn.wl (D : Dn) (N : Env → Prop) : Dn := ⟨N, D.T, D.N, N, D.X⟩
@[reducible] def Dn.wu (D : Dn) (i : Nat) : Dn := ⟨fun r => D.N (r.set i .no), fun u r => D.T u (r.set i .no), fun r => D.B (r.set i .no), fun r => D.C (r.set i .no), fun _ _ => False⟩
def Sn (x : SRes) (D : Dn) : Prop := match x with
  | .nx r => D.N r
  | .rt u r => D.T u r
  | .bk r => D.B r
  | .ct r => D.C r
  | .ex e r => D.X e r
  | .bad => False
section
variable {α β : Type} {x : Res α} {f : α → Env → Res β} {Q : β → Env → Prop} {X : Xn → Env → Prop}
theorem Rn_bind : Rn (x.bind f) Q X = Rn x (fun a r => Rn (f a r) Q X) X := by cases x <;> rfl
theorem Rn.imp {x : Res α} {Q Q' : α → Env → Prop} (h : Rn x Q X) (k : ∀ a r, Q a r → Q' a r) : Rn x Q' X := by
  cases x with
  | ok a r => exact k a r h
  | ex e r => exact h
  | bad => exact h
theorem Rn_of {o : Option α} {r : Env} {a : α} {Q : α → Env → Prop} (e : o = some a) (q : Q a r) : Rn (Res.of o r) Q X := by rw [e]; exact q
theorem Sn_toS {g : α → Env → SRes} {D : Dn} : Sn (x.toS g) D = Rn x (fun a r => Sn (g a r) D) D.X := by cases x <;> rfl
end
/-! ### expressions -/
section
variable {c : CF} {n i : Nat} {r r1 : Env} {Q : W → Env → Prop} {X : Xn → Env → Prop} {a b d e : IE} {es : List IE} {x y z : IV} {u : IU} {t : IT} {w v : W}
theorem E_var (e : rdV r i = some (w, r1)) (q : Q w r1) : Rn ((lvl c (n + 1)).E (.var i) r) Q X := by
  show Rn (match rdV r i with | some (w, r1) => Res.ok w r1 | none => .bad) Q X
  rw [e]; exact q
theorem E_cst (q : Q w r) : Rn ((lvl c (n + 1)).E (.cst w) r) Q X := q
theorem E_tup (q : Rn (evs (lvl c n).E es r) (fun ws r1 => Q (.tup ws) r1) X) : Rn ((lvl c (n + 1)).E (.tup es) r) Q X := by
  show Rn ((evs (lvl c n).E es r).bind fun ws r1 => .ok (.tup ws) r1) Q X
  rw [Rn_bind]; exact q
theorem E_frz (q : Rn ((lvl c n).U u r) (fun u r1 => Q (fz u) r1) X) : Rn ((lvl c (n + 1)).E (.frz u) r) Q X := by
  show Rn (((lvl c n).U u r).bind fun u r1 => .ok (fz u) r1) Q X
  rw [Rn_bind]; exact q
theorem E_bin {op : B2} (q : Rn ((lvl c n).V x r) (fun a r1 => Rn ((lvl c n).V y r1) (fun b r2 => Rn (Res.of ((vw r2 a).bind fun u => (vw r2 b).bind fun w => arith op u w) r2) Q X) X) X) : Rn ((lvl c (n + 1)).E (.bin op x y) r) Q X := by
  show Rn (((lvl c n).V x r).bind fun a r1 => ((lvl c n).V y r1).bind fun b r2 => Res.of ((vw r2 a).bind fun u => (vw r2 b).bind fun w => arith op u w) r2) Q X
  simp only [Rn_bind]; exact q
theorem R_bin {op : B2} {A B : Arg} {u w : W} (e1 : vw r A = some u) (e2 : vw r B = some w) (q : Rn (Res.of (arith op u w) r) Q X) : Rn (Res.of ((vw r A).bind fun u => (vw r B).bind fun w => arith op u w) r) Q X := by
  rw [e1, e2]; exact q
theorem E_neg (q : Rn ((lvl c n).E a r) (fun x r1 => ∃ j, x = .int j ∧ Q (.int (-j)) r1) X) : Rn ((lvl c (n + 1)).E (.neg a) r) Q X := by
  show Rn (((lvl c n).E a r).bind fun x r1 => match x with | .int i => .ok (.int (-i)) r1 | _ => .bad) Q X
  rw [Rn_bind]
  exact q.imp fun x r1 ⟨j, e, q⟩ => by subst e; exact q
theorem cmp_run {op : C2} {Q : Bool → Env → Prop} (q : Rn ((lvl c n).V x r) (fun a r1 => Rn ((lvl c n).V y r1) (fun b r2 => Rn (Res.of (cmp2 op a b r2) r2) Q X) X) X) : Rn (cmpS (lvl c n) op x y r) Q X := by
  unfold cmpS
  simp only [Rn_bind]; exact q
theorem R_cmp {op : C2} {A B : Arg} {u w : W} {k : Bool} {Q : Bool → Env → Prop} (e1 : vw r A = some u) (e2 : vw r B = some w) (e3 : cmpW op u w = some k) (q : Q k r) : Rn (Res.of (cmp2 op A B r) r) Q X := by
  unfold cmp2
  rw [e1, e2, Option.bind_some, Option.bind_some, e3]; exact q
theorem E_cmp {op : C2} (q : Rn ((lvl c n).V x r) (fun a r1 => Rn ((lvl c n).V y r1) (fun b r2 => Rn (Res.of (cmp2 op a b r2) r2) (fun k r3 => Q (.bl k) r3) X) X) X) : Rn ((lvl c (n + 1)).E (.cmp op x y) r) Q X := by
  show Rn ((cmpS (lvl c n) op x y r).bind fun c r1 => .ok (.bl c) r1) Q X
  rw [Rn_bind]
  exact cmp_run q
theorem chn_run {op op' : C2} {Q : Bool → Env → Prop} (q : Rn ((lvl c n).V x r) (fun A r1 => Rn ((lvl c n).V y r1) (fun B r2 => Rn (Res.of (cmp2 op A B r2) r2) (fun k r3 => if k = true then Rn ((lvl c n).V z r3) (fun D r4 => Rn (Res.of (cmp2 op' B D r4) r4) Q X) X else Q false r3) X) X) X) : Rn (chnS (lvl c n) op op' x y z r) Q X := by
  unfold chnS
  simp only [Rn_bind]
  exact q.imp fun A r1 q => q.imp fun B r2 q => by
    cases z' : cmp2 op A B r2 with
    | none => rw [z'] at q; exact q
    | some k =>
      rw [z'] at q
      cases k with
      | false => exact q
      | true =>
        show Rn (((lvl c n).V z r2).bind _) Q X
        rw [Rn_bind]
        exact q
theorem E_chn {op op' : C2} (q : Rn ((lvl c n).V x r) (fun A r1 => Rn ((lvl c n).V y r1) (fun B r2 => Rn (Res.of (cmp2 op A B r2) r2) (fun k r3 => if k = true then Rn ((lvl c n).V z r3) (fun D r4 => Rn (Res.of (cmp2 op' B D r4) r4) (fun k r5 => Q (.bl k) r5) X) X else Q (.bl false) r3) X) X) X) : Rn ((lvl c (n + 1)).E (.chn op op' x y z) r) Q X := by
  show Rn ((chnS (lvl c n) op op' x y z r).bind fun c r1 => .ok (.bl c) r1) Q X
  rw [Rn_bind]
  exact chn_run q
theorem E_and1 (q : Rn ((lvl c n).E a r) Q X) : Rn ((lvl c (n + 1)).E (.and [a]) r) Q X := q
theorem E_and (q : Rn ((lvl c n).E a r) (fun w r1 => ∃ k, w = .bl k ∧ if k = true then Rn ((lvl c (n + 1)).E (.and (b :: es)) r1) Q X else Q (.bl false) r1) X) : Rn ((lvl c (n + 1)).E (.and (a :: b :: es)) r) Q X := by
  show Rn (((lvl c n).E a r).bind fun w r1 => match w with
    | .bl true => andE (lvl c n) (b :: es) r1
    | .bl false => .ok (.bl false) r1
    | _ => .bad) Q X
  rw [Rn_bind]
  exact q.imp fun w r1 ⟨k, e, q⟩ => by subst e; cases k <;> exact q
theorem E_or1 (q : Rn ((lvl c n).E a r) Q X) : Rn ((lvl c (n + 1)).E (.or [a]) r) Q X := q
theorem E_or (q : Rn ((lvl c n).E a r) (fun w r1 => ∃ k, w = .bl k ∧ if k = true then Q (.bl true) r1 else Rn ((lvl c (n + 1)).E (.or (b :: es)) r1) Q X) X) : Rn ((lvl c (n + 1)).E (.or (a :: b :: es)) r) Q X := by
  show Rn (((lvl c n).E a r).bind fun w r1 => match w with
    | .bl true => .ok (.bl true) r1
    | .bl false => orE (lvl c n) (b :: es) r1
    | _ => .bad) Q X
  rw [Rn_bind]
  exact q.imp fun w r1 ⟨k, e, q⟩ => by subst e; cases k <;> exact q
theorem E_not (q : Rn ((lvl c n).E a r) (fun x r1 => ∃ k, x = .bl k ∧ Q (.bl (!k)) r1) X) : Rn ((lvl c (n + 1)).E (.not a) r) Q X := by
  show Rn (((lvl c n).E a r).bind fun x r1 => match x with | .bl b => .ok (.bl (!b)) r1 | _ => .bad) Q X
  rw [Rn_bind]
  exact q.imp fun x r1 ⟨j, e, q⟩ => by subst e; exact q
theorem E_ite (q : Rn ((lvl c n).T t r) (fun k r1 => if k = true then Rn ((lvl c n).E a r1) Q X else Rn ((lvl c n).E b r1) Q X) X) : Rn ((lvl c (n + 1)).E (.ite t a b) r) Q X := by
  show Rn (((lvl c n).T t r).bind fun x r1 => if x then (lvl c n).E a r1 else (lvl c n).E b r1) Q X
  rw [Rn_bind]
  exact q.imp fun k r1 q => by cases k <;> exact q
theorem E_idx (q : Rn ((lvl c n).V x r) (fun A r1 => Rn ((lvl c n).E a r1) (fun k r2 => Rn (Res.of ((vw r2 A).bind fun u => idxW u k) r2) Q X) X) X) : Rn ((lvl c (n + 1)).E (.idx x a) r) Q X := by
  show Rn (((lvl c n).V x r).bind fun A r1 => ((lvl c n).E a r1).bind fun k r2 => Res.of ((vw r2 A).bind fun u => idxW u k) r2) Q X
  simp only [Rn_bind]; exact q
theorem R_idx {A : Arg} {u k w : W} (e1 : vw r A = some u) (e2 : idxW u k = some w) (q : Q w r) : Rn (Res.of ((vw r A).bind fun u => idxW u k) r) Q X := by
  rw [e1, Option.bind_some, e2]; exact q
theorem E_didx (q : Rn ((lvl c n).V x r) (fun A r1 => Rn ((lvl c n).E a r1) (fun k r2 => Rn (Res.of ((vw r2 A).bind fun u => match u with
    | .dic ks vs => if keyOk k then dfind k ks vs else none
    | _ => none) r2) Q X) X) X) : Rn ((lvl c (n + 1)).E (.didx x a) r) Q X := by
  show Rn (((lvl c n).V x r).bind fun A r1 => ((lvl c n).E a r1).bind fun k r2 => Res.of ((vw r2 A).bind fun u => match u with
    | .dic ks vs => if keyOk k then dfind k ks vs else none
    | _ => none) r2) Q X
  simp only [Rn_bind]; exact q
theorem R_didx {A : Arg} {ks vs : List W} {k w : W} (e1 : vw r A = some (.dic ks vs)) (e2 : keyOk k = true) (e3 : dfind k ks vs = some w) (q : Q w r) : Rn (Res.of ((vw r A).bind fun u => match u with
    | .dic ks vs => if keyOk k then dfind k ks vs else none
    | _ => none) r) Q X := by
  rw [e1, Option.bind_some]
  show Rn (Res.of (if keyOk k then dfind k ks vs else none) r) Q X
  rw [e2, if_pos rfl, e3]; exact q
theorem E_dget {ks : List W} {us : List U} (hl : lookU r i = some (.c ks us)) (q : Rn ((lvl c n).E a r) (fun k r1 => Rn ((lvl c n).E b r1) (fun d r2 => Rn (Res.of (dgetV i k d r2) r2) Q X) X) X) : Rn ((lvl c (n + 1)).E (.dget i a b) r) Q X := by
  show Rn (match lookU r i with
    | some (.c _ _) => ((lvl c n).E a r).bind fun k r1 => ((lvl c n).E b r1).bind fun d r2 => Res.of (dgetV i k d r2) r2
    | _ => .bad) Q X
  rw [hl]
  show Rn (((lvl c n).E a r).bind _) Q X
  simp only [Rn_bind]; exact q
theorem E_isi {t : Ty} (q : Rn ((lvl c n).V x r) (fun A r1 => Rn (Res.of ((vw r1 A).bind fun w => tyIsO t w) r1) Q X) X) : Rn ((lvl c (n + 1)).E (.isi x t) r) Q X := by
  show Rn (((lvl c n).V x r).bind fun A r1 => Res.of ((vw r1 A).bind fun w => tyIsO t w) r1) Q X
  rw [Rn_bind]; exact q
theorem R_isi {t : Ty} {A : Arg} {u w : W} (e1 : vw r A = some u) (e2 : tyIsO t u = some w) (q : Q w r) : Rn (Res.of ((vw r A).bind fun w => tyIsO t w) r) Q X := by
  rw [e1, Option.bind_some, e2]; exact q
theorem E_blt {f : Bt} {vs : List IV} (q : Rn (evs (lvl c n).V vs r) (fun xs r1 => Rn (Res.of ((vws r1 xs).bind fun ws => bltF f ws) r1) Q X) X) : Rn ((lvl c (n + 1)).E (.blt f vs) r) Q X := by
  show Rn ((evs (lvl c n).V vs r).bind fun xs r1 => Res.of ((vws r1 xs).bind fun ws => bltF f ws) r1) Q X
  rw [Rn_bind]; exact q
theorem R_blt {f : Bt} {xs : List Arg} {ws : List W} {w : W} (e1 : vws r xs = some ws) (e2 : bltF f ws = some w) (q : Q w r) : Rn (Res.of ((vws r xs).bind fun ws => bltF f ws) r) Q X := by
  rw [e1, Option.bind_some, e2]; exact q
theorem E_app {us : List U} (hl : lookU r i = some (.l us)) (q : Rn ((lvl c n).E a r) (fun y r1 => Rn (appS i y r1) Q X) X) : Rn ((lvl c (n + 1)).E (.app i a) r) Q X := by
  show Rn (match lookU r i with
    | some (.l _) => ((lvl c n).E a r).bind fun y r1 => appS i y r1
    | _ => .bad) Q X
  rw [hl]
  show Rn (((lvl c n).E a r).bind _) Q X
  rw [Rn_bind]; exact q
theorem R_app {us : List U} {y : W} (hl : lookU r i = some (.l us)) (hz : us.length < size) (hp : putV r i (.l (us ++ [.d y])) = some r1) (q : Q .non r1) : Rn (appS i y r) Q X := by
  unfold appS
  rw [hl]
  show Rn (if Nat.blt us.length size then (match putV r i (.l (us ++ [.d y])) with
    | some r2 => Res.ok W.non r2
    | none => .bad) else .bad) Q X
  rw [if_pos (Nat.blt_eq.mpr hz), hp]; exact q
theorem E_xfl {c' k : Nat} {w : W} (h : nth r i = some (.x c' [k] [w])) (q : Q w r) : Rn ((lvl c (n + 1)).E (.xfl i k) r) Q X := by
  show Rn (match nth r i with
    | some (.x _ [l] [w]) => if Nat.beq l k then Res.ok w r else .bad
    | _ => .bad) Q X
  rw [h]
  show Rn (if Nat.beq k k then Res.ok w r else .bad) Q X
  rw [Nat.beq_refl, if_pos rfl]; exact q
theorem E_xis {c' k : Nat} {w : W} {cs no : List Nat} (h : nth r i = some (.x c' [k] [w])) (hc : cs.any (Nat.beq c') = true) (q : Q (.bl true) r) : Rn ((lvl c (n + 1)).E (.xis i cs no) r) Q X := by
  show Rn (match nth r i with
    | some (.x c [_] [_]) => if cs.any (Nat.beq c) then Res.ok (W.bl true) r else if no.any (Nat.beq c) then .ok (.bl false) r else .bad
    | _ => .bad) Q X
  rw [h]
  show Rn (if cs.any (Nat.beq c') then Res.ok (W.bl true) r else if no.any (Nat.beq c') then .ok (.bl false) r else .bad) Q X
  rw [hc, if_pos rfl]; exact q
end
section
variable {c : CF} {n i : Nat} {r r1 : Env} {X : Xn → Env → Prop} {a b : IE} {x y z : IV} {u : IU}
theorem V_e {Q : Arg → Env → Prop} (q : Rn ((lvl c n).E a r) (fun w r1 => Q (.w w) r1) X) : Rn ((lvl c (n + 1)).V (.e a) r) Q X := by
  show Rn (((lvl c n).E a r).bind fun w r1 => .ok (.w w) r1) Q X
  rw [Rn_bind]; exact q
theorem V_u {Q : Arg → Env → Prop} (q : Rn ((lvl c n).U u r) (fun w r1 => Q (.fr w) r1) X) : Rn ((lvl c (n + 1)).V (.u u) r) Q X := by
  show Rn (((lvl c n).U u r).bind fun w r1 => .ok (.fr w) r1) Q X
  rw [Rn_bind]; exact q
theorem V_s {Q : Arg → Env → Prop} {w : U} (e : lookU r i = some w) (q : Q (.sl i) r) : Rn ((lvl c (n + 1)).V (.s i) r) Q X := by
  show Rn (match lookU r i with | some _ => Res.ok (Arg.sl i) r | none => .bad) Q X
  rw [e]; exact q
theorem A_nil {α β : Type} {f : α → Env → Res β} {Q : List β → Env → Prop} (q : Q [] r) : Rn (evs f [] r) Q X := q
theorem A_cons {α β : Type} {f : α → Env → Res β} {e : α} {es : List α} {Q : List β → Env → Prop} (q : Rn (f e r) (fun w r1 => Rn (evs f es r1) (fun ws r2 => Q (w :: ws) r2) X) X) : Rn (evs f (e :: es) r) Q X := by
  show Rn ((f e r).bind fun w r1 => (evs f es r1).bind fun ws r2 => .ok (w :: ws) r2) Q X
  rw [Rn_bind]
  exact q.imp fun w r1 q => by rw [Rn_bind]; exact q
theorem A_d {Q : AV → Env → Prop} {s : SF} (q : Rn (s.E a r) (fun w r1 => Q (.d w) r1) X) : Rn (stepA s (.d a) r) Q X := by
  show Rn ((s.E a r).bind fun w r1 => .ok (.d w) r1) Q X
  rw [Rn_bind]; exact q
theorem A_u {Q : AV → Env → Prop} {s : SF} (q : Rn (s.U u r) (fun w r1 => Q (.u w) r1) X) : Rn (stepA s (.u u) r) Q X := by
  show Rn ((s.U u r).bind fun w r1 => .ok (.u w) r1) Q X
  rw [Rn_bind]; exact q
theorem A_r {Q : AV → Env → Prop} {s : SF} {w : U} (e : lookU r i = some w) (q : Q (.r i) r) : Rn (stepA s (.r i) r) Q X := by
  show Rn (match lookU r i with | some _ => Res.ok (AV.r i) r | none => .bad) Q X
  rw [e]; exact q
/-! tests -/
theorem T_val {Q : Bool → Env → Prop} (q : Rn ((lvl c n).E a r) (fun w r1 => ∃ k, w = .bl k ∧ Q k r1) X) : Rn ((lvl c (n + 1)).T (.val a) r) Q X := by
  show Rn (((lvl c n).E a r).bind fun w r1 => match w with | .bl b => .ok b r1 | _ => .bad) Q X
  rw [Rn_bind]
  exact q.imp fun x r1 ⟨j, e, q⟩ => by subst e; exact q
theorem T_cmp {op : C2} {Q : Bool → Env → Prop} (q : Rn ((lvl c n).V x r) (fun a r1 => Rn ((lvl c n).V y r1) (fun b r2 => Rn (Res.of (cmp2 op a b r2) r2) Q X) X) X) : Rn ((lvl c (n + 1)).T (.cmp op x y) r) Q X := cmp_run q
theorem T_chn {op op' : C2} {Q : Bool → Env → Prop} (q : Rn ((lvl c n).V x r) (fun A r1 => Rn ((lvl c n).V y r1) (fun B r2 => Rn (Res.of (cmp2 op A B r2) r2) (fun k r3 => if k = true then Rn ((lvl c n).V z r3) (fun D r4 => Rn (Res.of (cmp2 op' B D r4) r4) Q X) X else Q false r3) X) X) X) : Rn ((lvl c (n + 1)).T (.chn op op' x y z) r) Q X := chn_run q
theorem T_and1 {Q : Bool → Env → Prop} {s : IT} (q : Rn ((lvl c n).T s r) Q X) : Rn ((lvl c (n + 1)).T (.and [s]) r) Q X := q
theorem T_and {Q : Bool → Env → Prop} {s t : IT} {ts : List IT} (q : Rn ((lvl c n).T s r) (fun k r1 => if k = true then Rn ((lvl c (n + 1)).T (.and (t :: ts)) r1) Q X else Q false r1) X) : Rn ((lvl c (n + 1)).T (.and (s :: t :: ts)) r) Q X := by
  show Rn (((lvl c n).T s r).bind fun b r1 => if b then andT (lvl c n) (t :: ts) r1 else .ok false r1) Q X
  rw [Rn_bind]
  exact q.imp fun k r1 q => by cases k <;> exact q
theorem T_or1 {Q : Bool → Env → Prop} {s : IT} (q : Rn ((lvl c n).T s r) Q X) : Rn ((lvl c (n + 1)).T (.or [s]) r) Q X := q
theorem T_or {Q : Bool → Env → Prop} {s t : IT} {ts : List IT} (q : Rn ((lvl c n).T s r) (fun k r1 => if k = true then Q true r1 else Rn ((lvl c (n + 1)).T (.or (t :: ts)) r1) Q X) X) : Rn ((lvl c (n + 1)).T (.or (s :: t :: ts)) r) Q X := by
  show Rn (((lvl c n).T s r).bind fun b r1 => if b then .ok true r1 else orT (lvl c n) (t :: ts) r1) Q X
  rw [Rn_bind]
  exact q.imp fun k r1 q => by cases k <;> exact q
theorem T_not {Q : Bool → Env → Prop} {t : IT} (q : Rn ((lvl c n).T t r) (fun k r1 => Q (!k) r1) X) : Rn ((lvl c (n + 1)).T (.not t) r) Q X := by
  show Rn (((lvl c n).T t r).bind fun b r1 => .ok (!b) r1) Q X
  rw [Rn_bind]; exact q
/-! what is made -/
variable {Q : U → Env → Prop} {es : List IE}
theorem U_d (q : Rn ((lvl c n).E a r) (fun w r1 => Q (.d w) r1) X) : Rn ((lvl c (n + 1)).U (.d a) r) Q X := by
  show Rn (((lvl c n).E a r).bind fun w r1 => .ok (.d w) r1) Q X
  rw [Rn_bind]; exact q
theorem U_mv {u : U} (e : mvV r i = some (u, r1)) (q : Q u r1) : Rn ((lvl c (n + 1)).U (.mv i) r) Q X := by
  show Rn (match mvV r i with | some (u, r1) => Res.ok u r1 | none => .bad) Q X
  rw [e]; exact q
theorem U_lst (q : Rn (evs (lvl c n).E es r) (fun ws r1 => Q (.l (ws.map U.d)) r1) X) : Rn ((lvl c (n + 1)).U (.lst es) r) Q X := by
  show Rn ((evs (lvl c n).E es r).bind fun ws r1 => .ok (.l (ws.map U.d)) r1) Q X
  rw [Rn_bind]; exact q
theorem U_ndic (q : Q (.c [] []) r) : Rn ((lvl c (n + 1)).U .ndic r) Q X := q
theorem U_call {f : Nat} {as : List IA} (q : Rn (evs (stepA (lvl c n)) as r) (fun vs r1 => Rn (runC c f vs r1) Q X) X) : Rn ((lvl c (n + 1)).U (.call f as) r) Q X := by
  show Rn ((evs (stepA (lvl c n)) as r).bind fun vs r1 => runC c f vs r1) Q X
  rw [Rn_bind]; exact q
theorem R_call {f : Nat} {vs : List AV} {es : List En} {is : List Nat} {u : U} {os : List U} (ea : args r vs = some (es, is)) (ec : c f es = .ok u os) (ep : puts r is os = some r1) (q : Q u r1) : Rn (runC c f vs r) Q X := by
  unfold runC
  rw [ea]
  show Rn (match c f es with
    | .ok u os => (match puts r is os with
      | some r1 => Res.ok u r1
      | none => .bad)
    | .ex x os => (match puts r is os with
      | some r1 => .ex x r1
      | none => .bad)
    | .bad => .bad) Q X
  rw [ec]
  show Rn (match puts r is os with
      | some r1 => Res.ok u r1
      | none => .bad) Q X
  rw [ep]; exact q
theorem R_callX {f : Nat} {vs : List AV} {es : List En} {is : List Nat} {x : Xn} {os : List U} (ea : args r vs = some (es, is)) (ec : c f es = .ex x os) (ep : puts r is os = some r1) (q : X x r1) : Rn (runC c f vs r) Q X := by
  unfold runC
  rw [ea]
  show Rn (match c f es with
    | .ok u os => (match puts r is os with
      | some r1 => Res.ok u r1
      | none => .bad)
    | .ex x os => (match puts r is os with
      | some r1 => .ex x r1
      | none => .bad)
    | .bad => .bad) Q X
  rw [ec]
  show Rn (match puts r is os with
      | some r1 => Res.ex x r1
      | none => .bad) Q X
  rw [ep]; exact q
theorem U_cat (q : Rn ((lvl c n).V x r) (fun A r1 => Rn ((lvl c n).V y r1) (fun B r2 => Rn (Res.of ((vw r2 A).bind fun u => (lstW u).bind fun us => (vw r2 B).bind fun w => (lstW w).bind fun ws => if Nat.ble (us.length + ws.length) size then some (.l ((us ++ ws).map U.d)) else none) r2) Q X) X) X) : Rn ((lvl c (n + 1)).U (.cat x y) r) Q X := by
  show Rn (((lvl c n).V x r).bind fun A r1 => ((lvl c n).V y r1).bind fun B r2 => Res.of ((vw r2 A).bind fun u => (lstW u).bind fun us => (vw r2 B).bind fun w => (lstW w).bind fun ws => if Nat.ble (us.length + ws.length) size then some (.l ((us ++ ws).map U.d)) else none) r2) Q X
  simp only [Rn_bind]; exact q
theorem U_slc {lo hi : Option IE} (q : Rn ((lvl c n).V x r) (fun A r1 => Rn (optE (lvl c n) lo r1) (fun l r2 => Rn (optE (lvl c n) hi r2) (fun h r3 => Rn (Res.of ((vw r3 A).bind fun u => (lstW u).map fun ws => .l ((cut ws l h).map U.d)) r3) Q X) X) X) X) : Rn ((lvl c (n + 1)).U (.slc x lo hi) r) Q X := by
  show Rn (((lvl c n).V x r).bind fun A r1 => (optE (lvl c n) lo r1).bind fun l r2 => (optE (lvl c n) hi r2).bind fun h r3 => Res.of ((vw r3 A).bind fun u => (lstW u).map fun ws => .l ((cut ws l h).map U.d)) r3) Q X
  simp only [Rn_bind]; exact q
theorem O_none {Q : Option Int → Env → Prop} {s : SF} (q : Q none r) : Rn (optE s none r) Q X := q
theorem O_some {Q : Option Int → Env → Prop} {s : SF} (q : Rn (s.E a r) (fun x r1 => ∃ j, x = .int j ∧ Q (some j) r1) X) : Rn (optE s (some a) r) Q X := by
  show Rn ((s.E a r).bind fun x r1 => match x with | .int i => .ok (some i) r1 | _ => .bad) Q X
  rw [Rn_bind]
  exact q.imp fun x r1 ⟨j, e, q⟩ => by subst e; exact q
end
/-! ### statements -/
section
variable {c : CF} {n i : Nat} {r r1 : Env} {D : Dn} {a b : IE} {u : IU} {s : SF} {st : IS} {sts : List IS}
theorem S_cons (q : Sn (stepS (lvl c n) st r) (D.wn fun r1 => Sn ((lvl c (n + 1)).S sts r1) D)) : Sn ((lvl c (n + 1)).S (st :: sts) r) D := by
  show Sn (stepSs (lvl c n) (st :: sts) r) D
  unfold stepSs
  cases e : stepS (lvl c n) st r <;> (rw [e] at q; exact q)
theorem S_nil (q : D.N r) : Sn ((lvl c (n + 1)).S [] r) D := q
theorem S_exp (q : Rn (s.E a r) (fun _ r1 => D.N r1) D.X) : Sn (stepS s (.exp a) r) D := by
  show Sn ((s.E a r).toS fun _ r1 => .nx r1) D
  rw [Sn_toS]; exact q
theorem S_asg {g : IG} (q : Rn (s.E a r) (fun w r1 => ∃ r2, bindG g w r1 = some r2 ∧ D.N r2) D.X) : Sn (stepS s (.asg g a) r) D := by
  show Sn ((s.E a r).toS fun w r1 => match bindG g w r1 with | some r2 => .nx r2 | none => .bad) D
  rw [Sn_toS]
  exact q.imp fun w r1 ⟨r2, e, q⟩ => by rw [e]; exact q
theorem S_own (q : Rn (s.U u r) (fun w r1 => ∃ r2, setV r1 i w = some r2 ∧ D.N r2) D.X) : Sn (stepS s (.own i u) r) D := by
  show Sn ((s.U u r).toS fun w r1 => match setV r1 i w with | some r2 => .nx r2 | none => .bad) D
  rw [Sn_toS]
  exact q.imp fun w r1 ⟨r2, e, q⟩ => by rw [e]; exact q
theorem S_par {j : Nat} (q : Rn (s.E a r) (fun x r1 => Rn (s.E b r1) (fun y r2 => ∃ r4, ((setV r2 i (.d x)).bind fun r3 => setV r3 j (.d y)) = some r4 ∧ D.N r4) D.X) D.X) : Sn (stepS s (.par i j a b) r) D := by
  show Sn ((s.E a r).toS fun x r1 => (s.E b r1).toS fun y r2 => match (setV r2 i (.d x)).bind fun r3 => setV r3 j (.d y) with
    | some r4 => .nx r4
    | none => .bad) D
  rw [Sn_toS]
  exact q.imp fun x r1 q => by
    rw [Sn_toS]
    exact q.imp fun y r2 ⟨r4, e, q⟩ => by rw [e]; exact q
theorem S_ret (q : Rn (s.U u r) (fun w r1 => D.T w r1) D.X) : Sn (stepS s (.ret u) r) D := by
  show Sn ((s.U u r).toS fun w r1 => .rt w r1) D
  rw [Sn_toS]; exact q
theorem S_if {t : IT} {x y : List IS} (q : Rn (s.T t r) (fun k r1 => if k = true then Sn (s.S x r1) D else Sn (s.S y r1) D) D.X) : Sn (stepS s (.ifs t x y) r) D := by
  show Sn ((s.T t r).toS fun k r1 => if k then s.S x r1 else s.S y r1) D
  rw [Sn_toS]
  exact q.imp fun k r1 q => by cases k <;> exact q
theorem S_sub (q : Rn (s.E b r) (fun v r1 => ∃ us, lookU r1 i = some (.l us) ∧ Rn (s.E a r1) (fun n r2 => Sn (putS i v n r2) D) D.X) D.X) : Sn (stepS s (.sub i a b) r) D := by
  show Sn ((s.E b r).toS fun v r1 => (match lookU r1 i with
    | some (.l _) => (s.E a r1).toS fun n r2 => putS i v n r2
    | _ => .bad)) D
  rw [Sn_toS]
  exact q.imp fun v r1 ⟨us, e, q⟩ => by
    rw [e]
    show Sn ((s.E a r1).toS _) D
    rw [Sn_toS]; exact q
theorem R_sub {us : List U} {ws : List W} {v : W} {k : Int} {j : Nat} (e1 : lookU r i = some (.l us)) (e2 : ix us.length k = some j) (e3 : dats us = some ws) (e4 : putV r i (.l (us.set j (.d v))) = some r1) (q : D.N r1) : Sn (putS i v (.int k) r) D := by
  unfold putS
  rw [e1]
  show Sn (match ix us.length k, dats us with
    | some j, some _ => (match putV r i (.l (us.set j (.d v))) with
      | some r3 => SRes.nx r3
      | none => .bad)
    | _, _ => .bad) D
  rw [e2, e3]
  show Sn (match putV r i (.l (us.set j (.d v))) with
      | some r3 => SRes.nx r3
      | none => .bad) D
  rw [e4]; exact q
theorem S_dsub (q : Rn (s.E b r) (fun v r1 => ∃ ks us, lookU r1 i = some (.c ks us) ∧ Rn (s.E a r1) (fun n r2 => Sn (dputS i v n r2) D) D.X) D.X) : Sn (stepS s (.dsub i a b) r) D := by
  show Sn ((s.E b r).toS fun v r1 => (match lookU r1 i with
    | some (.c _ _) => (s.E a r1).toS fun n r2 => dputS i v n r2
    | _ => .bad)) D
  rw [Sn_toS]
  exact q.imp fun v r1 ⟨ks, us, e, q⟩ => by
    rw [e]
    show Sn ((s.E a r1).toS _) D
    rw [Sn_toS]; exact q
theorem S_rse {k k' : Nat} (q : Rn (s.E a r) (fun w r1 => D.X ⟨k, [k'], [w]⟩ r1) D.X) : Sn (stepS s (.rse k (some k') (some a)) r) D := by
  show Sn ((s.E a r).toS fun w r1 => .ex ⟨k, [k'], [w]⟩ r1) D
  rw [Sn_toS]; exact q
theorem S_try {bd h : List IS} {cs no : List Nat} (q : Sn (s.S bd r) (D.wx fun x r1 => Sn (handle s x r1 cs no i h) D)) : Sn (stepS s (.try bd cs no i h) r) D := by
  show Sn (match s.S bd r with | .ex x r1 => handle s x r1 cs no i h | y => y) D
  cases e : s.S bd r <;> (rw [e] at q; exact q)
theorem S_hnd {x : Xn} {cs no : List Nat} {h : List IS} {e : En} (hc : cs.any (Nat.beq x.c) = true) (hn : nth r i = some e) (hp : plainE e = true) (q : Sn (unX i (s.S h (r.set i (.x x.c x.ks x.ws)))) D) : Sn (handle s x r cs no i h) D := by
  unfold handle
  rw [hc, if_pos rfl, hn]
  show Sn (if plainE e then unX i (s.S h (r.set i (.x x.c x.ks x.ws))) else .bad) D
  rw [hp, if_pos rfl]; exact q
theorem S_unX {x : SRes} (q : Sn x (D.wu i)) : Sn (unX i x) D := by
  cases x <;> exact q
theorem S_mat {cs : List (W × List IS)} (q : Rn (s.E a r) (fun w r1 => Sn (pick s w r1 cs) D) D.X) : Sn (stepS s (.mat a cs) r) D := by
  show Sn ((s.E a r).toS fun w r1 => pick s w r1 cs) D
  rw [Sn_toS]; exact q
theorem M_nil {w : W} (q : D.N r) : Sn (pick s w r []) D := q
theorem M_yes {w k : W} {b : List IS} {cs : List (W × List IS)} (e : eqW w k = some true) (q : Sn (s.S b r) D) : Sn (pick s w r ((k, b) :: cs)) D := by
  unfold pick
  rw [e]; exact q
theorem M_no {w k : W} {b : List IS} {cs : List (W × List IS)} (e : eqW w k = some false) (q : Sn (pick s w r cs) D) : Sn (pick s w r ((k, b) :: cs)) D := by
  unfold pick
  rw [e]; exact q
theorem S_for {g : IG} {it : II} {body : List IS} (q : Rn (stepI s it r) (fun k r1 => k.ks = [] ∧ Sn (forL (fun w r2 => match bindG g w r2 with
      | some r3 => s.S body r3
      | none => .bad) k.ws r1) D) D.X) : Sn (stepS s (.for g it body) r) D := by
  show Sn ((stepI s it r).toS fun k r1 => if k.ks.isEmpty then forL (fun w r2 => match bindG g w r2 with
      | some r3 => s.S body r3
      | none => .bad) k.ws r1 else .bad) D
  rw [Sn_toS]
  exact q.imp fun k r1 ⟨e, q⟩ => by rw [e]; exact q
/-- a for loop by an invariant -/
theorem F_inv {f : W → Env → SRes} {ws : List W} (I : Nat → Env → Prop) (h0 : I 0 r) (hs : ∀ k w r, ws[k]? = some w → I k r → Sn (f w r) (D.wl (I (k + 1)))) (he : ∀ r, I ws.length r → D.N r) : Sn (forL f ws r) D := by
  have key : ∀ (us : List W) (k : Nat) (r : Env), k ≤ ws.length → ws.drop k = us → I k r → Sn (forL f us r) D := by
    intro us
    induction us with
    | nil =>
      intro k r hk e h
      have : ws.length ≤ k := List.drop_eq_nil_iff.mp e
      have hk : k = ws.length := by omega
      subst hk
      exact he r h
    | cons w us ih =>
      intro k r hk e h
      have hw : ws[k]? = some w := by
        have := congrArg (fun l => l[0]?) e
        simpa using this
      have hk2 : k + 1 ≤ ws.length := (List.getElem?_eq_some_iff.mp hw).1
      have e2 : ws.drop (k + 1) = us := by
        have := congrArg (List.drop 1) e
        rwa [List.drop_drop, List.drop_one, List.tail_cons] at this
      have q := hs k w r hw h
      unfold forL
      cases x : f w r with
      | nx r1 => rw [x] at q; exact ih (k + 1) r1 hk2 e2 q
      | ct r1 => rw [x] at q; exact ih (k + 1) r1 hk2 e2 q
      | bk r1 => rw [x] at q; exact q
      | rt u r1 => rw [x] at q; exact q
      | ex y r1 => rw [x] at q; exact q
      | bad => rw [x] at q; exact q
  exact key ws 0 r (Nat.zero_le _) rfl h0
theorem iteY {p : Prop} {A B : Prop} [Decidable p] (h : p) (q : A) : if p then A else B := by rw [if_pos h]; exact q
theorem iteN {p : Prop} {A B : Prop} [Decidable p] (h : ¬ p) (q : B) : if p then A else B := by rw [if_neg h]; exact q
/-! walks -/
theorem I_rng {Q : Wk → Env → Prop} {X : Xn → Env → Prop} (q : Rn (s.E a r) (fun w r1 => ∃ k : Int, w = .int k ∧ (-1000000 ≤ k ∧ k ≤ 1000000) ∧ Q ⟨iota 0 k.toNat, []⟩ r1) X) : Rn (stepI s (.rng a) r) Q X := by
  show Rn ((s.E a r).bind fun x r1 => match x with
    | .int n => if decide (n ≤ 1000000) && decide (-1000000 ≤ n) then .ok ⟨iota 0 n.toNat, []⟩ r1 else .bad
    | _ => .bad) Q X
  rw [Rn_bind]
  exact q.imp fun w r1 ⟨k, e, h, q⟩ => by
    subst e
    show Rn (if decide (k ≤ 1000000) && decide (-1000000 ≤ k) then Res.ok ⟨iota 0 k.toNat, []⟩ r1 else .bad) Q X
    rw [decide_eq_true h.1, decide_eq_true h.2]
    exact q
theorem I_v {Q : Wk → Env → Prop} {X : Xn → Env → Prop} {x : IV} (q : Rn (s.V x r) (fun A r1 => Rn (Res.of (walkA r1 A) r1) Q X) X) : Rn (stepI s (.v x) r) Q X := by
  show Rn ((s.V x r).bind fun x r1 => Res.of (walkA r1 x) r1) Q X
  rw [Rn_bind]; exact q
end
/-! ### comprehensions, numbers, lists -/
section
variable {c : CF} {n i : Nat} {r r1 : Env} {X : Xn → Env → Prop} {s : SF}
theorem U_comp {Q : U → Env → Prop} {elt : IE} {g : IG} {own : List Nat} {it : II} {t : Option IT} (q : Rn (stepI (lvl c n) it r) (fun k r1 => (Nat.ble k.ws.length size && ownOk r1 own && k.ks.all (fun q => !own.any (Nat.beq q.1))) = true ∧ Rn (compL k own (turnL (lvl c n) elt g t) k.ws (wipe r1 own)) (fun ws r2 => Q (.l (ws.map U.d)) (back r1 r2 own)) (fun _ _ => False)) X) : Rn ((lvl c (n + 1)).U (.comp elt g own it t) r) Q X := by
  show Rn ((compM (lvl c n) elt g own it t r).bind fun ws r1 => .ok (.l (ws.map U.d)) r1) Q X
  rw [Rn_bind]
  unfold compM
  rw [Rn_bind]
  exact q.imp fun k r1 ⟨e, q⟩ => by
    rw [e, if_pos rfl]
    cases z : compL k own (turnL (lvl c n) elt g t) k.ws (wipe r1 own) with
    | ok ws r2 => rw [z] at q; exact q
    | ex x r2 => rw [z] at q; exact q.elim
    | bad => rw [z] at q; exact q.elim
theorem S_lc {D : Dn} {bo : Bool} {elt : IE} {g : IG} {own : List Nat} {it : II} {t : Option IT} (q : Rn (stepI s it r) (fun k r1 => (Nat.ble k.ws.length size && ownOk r1 own && k.ks.all (fun q => !own.any (Nat.beq q.1))) = true ∧ Rn (compL k own (turnL s elt g t) k.ws (wipe r1 own)) (fun ws r2 => ∃ r3, setV (back r1 r2 own) i (if bo then .l (ws.map U.d) else .d (.lis ws)) = some r3 ∧ D.N r3) (fun _ _ => False)) D.X) : Sn (stepS s (.lc bo i elt g own it t) r) D := by
  show Sn ((compM s elt g own it t r).toS fun ws r1 => match setV r1 i (if bo then .l (ws.map U.d) else .d (.lis ws)) with
    | some r2 => .nx r2
    | none => .bad) D
  rw [Sn_toS]
  unfold compM
  rw [Rn_bind]
  exact q.imp fun k r1 ⟨e, q⟩ => by
    rw [e, if_pos rfl]
    cases z : compL k own (turnL s elt g t) k.ws (wipe r1 own) with
    | ok ws r2 =>
      rw [z] at q
      obtain ⟨r3, e3, q⟩ := q
      show Sn (match setV (back r1 r2 own) i (if bo then .l (ws.map U.d) else .d (.lis ws)) with
        | some r2 => .nx r2
        | none => .bad) D
      rw [e3]; exact q
    | ex x r2 => rw [z] at q; exact q.elim
    | bad => rw [z] at q; exact q.elim
theorem C_nil {k : Wk} {own : List Nat} {f : W → Env → Res (Option W)} {Q : List W → Env → Prop} (h : k.still r = true) (_h2 : True = True) (q : Q [] r) : Rn (compL k own f [] r) Q X := by
  show Rn (if k.still r then Res.ok [] r else .bad) Q X
  rw [h]; exact q
def turnB (s : SF) (elt : IE) (t : Option IT) (r1 : Env) : Res (Option W) := match t with
      | none => (s.E elt r1).bind fun u r2 => .ok (some u) r2
      | some t => (s.T t r1).bind fun b r2 => if b then (s.E elt r2).bind fun u r3 => .ok (some u) r3 else .ok none r2
theorem C_turn {k : Wk} {own : List Nat} {elt : IE} {g : IG} {t : Option IT} {w : W} {ws : List W} {Q : List W → Env → Prop} (h : k.still r = true) (hb : bindG g w r = some r1)
    (q : Rn (turnB s elt t r1) (fun o r2 => Rn (compL k own (turnL s elt g t) ws (wipe r2 own)) (fun us r3 => Q (o.toList ++ us) r3) (fun _ _ => False)) (fun _ _ => False)) : Rn (compL k own (turnL s elt g t) (w :: ws) r) Q X := by
  unfold compL
  rw [h, if_pos rfl]
  have e : turnL s elt g t w r = turnB s elt t r1 := by
    unfold turnL turnB
    rw [hb]
    try (cases t <;> rfl)
  rw [← e] at q
  cases z : turnL s elt g t w r with
  | bad => rw [z] at q; exact q.elim
  | ex x r2 => rw [z] at q; exact q.elim
  | ok o r2 =>
    rw [z] at q
    have q : Rn (compL k own (turnL s elt g t) ws (wipe r2 own)) (fun us r3 => Q (o.toList ++ us) r3) (fun _ _ => False) := q
    show Rn (match compL k own (turnL s elt g t) ws (wipe r2 own) with
      | .ok us r2 => (match o with
        | some u => Res.ok (u :: us) r2
        | none => .ok us r2)
      | _ => .bad) Q X
    cases z2 : compL k own (turnL s elt g t) ws (wipe r2 own) with
    | bad => rw [z2] at q; exact q.elim
    | ex x r3 => rw [z2] at q; exact q.elim
    | ok us r3 =>
      rw [z2] at q
      cases o with
      | none => exact q
      | some u => exact q
theorem C_e {elt : IE} {Q : Option W → Env → Prop} (q : Rn (s.E elt r) (fun u r2 => Q (some u) r2) X) : Rn (turnB s elt none r) Q X := by
  show Rn ((s.E elt r).bind fun u r2 => .ok (some u) r2) Q X
  rw [Rn_bind]; exact q
theorem C_t {t : IT} {elt : IE} {Q : Option W → Env → Prop} (q : Rn (s.T t r) (fun b r2 => if b = true then Rn (s.E elt r2) (fun u r3 => Q (some u) r3) X else Q none r2) X) : Rn (turnB s elt (some t) r) Q X := by
  show Rn ((s.T t r).bind fun b r2 => if b then (s.E elt r2).bind fun u r3 => .ok (some u) r3 else .ok none r2) Q X
  rw [Rn_bind]
  exact q.imp fun b r2 q => by
    cases b with
    | true => show Rn ((s.E elt r2).bind _) Q X; rw [Rn_bind]; exact q
    | false => exact q
theorem F_nil {f : W → Env → SRes} {D : Dn} (q : D.N r) : Sn (forL f [] r) D := q
theorem F_cons {g : IG} {body : List IS} {w : W} {ws : List W} {D : Dn} (hb : bindG g w r = some r1) (q : Sn (s.S body r1) (D.wl fun r2 => Sn (forL (fun w r2 => match bindG g w r2 with
      | some r3 => s.S body r3
      | none => .bad) ws r2) D)) : Sn (forL (fun w r2 => match bindG g w r2 with
      | some r3 => s.S body r3
      | none => .bad) (w :: ws) r) D := by
  unfold forL
  simp only [hb]
  cases z : s.S body r1 <;> (rw [z] at q; exact q)
theorem R_add {i j : Int} {Q : W → Env → Prop} (q : Q (.int (i + j)) r) : Rn (Res.of (arith .add (.int i) (.int j)) r) Q X := q
theorem R_subI {i j : Int} {Q : W → Env → Prop} (q : Q (.int (i - j)) r) : Rn (Res.of (arith .sub (.int i) (.int j)) r) Q X := q
theorem mulOk_r {i j : Int} (h : i.natAbs < 18446744073709551616 ∨ j.natAbs < 18446744073709551616) : mulOk i j = true := by
  unfold mulOk
  rw [Bool.or_eq_true, Bool.or_eq_true, Nat.blt_eq, Nat.blt_eq, Nat.blt_eq]
  rcases h with h | h
  · exact .inl (.inl h)
  · exact .inl (.inr h)
theorem R_mul {i j : Int} {Q : W → Env → Prop} (h : i.natAbs < 18446744073709551616 ∨ j.natAbs < 18446744073709551616) (q : Q (.int (i * j)) r) : Rn (Res.of (arith .mul (.int i) (.int j)) r) Q X := by
  show Rn (Res.of (if mulOk i j then some (.int (i * j)) else none) r) Q X
  rw [mulOk_r h]; exact q
theorem R_mod {i j : Int} {Q : W → Env → Prop} (h : 0 < j) (q : Q (.int (i % j)) r) : Rn (Res.of (arith .mod (.int i) (.int j)) r) Q X := by
  show Rn (Res.of (if decide (0 < j) then some (.int (i % j)) else none) r) Q X
  rw [decide_eq_true h]; exact q
theorem R_div {i j : Int} {Q : W → Env → Prop} (h : 0 < j ∧ j < 1000000000000000000) (q : Q (.int (i / j)) r) : Rn (Res.of (arith .fdiv (.int i) (.int j)) r) Q X := by
  show Rn (Res.of (if decide (0 < j) && Nat.blt j.natAbs.log2 9000 then some (.int (i / j)) else none) r) Q X
  rw [decide_eq_true h.1]
  have : j.natAbs.log2 < 9000 := by
    have h1 : j.natAbs < 2 ^ 60 := by have := h.2; omega
    have h2 : j.natAbs ≠ 0 := by have := h.1; omega
    have := (Nat.log2_lt h2).mpr h1
    omega
  rw [Nat.blt_eq.mpr this]; exact q
theorem R_pow {i j : Int} {w : W} {Q : W → Env → Prop} (h : arith .pow (.int i) (.int j) = some w) (q : Q w r) : Rn (Res.of (arith .pow (.int i) (.int j)) r) Q X := by
  rw [h]; exact q
theorem R_cat {A B : Arg} {us ws : List W} {Q : U → Env → Prop} (e1 : vw r A = some (.lis us)) (e2 : vw r B = some (.lis ws)) (e3 : Nat.ble (us.length + ws.length) size = true) (_e4 : True = True) (q : Q (.l ((us ++ ws).map U.d)) r) : Rn (Res.of ((vw r A).bind fun u => (lstW u).bind fun us => (vw r B).bind fun w => (lstW w).bind fun ws => if Nat.ble (us.length + ws.length) size then some (.l ((us ++ ws).map U.d)) else none) r) Q X := by
  rw [e1, e2]
  show Rn (Res.of (if Nat.ble (us.length + ws.length) size then some (.l ((us ++ ws).map U.d)) else none) r) Q X
  rw [e3]; exact q
theorem R_slcU {A : Arg} {ws us : List W} {l h : Option Int} {Q : U → Env → Prop} (e1 : vw r A = some (.lis ws)) (e2 : cut ws l h = us) (q : Q (.l (us.map U.d)) r) : Rn (Res.of ((vw r A).bind fun u => (lstW u).map fun ws => .l ((cut ws l h).map U.d)) r) Q X := by
  rw [e1]
  show Q (.l ((cut ws l h).map U.d)) r
  rw [e2]; exact q
theorem U_srt {x : IV} {Q : U → Env → Prop} (q : Rn ((lvl c n).V x r) (fun A r1 => Rn (Res.of ((vw r1 A).bind fun u => (sortF u).map fun ws => .l (ws.map U.d)) r1) Q X) X) : Rn ((lvl c (n + 1)).U (.srt x) r) Q X := by
  show Rn (((lvl c n).V x r).bind fun A r1 => Res.of ((vw r1 A).bind fun u => (sortF u).map fun ws => .l (ws.map U.d)) r1) Q X
  rw [Rn_bind]; exact q
theorem R_srt {A : Arg} {u : W} {ws : List W} {Q : U → Env → Prop} (e1 : vw r A = some u) (e2 : sortF u = some ws) (q : Q (.l (ws.map U.d)) r) : Rn (Res.of ((vw r A).bind fun u => (sortF u).map fun ws => .l (ws.map U.d)) r) Q X := by
  rw [e1, Option.bind_some, e2]; exact q
theorem R_wlk {A : Arg} {k : Wk} {Q : Wk → Env → Prop} (e : walkA r A = some k) (q : Q k r) : Rn (Res.of (walkA r A) r) Q X := by rw [e]; exact q
theorem R_dput {D : Dn} {ks : List W} {us : List U} {ws : List W} {v k : W} (e1 : lookU r i = some (.c ks us)) (e2 : dats us = some ws) (e3 : (keyOk k && Nat.blt ks.length size) = true) (e4 : putV r i (.c (dput k v ks ws).1 ((dput k v ks ws).2.map U.d)) = some r1) (q : D.N r1) : Sn (dputS i v k r) D := by
  unfold dputS
  rw [e1]
  show Sn (match dats us with
    | some ws => if keyOk k && Nat.blt ks.length size then (match putV r i (.c (dput k v ks ws).1 ((dput k v ks ws).2.map U.d)) with
      | some r3 => SRes.nx r3
      | none => .bad) else .bad
    | none => .bad) D
  rw [e2]
  show Sn (if keyOk k && Nat.blt ks.length size then (match putV r i (.c (dput k v ks ws).1 ((dput k v ks ws).2.map U.d)) with
      | some r3 => SRes.nx r3
      | none => .bad) else .bad) D
  rw [e3, if_pos rfl, e4]; exact q
theorem R_dgt {k d w : W} {Q : W → Env → Prop} (e : dgetV i k d r = some w) (q : Q w r) : Rn (Res.of (dgetV i k d r) r) Q X := by rw [e]; exact q
end
/-! ### calls -/
theorem run_ok {P : List FD} {F d f : Nat} {fd : FD} {es : List En} {u : U} {os : List U} {r0 : Env} (hf : nth P f = some fd) (hl : Nat.beq es.length fd.ar = true) (h0 : es ++ pad (fd.sl - fd.ar) = r0) (q : Sn ((lvl (callF P F d) F).S fd.body r0) ⟨fun r => u = .d .non ∧ outs es r = some os, fun v r => v = u ∧ outs es r = some os, fun _ => False, fun _ => False, fun _ _ => False⟩) : callF P F (d + 1) f es = .ok u os := by
  subst h0
  unfold callF
  rw [hf]
  show (if Nat.beq es.length fd.ar then ((lvl (callF P F d) F).S fd.body (es ++ pad (fd.sl - fd.ar))).val es else .bad) = _
  rw [hl, if_pos rfl]
  cases e : (lvl (callF P F d) F).S fd.body (es ++ pad (fd.sl - fd.ar)) with
  | nx r => rw [e] at q; obtain ⟨rfl, q⟩ := q; show (match outs es r with | some os => CRes.ok (U.d .non) os | none => .bad) = _; rw [q]
  | rt v r => rw [e] at q; obtain ⟨rfl, q⟩ := q; show (match outs es r with | some os => CRes.ok v os | none => .bad) = _; rw [q]
  | bk r => rw [e] at q; exact q.elim
  | ct r => rw [e] at q; exact q.elim
  | ex x r => rw [e] at q; exact q.elim
  | bad => rw [e] at q; exact q.elim
/-- any outcome of a call that ends well -/
theorem run_any {P : List FD} {F d f : Nat} {fd : FD} {es : List En} {Z : U → List U → Prop} {r0 : Env} (hf : nth P f = some fd) (hl : Nat.beq es.length fd.ar = true) (h0 : es ++ pad (fd.sl - fd.ar) = r0) (q : Sn ((lvl (callF P F d) F).S fd.body r0) ⟨fun r => ∃ os, outs es r = some os ∧ Z (.d .non) os, fun v r => ∃ os, outs es r = some os ∧ Z v os, fun _ => False, fun _ => False, fun _ _ => False⟩) : ∃ u os, callF P F (d + 1) f es = .ok u os ∧ Z u os := by
  subst h0
  unfold callF
  rw [hf]
  show ∃ u os, (if Nat.beq es.length fd.ar then ((lvl (callF P F d) F).S fd.body (es ++ pad (fd.sl - fd.ar))).val es else .bad) = .ok u os ∧ Z u os
  rw [hl, if_pos rfl]
  cases e : (lvl (callF P F d) F).S fd.body (es ++ pad (fd.sl - fd.ar)) with
  | nx r => rw [e] at q; obtain ⟨os, q, z⟩ := q; exact ⟨.d .non, os, by show (match outs es r with | some os => CRes.ok (U.d .non) os | none => .bad) = _; rw [q], z⟩
  | rt v r => rw [e] at q; obtain ⟨os, q, z⟩ := q; exact ⟨v, os, by show (match outs es r with | some os => CRes.ok v os | none => .bad) = _; rw [q], z⟩
  | bk r => rw [e] at q; exact q.elim
  | ct r => rw [e] at q; exact q.elim
  | ex x r => rw [e] at q; exact q.elim
  | bad => rw [e] at q; exact q.elim
end FM


set_option linter.all false
set_option maxRecDepth 100000
/-! The bodies of the defs, over the numbers that a law gives them. -/
namespace FL
open FM
structure Nums where
  is_integer : Nat := 100000
  is_short : Nat := 100000
  is_name : Nat := 100000
  is_sum : Nat := 100000
  is_place : Nat := 100000
  is_deed : Nat := 100000
  clash : Nat := 100000
  do_clash : Nat := 100000
  apply : Nat := 100000
  _law_pool : Nat := 100000
  _law_draw : Nat := 100000
  _law_sum : Nat := 100000
  _law_deed : Nat := 100000
  _law_clash : Nat := 100000
  _law_error : Nat := 100000
  _law_amount : Nat := 100000
  _law_same_ends : Nat := 100000
  law_K02 : Nat := 100000
  are_chosen : Nat := 100000
  is_step : Nat := 100000
  rows_of : Nat := 100000
  names_behind : Nat := 100000
  are_steps : Nat := 100000
  are_parameters : Nat := 100000
  is_pair : Nat := 100000
  are_unlike : Nat := 100000
  Kind___init__ : Nat := 100000
  Kind_unlike : Nat := 100000
  Kind_deeds : Nat := 100000
  Kind___len__ : Nat := 100000
  _law_odd_steps : Nat := 100000
  _law_odd : Nat := 100000
  _law_error_2 : Nat := 100000
  _law_greatest_right : Nat := 100000
  law_K04 : Nat := 100000
/-- is_integer(candidate); names ['candidate'] -/
def b_is_integer (N : Nums) : List IS := [.ret (.d (.and [.isi (.s 0) .int, .not (.isi (.s 0) .bool)]))]
def fd_is_integer (N : Nums) : FD := ⟨1, 1, b_is_integer N⟩
/-- is_short(candidate); names ['candidate'] -/
def b_is_short (N : Nums) : List IS := [.ret (.d (.and [.frz (.call N.is_integer [.d (.var 0)]), .chn .lt .lt (.e (.neg (.cst (.int 10000000000000000000000000000000000000000000000000000000000000000000000000000000000000000000000000000)))) (.s 0) (.e (.cst (.int 10000000000000000000000000000000000000000000000000000000000000000000000000000000000000000000000000000)))]))]
def fd_is_short (N : Nums) : FD := ⟨1, 1, b_is_short N⟩
/-- is_name(candidate); names ['candidate', 'letter'] -/
def b_is_name (N : Nums) : List IS := [.ifs (.or [.not (.val (.isi (.s 0) .str)), .not (.chn .le .le (.e (.cst (.int 1))) (.e (.blt .len [.s 0])) (.e (.cst (.int 8))))]) [.ret (.d (.cst (.bl false)))] [],
    .ret (.d (.and [.cmp .nin (.s 0) (.e (.cst (.tup [.str [107, 105, 110, 100], .str [117, 110, 108, 105, 107, 101], .str [98, 97, 99, 107, 115], .str [97, 108, 111, 110, 101], .str [114, 101, 97, 100], .str [97, 100, 100], .str [114, 97, 105, 115, 101], .str [108, 111, 119, 101, 114], .str [112, 117, 116], .str [99, 104, 101, 99, 107], .str [99, 104, 111, 111, 115, 101], .str [111, 114], .str [101, 110, 100], .str [110, 111, 110, 101]]))), .blt .all [.u (.comp (.chn .le .le (.e (.cst (.str [97]))) (.s 1) (.e (.cst (.str [122])))) (.nm 1) [1] (.v (.e (.var 0))) none)]]))]
def fd_is_name (N : Nums) : FD := ⟨1, 2, b_is_name N⟩
/-- is_sum(value); names ['value', 'term', 'factor', 'name', 'names', 'one', 'other'] -/
def b_is_sum (N : Nums) : List IS := [.ifs (.or [.not (.val (.isi (.s 0) .tuple)), .cmp .ne (.e (.blt .len [.s 0])) (.e (.cst (.int 3))), .cmp .ne (.e (.idx (.s 0) (.cst (.int 0)))) (.e (.cst (.str [115, 117, 109]))), .not (.val (.isi (.e (.idx (.s 0) (.cst (.int 0)))) .str))]) [.ret (.d (.cst (.bl false)))] [],
    .ifs (.or [.not (.val (.frz (.call N.is_short [.d (.idx (.s 0) (.cst (.int 1)))]))), .not (.val (.isi (.e (.idx (.s 0) (.cst (.int 2)))) .tuple))]) [.ret (.d (.cst (.bl false)))] [],
    .for (.nm 1) (.v (.e (.idx (.s 0) (.cst (.int 2))))) [.ifs (.or [.not (.val (.isi (.s 1) .tuple)), .cmp .ne (.e (.blt .len [.s 1])) (.e (.cst (.int 2))), .not (.val (.frz (.call N.is_short [.d (.idx (.s 1) (.cst (.int 0)))]))), .cmp .eq (.e (.idx (.s 1) (.cst (.int 0)))) (.e (.cst (.int 0)))]) [.ret (.d (.cst (.bl false)))] [],
    .ifs (.not (.val (.frz (.call N.is_name [.d (.idx (.s 1) (.cst (.int 1)))])))) [.ret (.d (.cst (.bl false)))] []],
    .lc false 4 (.var 3) (.tp [.nm 2, .nm 3]) [2, 3] (.v (.e (.idx (.s 0) (.cst (.int 2))))) none,
    .ret (.d (.blt .all [.u (.comp (.cmp .lt (.s 5) (.s 6)) (.tp [.nm 5, .nm 6]) [5, 6] (.zip (.e (.var 4)) (.u (.slc (.s 4) (some (.cst (.int 1))) none))) none)]))]
def fd_is_sum (N : Nums) : FD := ⟨1, 7, b_is_sum N⟩
/-- is_place(value); names ['value'] -/
def b_is_place (N : Nums) : List IS := [.ifs (.or [.not (.val (.isi (.s 0) .tuple)), .cmp .ne (.e (.blt .len [.s 0])) (.e (.cst (.int 2))), .not (.val (.frz (.call N.is_name [.d (.idx (.s 0) (.cst (.int 0)))])))]) [.ret (.d (.cst (.bl false)))] [],
    .ret (.d (.or [.frz (.call N.is_short [.d (.idx (.s 0) (.cst (.int 1)))]), .frz (.call N.is_name [.d (.idx (.s 0) (.cst (.int 1)))])]))]
def fd_is_place (N : Nums) : FD := ⟨1, 1, b_is_place N⟩
/-- is_deed(value); names ['value'] -/
def b_is_deed (N : Nums) : List IS := [.ifs (.or [.not (.val (.isi (.s 0) .tuple)), .cmp .ne (.e (.blt .len [.s 0])) (.e (.cst (.int 3))), .not (.val (.isi (.e (.idx (.s 0) (.cst (.int 0)))) .str)), .not (.val (.frz (.call N.is_place [.d (.idx (.s 0) (.cst (.int 1)))])))]) [.ret (.d (.cst (.bl false)))] [],
    .ifs (.cmp .eq (.e (.idx (.s 0) (.cst (.int 0)))) (.e (.cst (.str [114, 101, 97, 100])))) [.ret (.call N.is_name [.d (.idx (.s 0) (.cst (.int 2)))])] [],
    .ret (.d (.and [.cmp .inn (.e (.idx (.s 0) (.cst (.int 0)))) (.e (.cst (.tup [.str [97, 100, 100], .str [114, 97, 105, 115, 101], .str [108, 111, 119, 101, 114], .str [112, 117, 116]]))), .frz (.call N.is_sum [.d (.idx (.s 0) (.cst (.int 2)))])]))]
def fd_is_deed (N : Nums) : FD := ⟨1, 1, b_is_deed N⟩
/-- clash(one, other); names ['one', 'other'] -/
def b_clash (N : Nums) : List IS := [.ifs (.cmp .ne (.e (.idx (.e (.idx (.s 0) (.cst (.int 1)))) (.cst (.int 0)))) (.e (.idx (.e (.idx (.s 1) (.cst (.int 1)))) (.cst (.int 0))))) [.ret (.d (.cst (.bl false)))] [],
    .ifs (.cmp .ne (.e (.idx (.s 0) (.cst (.int 0)))) (.e (.idx (.s 1) (.cst (.int 0))))) [.ret (.d (.cst (.bl true)))] [],
    .ret (.d (.and [.cmp .eq (.e (.idx (.s 0) (.cst (.int 0)))) (.e (.cst (.str [112, 117, 116]))), .or [.cmp .ne (.e (.idx (.s 0) (.cst (.int 2)))) (.e (.idx (.s 1) (.cst (.int 2)))), .cmp .ne (.e (.idx (.e (.idx (.s 0) (.cst (.int 2)))) (.cst (.int 2)))) (.e (.tup []))]]))]
def fd_clash (N : Nums) : FD := ⟨2, 2, b_clash N⟩
/-- do_clash(one, other); names ['one', 'other', 'value'] -/
def b_do_clash (N : Nums) : List IS := [.for (.nm 2) (.v (.e (.tup [.var 0, .var 1]))) [.ifs (.not (.val (.frz (.call N.is_deed [.d (.var 2)])))) [.rse 1 (some 435761734006) (some (.var 2))] []],
    .ret (.call N.clash [.d (.var 0), .d (.var 1)])]
def fd_do_clash (N : Nums) : FD := ⟨2, 3, b_do_clash N⟩
/-- apply(deed, item, value, amount); names ['deed', 'item', 'value', 'amount'] -/
def b_apply (N : Nums) : List IS := [.mat (.idx (.s 0) (.cst (.int 0))) [(.str [97, 100, 100], [.ret (.d (.bin .add (.s 2) (.s 3)))]), (.str [114, 97, 105, 115, 101], [.ret (.d (.blt .max [.s 2, .s 3]))]), (.str [108, 111, 119, 101, 114], [.ret (.d (.blt .min [.s 2, .s 3]))]), (.str [112, 117, 116], [.ret (.d (.var 3))])],
    .ret (.d (.var 2))]
def fd_apply (N : Nums) : FD := ⟨4, 4, b_apply N⟩
/-- _law_pool(_law_script, _law_k); names ['_law_script', '_law_k', '_law_cell', '_law_size', '_law_seed'] -/
def b__law_pool (N : Nums) : List IS := [.asg (.nm 2) (.cst (.int 0)),
    .ifs (.cmp .lt (.s 1) (.e (.blt .len [.s 0]))) [.asg (.nm 2) (.idx (.s 0) (.var 1))] [],
    .asg (.nm 3) (.blt .abs [.s 2]),
    .asg (.nm 4) (.bin .mod (.e (.bin .mul (.e (.bin .add (.e (.bin .add (.e (.bin .mod (.s 3) (.e (.cst (.int 2147483629))))) (.e (.bin .mul (.e (.cst (.int 7919))) (.s 1))))) (.e (.cst (.int 31))))) (.e (.cst (.int 48271))))) (.e (.cst (.int 2147483647)))),
    .ret (.lst [.bin .mul (.s 3) (.e (.blt .int [.e (.cmp .ge (.s 3) (.e (.bin .pow (.e (.cst (.int 10))) (.e (.cst (.int 18))))))])), .var 4])]
def fd__law_pool (N : Nums) : FD := ⟨2, 5, b__law_pool N⟩
/-- _law_draw(_law_pool_here, _law_count); names ['_law_pool_here', '_law_count', '_law_found'] -/
def b__law_draw (N : Nums) : List IS := [.ifs (.cmp .gt (.e (.idx (.s 0) (.cst (.int 0)))) (.e (.cst (.int 0)))) [.asg (.nm 2) (.bin .mod (.e (.idx (.s 0) (.cst (.int 0)))) (.s 1)),
    .sub 0 (.cst (.int 0)) (.bin .fdiv (.e (.idx (.s 0) (.cst (.int 0)))) (.s 1)),
    .ret (.d (.var 2))] [],
    .sub 0 (.cst (.int 1)) (.bin .mod (.e (.bin .add (.e (.bin .mul (.e (.idx (.s 0) (.cst (.int 1)))) (.e (.cst (.int 48271))))) (.e (.cst (.int 11))))) (.e (.cst (.int 2147483647)))),
    .ret (.d (.bin .mod (.e (.bin .fdiv (.e (.bin .mod (.e (.bin .mul (.e (.idx (.s 0) (.cst (.int 1)))) (.e (.idx (.s 0) (.cst (.int 1)))))) (.e (.cst (.int 2147483629))))) (.e (.cst (.int 64))))) (.s 1)))]
def fd__law_draw (N : Nums) : FD := ⟨2, 3, b__law_draw N⟩
/-- _law_sum(_law_pool_here, _law_names); names ['_law_pool_here', '_law_names', '_law_total', '_law_turn', '_law_name', '_law_terms'] -/
def b__law_sum (N : Nums) : List IS := [.own 2 (.ndic),
    .for (.nm 3) (.rng (.bin .mul (.u (.call N._law_draw [.r 0, .d (.cst (.int 3))])) (.e (.blt .int [.e (.cmp .ne (.s 1) (.u (.lst [])))])))) [.asg (.nm 4) (.idx (.s 1) (.frz (.call N._law_draw [.r 0, .d (.blt .len [.s 1])]))),
    .dsub 2 (.var 4) (.bin .add (.e (.dget 2 (.var 4) (.cst (.int 0)))) (.e (.idx (.u (.lst [.cst (.int 1), .neg (.cst (.int 1)), .cst (.int 2)])) (.frz (.call N._law_draw [.r 0, .d (.cst (.int 3))])))))],
    .asg (.nm 5) (.blt .tuple [.u (.comp (.tup [.didx (.s 2) (.var 4), .var 4]) (.nm 4) [4] (.v (.u (.srt (.s 2)))) (some (.cmp .ne (.e (.didx (.s 2) (.var 4))) (.e (.cst (.int 0))))))]),
    .ret (.d (.tup [.cst (.str [115, 117, 109]), .idx (.u (.lst [.cst (.int 0), .cst (.int 1), .neg (.cst (.int 2)), .cst (.int 5)])) (.frz (.call N._law_draw [.r 0, .d (.cst (.int 4))])), .var 5]))]
def fd__law_sum (N : Nums) : FD := ⟨2, 6, b__law_sum N⟩
/-- _law_deed(_law_pool_here, _law_params, _law_known); names ['_law_pool_here', '_law_params', '_law_known', '_law_some', '_law_place', '_law_word'] -/
def b__law_deed (N : Nums) : List IS := [.asg (.nm 3) (.frz (.cat (.u (.cat (.s 1) (.s 1))) (.u (.slc (.u (.lst [.cst (.int 0), .cst (.int 1)])) none (some (.bin .add (.e (.cst (.int 1))) (.u (.call N._law_draw [.r 0, .d (.cst (.int 2))])))))))),
    .asg (.nm 4) (.tup [.idx (.u (.lst [.cst (.str [97]), .cst (.str [98])])) (.frz (.call N._law_draw [.r 0, .d (.cst (.int 2))])), .idx (.s 3) (.frz (.call N._law_draw [.r 0, .d (.blt .len [.s 3])]))]),
    .asg (.nm 5) (.idx (.u (.lst [.cst (.str [114, 101, 97, 100]), .cst (.str [114, 101, 97, 100]), .cst (.str [97, 100, 100]), .cst (.str [97, 100, 100]), .cst (.str [112, 117, 116]), .cst (.str [114, 97, 105, 115, 101]), .cst (.str [108, 111, 119, 101, 114])])) (.frz (.call N._law_draw [.r 0, .d (.cst (.int 7))]))),
    .ifs (.cmp .eq (.s 5) (.e (.cst (.str [114, 101, 97, 100])))) [.exp (.app 2 (.idx (.u (.lst [.cst (.str [120]), .cst (.str [121])])) (.frz (.call N._law_draw [.r 0, .d (.cst (.int 2))])))),
    .ret (.d (.tup [.cst (.str [114, 101, 97, 100]), .var 4, .idx (.s 2) (.neg (.cst (.int 1)))]))] [],
    .ret (.d (.tup [.var 5, .var 4, .frz (.call N._law_sum [.r 0, .d (.frz (.cat (.s 1) (.s 2)))])]))]
def fd__law_deed (N : Nums) : FD := ⟨3, 6, b__law_deed N⟩
/-- _law_clash(_law_one, _law_other); names ['_law_one', '_law_other'] -/
def b__law_clash (N : Nums) : List IS := [.ifs (.cmp .ne (.e (.idx (.e (.idx (.s 0) (.cst (.int 1)))) (.cst (.int 0)))) (.e (.idx (.e (.idx (.s 1) (.cst (.int 1)))) (.cst (.int 0))))) [.ret (.d (.cst (.bl false)))] [],
    .ifs (.cmp .ne (.e (.idx (.s 0) (.cst (.int 0)))) (.e (.idx (.s 1) (.cst (.int 0))))) [.ret (.d (.cst (.bl true)))] [],
    .ret (.d (.and [.cmp .eq (.e (.idx (.s 0) (.cst (.int 0)))) (.e (.cst (.str [112, 117, 116]))), .not (.and [.cmp .eq (.e (.idx (.s 0) (.cst (.int 2)))) (.e (.idx (.s 1) (.cst (.int 2)))), .cmp .eq (.e (.idx (.e (.idx (.s 0) (.cst (.int 2)))) (.cst (.int 2)))) (.e (.tup []))])]))]
def fd__law_clash (N : Nums) : FD := ⟨2, 2, b__law_clash N⟩
/-- _law_error(_law_one, _law_other); names ['_law_one', '_law_other', 'e'] -/
def b__law_error (N : Nums) : List IS := [.try [.exp (.frz (.call N.do_clash [.d (.var 0), .d (.var 1)]))] [1] [] 2 [.ret (.lst [.xfl 2 435761734006, .xis 2 [1] [], .xis 2 [1] []])],
    .ret (.d (.cst (.non)))]
def fd__law_error (N : Nums) : FD := ⟨2, 3, b__law_error N⟩
/-- _law_amount(_law_deed_here, _law_spot, _law_free); names ['_law_deed_here', '_law_spot', '_law_free', '_law_names', '_law_factor', '_law_name'] -/
def b__law_amount (N : Nums) : List IS := [.asg (.nm 3) (.frz (.dlt [(.cst (.str [112]), .ite (.cmp .eq (.e (.idx (.e (.idx (.s 0) (.cst (.int 1)))) (.cst (.int 1)))) (.e (.cst (.str [112])))) (.var 1) (.var 2)), (.cst (.str [120]), .bin .add (.s 2) (.e (.cst (.int 1))))])),
    .ret (.d (.bin .add (.e (.idx (.e (.idx (.s 0) (.cst (.int 2)))) (.cst (.int 1)))) (.e (.blt .sum [.u (.comp (.bin .mul (.s 4) (.e (.didx (.s 3) (.var 5)))) (.tp [.nm 4, .nm 5]) [4, 5] (.v (.e (.idx (.e (.idx (.s 0) (.cst (.int 2)))) (.cst (.int 2))))) none)]))))]
def fd__law_amount (N : Nums) : FD := ⟨3, 6, b__law_amount N⟩
/-- _law_same_ends(_law_one, _law_other, _law_value, _law_first, _law_second); names ['_law_one', '_law_other', '_law_value', '_law_first', '_law_second', '_law_deed_here', '_law_whole', '_law_spot', '_law_item', '_law_found'] -/
def b__law_same_ends (N : Nums) : List IS := [.ifs (.cmp .inn (.e (.cst (.str [114, 101, 97, 100]))) (.u (.lst [.idx (.s 0) (.cst (.int 0)), .idx (.s 1) (.cst (.int 0))]))) [.ret (.d (.cst (.bl true)))] [],
    .lc false 6 (.idx (.e (.idx (.s 5) (.cst (.int 1)))) (.cst (.int 1))) (.nm 5) [5] (.v (.u (.lst [.var 0, .var 1]))) (some (.not (.val (.isi (.e (.idx (.e (.idx (.s 5) (.cst (.int 1)))) (.cst (.int 1)))) .str)))),
    .ifs (.and [.cmp .eq (.e (.blt .len [.s 6])) (.e (.cst (.int 2))), .cmp .ne (.e (.idx (.s 6) (.cst (.int 0)))) (.e (.idx (.s 6) (.cst (.int 1))))]) [.ret (.d (.cst (.bl true)))] [],
    .asg (.nm 7) (.idx (.u (.cat (.s 6) (.u (.lst [.cst (.int 1)])))) (.cst (.int 0))),
    .asg (.nm 8) (.tup [.idx (.e (.idx (.s 0) (.cst (.int 1)))) (.cst (.int 0)), .var 7]),
    .par 3 4 (.frz (.call N._law_amount [.d (.var 0), .d (.var 7), .d (.var 3)])) (.frz (.call N._law_amount [.d (.var 1), .d (.var 7), .d (.var 4)])),
    .asg (.nm 9) (.frz (.call N.apply [.d (.var 1), .d (.var 8), .d (.frz (.call N.apply [.d (.var 0), .d (.var 8), .d (.var 2), .d (.var 3)])), .d (.var 4)])),
    .ret (.d (.cmp .eq (.s 9) (.u (.call N.apply [.d (.var 0), .d (.var 8), .d (.frz (.call N.apply [.d (.var 1), .d (.var 8), .d (.var 2), .d (.var 4)])), .d (.var 3)]))))]
def fd__law_same_ends (N : Nums) : FD := ⟨5, 10, b__law_same_ends N⟩
/-- law_K02(_law_script); names ['_law_script', '_law_k', '_law_pool_here', '_law_turn', '_law_one', '_law_other', '_law_number', '_law_value', '_law_first', '_law_second', '_law_odd'] -/
def b_law_K02 (N : Nums) : List IS := [.for (.nm 1) (.rng (.blt .max [.e (.cst (.int 1)), .e (.blt .min [.e (.cst (.int 8)), .e (.blt .len [.s 0])])])) [.own 2 (.call N._law_pool [.d (.var 0), .d (.var 1)]),
    .for (.nm 3) (.rng (.cst (.int 12))) [.par 4 5 (.frz (.call N._law_deed [.r 2, .d (.frz (.lst [.cst (.str [112])])), .u (.lst [.cst (.str [120])])])) (.frz (.call N._law_deed [.r 2, .d (.frz (.lst [.cst (.str [112])])), .u (.lst [.cst (.str [120])])])),
    .ifs (.cmp .ne (.u (.call N.do_clash [.d (.var 4), .d (.var 5)])) (.u (.call N._law_clash [.d (.var 4), .d (.var 5)]))) [.ret (.d (.cst (.bl false)))] [],
    .ifs (.cmp .ne (.u (.call N.do_clash [.d (.var 5), .d (.var 4)])) (.u (.call N.do_clash [.d (.var 4), .d (.var 5)]))) [.ret (.d (.cst (.bl false)))] [],
    .ifs (.cmp .ne (.u (.call N.do_clash [.d (.var 4), .d (.var 4)])) (.e (.and [.cmp .eq (.e (.idx (.s 4) (.cst (.int 0)))) (.e (.cst (.str [112, 117, 116]))), .cmp .ne (.e (.idx (.e (.idx (.s 4) (.cst (.int 2)))) (.cst (.int 2)))) (.e (.tup []))]))) [.ret (.d (.cst (.bl false)))] [],
    .asg (.tp [.nm 7, .nm 8, .nm 9]) (.frz (.comp (.bin .sub (.u (.call N._law_draw [.r 2, .d (.bin .pow (.e (.cst (.int 10))) (.e (.cst (.int 9))))])) (.e (.bin .pow (.e (.cst (.int 10))) (.e (.cst (.int 7)))))) (.nm 6) [6] (.rng (.cst (.int 3))) none)),
    .ifs (.and [.cmp .eq (.e (.idx (.e (.idx (.s 4) (.cst (.int 1)))) (.cst (.int 0)))) (.e (.idx (.e (.idx (.s 5) (.cst (.int 1)))) (.cst (.int 0)))), .not (.val (.frz (.call N.do_clash [.d (.var 4), .d (.var 5)])))]) [.ifs (.not (.val (.frz (.call N._law_same_ends [.d (.var 4), .d (.var 5), .d (.var 7), .d (.var 8), .d (.var 9)])))) [.ret (.d (.cst (.bl false)))] []] [],
    .for (.nm 10) (.v (.u (.lst [.cst (.non), .cst (.int 5), .tup [], .frz (.lst [.cst (.str [114, 101, 97, 100]), .tup [.cst (.str [97]), .cst (.int 1)], .cst (.str [120])]), .tup [.cst (.str [114, 101, 97, 100]), .tup [.cst (.str [97]), .cst (.int 1)], .cst (.int 5)], .cst (.str [114, 101, 97, 100])]))) [.ifs (.cmp .ne (.u (.call N._law_error [.d (.var 10), .d (.cst (.int 7))])) (.u (.lst [.var 10, .cst (.bl true), .cst (.bl true)]))) [.ret (.d (.cst (.bl false)))] [],
    .ifs (.cmp .ne (.u (.call N._law_error [.d (.var 4), .d (.var 10)])) (.u (.lst [.var 10, .cst (.bl true), .cst (.bl true)]))) [.ret (.d (.cst (.bl false)))] []]]],
    .ret (.d (.cst (.bl true)))]
def fd_law_K02 (N : Nums) : FD := ⟨1, 11, b_law_K02 N⟩
/-- are_chosen(value); names ['value', 'deed'] -/
def b_are_chosen (N : Nums) : List IS := [.ret (.d (.and [.isi (.s 0) .tuple, .cmp .le (.e (.blt .len [.s 0])) (.e (.cst (.int 3))), .blt .all [.u (.comp (.frz (.call N.is_deed [.d (.var 1)])) (.nm 1) [1] (.v (.e (.var 0))) none)]]))]
def fd_are_chosen (N : Nums) : FD := ⟨1, 2, b_are_chosen N⟩
/-- is_step(value); names ['value'] -/
def b_is_step (N : Nums) : List IS := [.ifs (.or [.not (.val (.isi (.s 0) .tuple)), .cmp .eq (.s 0) (.e (.tup [])), .not (.val (.isi (.e (.idx (.s 0) (.cst (.int 0)))) .str))]) [.ret (.d (.cst (.bl false)))] [],
    .ifs (.cmp .eq (.e (.idx (.s 0) (.cst (.int 0)))) (.e (.cst (.str [99, 104, 101, 99, 107])))) [.ret (.d (.and [.cmp .eq (.e (.blt .len [.s 0])) (.e (.cst (.int 2))), .frz (.call N.is_name [.d (.idx (.s 0) (.cst (.int 1)))])]))] [],
    .ifs (.cmp .eq (.e (.idx (.s 0) (.cst (.int 0)))) (.e (.cst (.str [99, 104, 111, 111, 115, 101])))) [.ret (.d (.and [.cmp .eq (.e (.blt .len [.s 0])) (.e (.cst (.int 3))), .frz (.call N.are_chosen [.d (.idx (.s 0) (.cst (.int 1)))]), .frz (.call N.are_chosen [.d (.idx (.s 0) (.cst (.int 2)))])]))] [],
    .ret (.call N.is_deed [.d (.var 0)])]
def fd_is_step (N : Nums) : FD := ⟨1, 1, b_is_step N⟩
/-- rows_of(step); names ['step'] -/
def b_rows_of (N : Nums) : List IS := [.ifs (.cmp .eq (.e (.idx (.s 0) (.cst (.int 0)))) (.e (.cst (.str [99, 104, 101, 99, 107])))) [.ret (.lst [])] [],
    .ret (.d (.ite (.cmp .eq (.e (.idx (.s 0) (.cst (.int 0)))) (.e (.cst (.str [99, 104, 111, 111, 115, 101])))) (.frz (.lst [.tup [.cst (.int 0), .idx (.s 0) (.cst (.int 1))], .tup [.cst (.int 1), .idx (.s 0) (.cst (.int 2))]])) (.frz (.lst [.tup [.cst (.non), .tup [.var 0]]]))))]
def fd_rows_of (N : Nums) : FD := ⟨1, 1, b_rows_of N⟩
/-- names_behind(deeds, known, parameters); names ['deeds', 'known', 'parameters', 'found', 'word', 'place', 'rest', 'factor', 'name'] -/
def b_names_behind (N : Nums) : List IS := [.own 3 (.lof (.s 1)),
    .for (.tp [.nm 4, .nm 5, .nm 6]) (.v (.e (.var 0))) [.ifs (.and [.val (.isi (.e (.idx (.s 5) (.cst (.int 1)))) .str), .cmp .nin (.e (.idx (.s 5) (.cst (.int 1)))) (.s 2)]) [.ret (.d (.cst (.non)))] [],
    .ifs (.cmp .eq (.s 4) (.e (.cst (.str [114, 101, 97, 100])))) [.ifs (.cmp .inn (.s 6) (.s 2)) [.ret (.d (.cst (.non)))] [],
    .exp (.app 3 (.var 6))] [.ifs (.not (.val (.blt .all [.u (.comp (.cmp .inn (.s 8) (.s 3)) (.tp [.nm 7, .nm 8]) [7, 8] (.v (.e (.idx (.s 6) (.cst (.int 2))))) none)]))) [.ret (.d (.cst (.non)))] []]],
    .ret (.mv 3)]
def fd_names_behind (N : Nums) : FD := ⟨3, 9, b_names_behind N⟩
/-- are_steps(value, parameters); names ['value', 'parameters', 'step', 'tuple_number', 'deeds', 'known', 'ahead', 'own'] -/
def b_are_steps (N : Nums) : List IS := [.ifs (.or [.not (.val (.isi (.s 0) .tuple)), .not (.chn .le .le (.e (.cst (.int 1))) (.e (.blt .len [.s 0])) (.e (.cst (.int 8))))]) [.ret (.d (.cst (.bl false)))] [],
    .ifs (.not (.val (.blt .all [.u (.comp (.frz (.call N.is_step [.d (.var 2)])) (.nm 2) [2] (.v (.e (.var 0))) none)]))) [.ret (.d (.cst (.bl false)))] [],
    .ifs (.cmp .gt (.e (.blt .sum [.u (.comp2 (.blt .len [.s 4]) (.nm 2) (.v (.e (.var 0))) none (.tp [.nm 3, .nm 4]) (.frz (.call N.rows_of [.d (.var 2)])) none [2, 3, 4] [3, 4])])) (.e (.cst (.int 12)))) [.ret (.d (.cst (.bl false)))] [],
    .own 5 (.lof (.s 1)),
    .for (.nm 2) (.v (.e (.var 0))) [.asg (.nm 6) (.frz (.lof (.s 5))),
    .for (.tp [.nm 3, .nm 4]) (.v (.u (.call N.rows_of [.d (.var 2)]))) [.asg (.nm 7) (.frz (.call N.names_behind [.d (.var 4), .d (.var 6), .d (.var 1)])),
    .ifs (.cmp .is (.s 7) (.e (.cst (.non)))) [.ret (.d (.cst (.bl false)))] [],
    .exp (.ext 5 (.s 7))]],
    .ret (.d (.cst (.bl true)))]
def fd_are_steps (N : Nums) : FD := ⟨2, 8, b_are_steps N⟩
/-- are_parameters(value); names ['value', 'name'] -/
def b_are_parameters (N : Nums) : List IS := [.ifs (.or [.not (.val (.isi (.s 0) .tuple)), .cmp .gt (.e (.blt .len [.s 0])) (.e (.cst (.int 4))), .not (.val (.blt .all [.u (.comp (.frz (.call N.is_name [.d (.var 1)])) (.nm 1) [1] (.v (.e (.var 0))) none)]))]) [.ret (.d (.cst (.bl false)))] [],
    .ret (.d (.cmp .eq (.e (.lset (.s 0))) (.e (.blt .len [.s 0]))))]
def fd_are_parameters (N : Nums) : FD := ⟨1, 2, b_are_parameters N⟩
/-- is_pair(pair, parameters); names ['pair', 'parameters'] -/
def b_is_pair (N : Nums) : List IS := [.ifs (.or [.not (.val (.isi (.s 0) .tuple)), .cmp .ne (.e (.blt .len [.s 0])) (.e (.cst (.int 2))), .not (.val (.isi (.e (.idx (.s 0) (.cst (.int 0)))) .str)), .cmp .nin (.e (.idx (.s 0) (.cst (.int 0)))) (.s 1)]) [.ret (.d (.cst (.bl false)))] [],
    .ifs (.val (.frz (.call N.is_short [.d (.idx (.s 0) (.cst (.int 1)))]))) [.ret (.d (.cst (.bl true)))] [],
    .ifs (.or [.not (.val (.isi (.e (.idx (.s 0) (.cst (.int 1)))) .str)), .cmp .nin (.e (.idx (.s 0) (.cst (.int 1)))) (.s 1)]) [.ret (.d (.cst (.bl false)))] [],
    .ret (.d (.cmp .lt (.e (.tix (.var 1) (.idx (.s 0) (.cst (.int 0))))) (.e (.tix (.var 1) (.idx (.s 0) (.cst (.int 1)))))))]
def fd_is_pair (N : Nums) : FD := ⟨2, 2, b_is_pair N⟩
/-- are_unlike(value, parameters, most); names ['value', 'parameters', 'most', 'pair'] -/
def b_are_unlike (N : Nums) : List IS := [.ifs (.or [.not (.val (.isi (.s 0) .tuple)), .cmp .gt (.e (.blt .len [.s 0])) (.s 2)]) [.ret (.d (.cst (.bl false)))] [],
    .ret (.d (.and [.blt .all [.u (.comp (.frz (.call N.is_pair [.d (.var 3), .d (.var 1)])) (.nm 3) [3] (.v (.e (.var 0))) none)], .cmp .eq (.e (.lset (.s 0))) (.e (.blt .len [.s 0]))]))]
def fd_are_unlike (N : Nums) : FD := ⟨3, 4, b_are_unlike N⟩
/-- Kind___init__(self, name, parameters, steps, unlike, backs, alone, most); names ['self', 'name', 'parameters', 'steps', 'unlike', 'backs', 'alone', 'most', 'deeds', 'spots', 'number', 'step', 'tuple_number', 'own'] -/
def b_Kind___init__ (N : Nums) : List IS := [.ifs (.not (.val (.frz (.call N.is_name [.d (.var 1)])))) [.rse 14 (some 1953653104) (some (.cst (.str [110, 97, 109, 101])))] [],
    .ifs (.not (.val (.frz (.call N.are_parameters [.d (.var 2)])))) [.rse 14 (some 1953653104) (some (.cst (.str [112, 97, 114, 97, 109, 101, 116, 101, 114, 115])))] [],
    .ifs (.not (.val (.frz (.call N.are_steps [.d (.var 3), .d (.var 2)])))) [.rse 14 (some 1953653104) (some (.cst (.str [115, 116, 101, 112, 115])))] [],
    .ifs (.not (.val (.frz (.call N.are_unlike [.d (.var 4), .d (.var 2), .d (.var 7)])))) [.rse 14 (some 1953653104) (some (.cst (.str [117, 110, 108, 105, 107, 101])))] [],
    .ifs (.not (.val (.isi (.s 5) .bool))) [.rse 14 (some 1953653104) (some (.cst (.str [98, 97, 99, 107, 115])))] [],
    .ifs (.not (.val (.isi (.s 6) .bool))) [.rse 14 (some 1953653104) (some (.cst (.str [97, 108, 111, 110, 101])))] [],
    .fset 40 0 2129766444667608397679 (.d (.tup [.var 1, .var 2, .var 3, .var 4, .var 5, .var 6])),
    .par2 8 9 (.lst []) (.lst []),
    .for (.tp [.nm 10, .nm 11]) (.enm (.e (.var 3))) [.for (.tp [.nm 12, .nm 13]) (.v (.u (.call N.rows_of [.d (.var 11)]))) [.exp (.ext 8 (.s 13)),
    .exp (.ext 9 (.u (.rep (.u (.lst [.tup [.var 10, .var 12]])) (.blt .len [.s 13]))))]],
    .fset 40 0 2128609868334811215727 (.d (.blt .tuple [.s 8])),
    .fset 40 0 2129765616748237584239 (.d (.blt .tuple [.s 9]))]
def fd_Kind___init__ (N : Nums) : FD := ⟨8, 14, b_Kind___init__ N⟩
/-- Kind_unlike(self); names ['self'] -/
def b_Kind_unlike (N : Nums) : List IS := [.ret (.d (.idx (.e (.fld 40 (.s 0) 2129766444667608397679)) (.cst (.int 3))))]
def fd_Kind_unlike (N : Nums) : FD := ⟨1, 1, b_Kind_unlike N⟩
/-- Kind_deeds(self); names ['self'] -/
def b_Kind_deeds (N : Nums) : List IS := [.ret (.d (.fld 40 (.s 0) 2128609868334811215727))]
def fd_Kind_deeds (N : Nums) : FD := ⟨1, 1, b_Kind_deeds N⟩
/-- Kind___len__(self); names ['self'] -/
def b_Kind___len__ (N : Nums) : List IS := [.ret (.d (.blt .len [.e (.idx (.e (.fld 40 (.s 0) 2129766444667608397679)) (.cst (.int 2)))]))]
def fd_Kind___len__ (N : Nums) : FD := ⟨1, 1, b_Kind___len__ N⟩
/-- _law_odd_steps(); names ['_law_one', '_law_add', '_law_found', '_law_late'] -/
def b__law_odd_steps (N : Nums) : List IS := [.asg (.tp [.nm 0, .nm 1]) (.tup [.tup [.cst (.str [115, 117, 109]), .cst (.int 1), .tup []], .tup [.cst (.str [97, 100, 100]), .tup [.cst (.str [97]), .cst (.str [112])], .tup [.cst (.str [115, 117, 109]), .cst (.int 1), .tup []]]]),
    .asg (.nm 2) (.frz (.lst [.cst (.non), .cst (.int 5), .tup [], .frz (.lst [.var 1]), .bin .mul (.e (.tup [.var 1])) (.e (.cst (.int 9))), .tup [.cst (.non)], .tup [.cst (.str [97, 100, 100])], .tup [.tup [.cst (.str [99, 104, 101, 99, 107])]], .tup [.tup [.cst (.str [99, 104, 101, 99, 107]), .cst (.str [80])]], .tup [.tup [.cst (.str [99, 104, 101, 99, 107]), .cst (.int 5)]]])),
    .asg (.nm 2) (.frz (.cat (.s 2) (.u (.lst [.tup [.tup [.cst (.str [99, 104, 101, 99, 107]), .cst (.str [97]), .cst (.str [98])]], .tup [.tup [.cst (.str [99, 104, 111, 111, 115, 101]), .tup [.var 1]]], .tup [.tup [.cst (.str [99, 104, 111, 111, 115, 101]), .frz (.lst [.var 1]), .tup []]], .tup [.tup [.cst (.str [99, 104, 111, 111, 115, 101]), .bin .mul (.e (.tup [.var 1])) (.e (.cst (.int 4))), .tup []]]])))),
    .asg (.nm 2) (.frz (.cat (.s 2) (.u (.lst [.tup [.tup [.cst (.str [99, 104, 111, 111, 115, 101]), .tup [.tup [.cst (.str [99, 104, 101, 99, 107]), .cst (.str [97])]], .tup []]], .tup [.tup [.cst (.str [99, 104, 111, 111, 115, 101]), .tup [.cst (.non)], .tup []]], .tup [.frz (.lst [.cst (.str [99, 104, 101, 99, 107]), .cst (.str [97])])], .tup [.tup []]])))),
    .asg (.nm 2) (.frz (.cat (.s 2) (.u (.lst [.tup [.tup [.cst (.str [114, 101, 97, 100]), .tup [.cst (.str [97]), .cst (.str [122])], .cst (.str [120])]], .tup [.tup [.cst (.str [114, 101, 97, 100]), .tup [.cst (.str [97]), .cst (.str [112])], .cst (.str [112])]], .tup [.tup [.cst (.str [97, 100, 100]), .tup [.cst (.str [97]), .cst (.str [112])], .tup [.cst (.str [115, 117, 109]), .cst (.int 1), .tup [.tup [.cst (.int 1), .cst (.str [120])]]]]]])))),
    .asg (.nm 2) (.frz (.cat (.s 2) (.u (.lst [.tup [.tup [.cst (.str [114, 101, 97, 100]), .tup [.cst (.str [97]), .cst (.str [112])], .cst (.str [120])], .tup [.cst (.str [97, 100, 100]), .tup [.cst (.str [97]), .cst (.str [122])], .var 0]], .tup [.tup [.cst (.str [97, 100, 100]), .tup [.cst (.str [97]), .cst (.int 1)], .tup [.cst (.str [115, 117, 109]), .cst (.int 0), .tup [.tup [.cst (.int 1), .cst (.str [122])]]]]]])))),
    .asg (.nm 3) (.tup [.tup [.cst (.str [97, 100, 100]), .tup [.cst (.str [97]), .cst (.int 1)], .tup [.cst (.str [115, 117, 109]), .cst (.int 0), .tup [.tup [.cst (.int 1), .cst (.str [120])]]]], .tup [.cst (.str [114, 101, 97, 100]), .tup [.cst (.str [97]), .cst (.int 1)], .cst (.str [120])]]),
    .asg (.nm 2) (.frz (.cat (.s 2) (.u (.lst [.var 3, .tup [.tup [.cst (.str [99, 104, 111, 111, 115, 101]), .slc (.s 3) (some (.cst (.int 1))) none, .slc (.s 3) none (some (.cst (.int 1)))]], .tup [.tup [.cst (.str [99, 104, 111, 111, 115, 101]), .var 3, .tup []]]])))),
    .ret (.cat (.s 2) (.u (.lst [.bin .add (.e (.bin .mul (.e (.tup [.tup [.cst (.str [99, 104, 111, 111, 115, 101]), .bin .mul (.e (.tup [.var 1])) (.e (.cst (.int 3))), .bin .mul (.e (.tup [.var 1])) (.e (.cst (.int 3)))]])) (.e (.cst (.int 2))))) (.e (.tup [.var 1])), .bin .mul (.e (.tup [.tup [.cst (.str [99, 104, 111, 111, 115, 101]), .bin .mul (.e (.tup [.var 1])) (.e (.cst (.int 3))), .bin .mul (.e (.tup [.var 1])) (.e (.cst (.int 3)))]])) (.e (.cst (.int 3)))])))]
def fd__law_odd_steps (N : Nums) : FD := ⟨0, 4, b__law_odd_steps N⟩
/-- _law_odd(_law_part); names ['_law_part', '_law_odd_here'] -/
def b__law_odd (N : Nums) : List IS := [.ifs (.cmp .eq (.s 0) (.e (.cst (.int 0)))) [.ret (.lst [.cst (.non), .cst (.int 5), .cst (.str []), .cst (.str [80, 97, 121]), .cst (.str [116, 111, 111, 108, 111, 110, 103, 110, 97, 109, 101]), .cst (.str [107, 105, 110, 100]), .cst (.str [97, 32, 98]), .tup [.cst (.str [112, 97, 121])], .cst (.str [110, 111, 110, 101])])] [],
    .ifs (.cmp .eq (.s 0) (.e (.cst (.int 1)))) [.ret (.lst [.cst (.non), .cst (.str [112]), .frz (.lst [.cst (.str [112])]), .tup [.cst (.str [112]), .cst (.str [112])], .tup [.cst (.str [80])], .tup [.cst (.int 5)], .tup [.cst (.str [112]), .cst (.str [113]), .cst (.str [114]), .cst (.str [115]), .cst (.str [116])], .tup [.cst (.str [97, 100, 100])], .tup [.cst (.non)]])] [],
    .ifs (.cmp .eq (.s 0) (.e (.cst (.int 2)))) [.ret (.call N._law_odd_steps [])] [],
    .ifs (.cmp .eq (.s 0) (.e (.cst (.int 3)))) [.asg (.nm 1) (.frz (.lst [.cst (.non), .bin .mul (.e (.tup [.tup [.cst (.str [112]), .cst (.str [113])]])) (.e (.cst (.int 7))), .frz (.lst [.tup [.cst (.str [112]), .cst (.str [113])]]), .tup [.tup [.cst (.str [112])]], .tup [.tup [.cst (.str [112]), .cst (.str [112])]], .tup [.tup [.cst (.str [113]), .cst (.str [112])]], .tup [.tup [.cst (.str [122]), .cst (.int 1)]], .tup [.tup [.cst (.str [112]), .cst (.str [122])]]])),
    .ret (.cat (.s 1) (.u (.lst [.tup [.tup [.cst (.int 1), .cst (.str [112])]], .tup [.tup [.cst (.str [112]), .cst (.bl true)]], .tup [.tup [.cst (.str [112]), .cst (.str [113])], .tup [.cst (.str [112]), .cst (.str [113])]], .tup [.frz (.lst [.cst (.str [112]), .cst (.str [113])])], .tup [.tup [.cst (.str [112]), .cst (.non)]], .tup [.tup [.cst (.str [112]), .cst (.int 1), .cst (.int 2)]], .cst (.int 5)])))] [],
    .ret (.lst [.cst (.non), .cst (.int 0), .cst (.int 1), .cst (.str [121, 101, 115]), .tup []])]
def fd__law_odd (N : Nums) : FD := ⟨1, 2, b__law_odd N⟩
/-- _law_error_2(_law_parts); names ['_law_parts', 'e'] -/
def b__law_error_2 (N : Nums) : List IS := [.try [.exp (.frz (.make 40 N.Kind___init__ [.d (.idx (.s 0) (.cst (.int 0))), .d (.idx (.s 0) (.cst (.int 1))), .d (.idx (.s 0) (.cst (.int 2))), .d (.idx (.s 0) (.cst (.int 3))), .d (.idx (.s 0) (.cst (.int 4))), .d (.idx (.s 0) (.cst (.int 5)))] [.int 6]))] [14] [] 1 [.ret (.lst [.xfl 1 1953653104, .xis 1 [14] []])],
    .ret (.d (.cst (.non)))]
def fd__law_error_2 (N : Nums) : FD := ⟨1, 2, b__law_error_2 N⟩
/-- _law_greatest_right(_law_pool_here); names ['_law_pool_here', '_law_add', '_law_read', '_law_both', '_law_steps', '_law_unlike', '_law_kind', '_law_number', '_law_more'] -/
def b__law_greatest_right (N : Nums) : List IS := [.asg (.tp [.nm 1, .nm 2]) (.tup [.tup [.cst (.str [97, 100, 100]), .tup [.cst (.str [97]), .cst (.str [112])], .tup [.cst (.str [115, 117, 109]), .cst (.int 1), .tup [.tup [.cst (.int 2), .cst (.str [112])], .tup [.neg (.cst (.int 1)), .cst (.str [120])]]]], .tup [.cst (.str [114, 101, 97, 100]), .tup [.cst (.str [98]), .cst (.int 7)], .cst (.str [120])]]),
    .asg (.nm 3) (.tup [.cst (.str [99, 104, 111, 111, 115, 101]), .tup [.var 2, .var 1, .var 1], .tup [.var 2, .var 1]]),
    .asg (.nm 4) (.tup [.var 2, .var 3, .var 1, .var 1, .tup [.cst (.str [99, 104, 101, 99, 107]), .cst (.str [111, 107])], .tup [.cst (.str [112, 117, 116]), .tup [.cst (.str [99]), .cst (.str [115])], .tup [.cst (.str [115, 117, 109]), .cst (.int 0), .tup []]], .var 2, .tup [.cst (.str [99, 104, 111, 111, 115, 101]), .tup [.var 1], .tup []]]),
    .asg (.nm 5) (.tup [.tup [.cst (.str [112]), .cst (.str [113])], .tup [.cst (.str [112]), .cst (.str [114])], .tup [.cst (.str [112]), .cst (.str [115])], .tup [.cst (.str [113]), .cst (.str [114])], .tup [.cst (.str [113]), .cst (.int 5)], .tup [.cst (.str [115]), .bin .sub (.e (.cst (.int 1))) (.e (.bin .mul (.e (.bin .pow (.e (.cst (.int 10))) (.e (.cst (.int 50))))) (.e (.bin .pow (.e (.cst (.int 10))) (.e (.cst (.int 50)))))))]]),
    .asg (.nm 6) (.frz (.make 40 N.Kind___init__ [.d (.cst (.str [97, 98, 99, 100, 101, 102, 103, 104])), .d (.tup [.cst (.str [112]), .cst (.str [113]), .cst (.str [114]), .cst (.str [115])]), .d (.var 4), .d (.var 5), .d (.cst (.bl true)), .d (.cst (.bl true))] [.int 6])),
    .asg (.nm 8) (.frz (.make 40 N.Kind___init__ [.d (.cst (.str [112, 97, 121])), .d (.tup [.cst (.str [112])]), .d (.tup [.var 2]), .d (.blt .tuple [.u (.comp (.tup [.cst (.str [112]), .var 7]) (.nm 7) [7] (.rng (.cst (.int 9))) none)]), .d (.cst (.bl false)), .d (.cst (.bl false)), .d (.cst (.int 9))] [])),
    .ifs (.cmp .ne (.e (.blt .len [.u (.prp 40 N.Kind_deeds (.d (.var 6)))])) (.e (.cst (.int 11)))) [.ret (.d (.cst (.bl false)))] [],
    .ret (.d (.and [.cmp .eq (.e (.oln 40 N.Kind___len__ (.d (.var 6)))) (.e (.cst (.int 8))), .cmp .eq (.u (.prp 40 N.Kind_unlike (.d (.var 6)))) (.s 5), .cmp .eq (.e (.blt .len [.u (.prp 40 N.Kind_unlike (.d (.var 8)))])) (.e (.cst (.int 9)))]))]
def fd__law_greatest_right (N : Nums) : FD := ⟨1, 9, b__law_greatest_right N⟩
/-- law_K04(_law_script); names ['_law_script', '_law_names', '_law_good', '_law_k', '_law_pool_here', '_law_at', '_law_odd_here', '_law_parts', '_law_later'] -/
def b_law_K04 (N : Nums) : List IS := [.par 1 2 (.frz (.lst [.cst (.str [110, 97, 109, 101]), .cst (.str [112, 97, 114, 97, 109, 101, 116, 101, 114, 115]), .cst (.str [115, 116, 101, 112, 115]), .cst (.str [117, 110, 108, 105, 107, 101]), .cst (.str [98, 97, 99, 107, 115]), .cst (.str [97, 108, 111, 110, 101])])) (.cst (.non)),
    .for (.nm 3) (.rng (.blt .max [.e (.cst (.int 1)), .e (.blt .min [.e (.cst (.int 8)), .e (.blt .len [.s 0])])])) [.own 4 (.call N._law_pool [.d (.var 0), .d (.var 3)]),
    .asg (.nm 2) (.frz (.lst [.cst (.str [112, 97, 121]), .tup [.cst (.str [112]), .cst (.str [113])], .tup [.tup [.cst (.str [114, 101, 97, 100]), .tup [.cst (.str [97]), .cst (.str [112])], .cst (.str [120])], .tup [.cst (.str [97, 100, 100]), .tup [.cst (.str [98]), .cst (.str [113])], .tup [.cst (.str [115, 117, 109]), .cst (.int 0), .tup [.tup [.cst (.int 1), .cst (.str [120])]]]]], .tup [.tup [.cst (.str [112]), .cst (.str [113])]], .cst (.bl false), .cst (.bl true)])),
    .ifs (.or [.cmp .isn (.u (.call N._law_error_2 [.d (.var 2)])) (.e (.cst (.non))), .not (.val (.frz (.call N._law_greatest_right [.r 4])))]) [.ret (.d (.cst (.bl false)))] [],
    .for (.nm 5) (.rng (.cst (.int 6))) [.for (.nm 6) (.v (.u (.call N._law_odd [.d (.var 5)]))) [.own 7 (.cat (.u (.cat (.u (.slc (.s 2) none (some (.var 5)))) (.u (.lst [.var 6])))) (.u (.slc (.s 2) (some (.bin .add (.s 5) (.e (.cst (.int 1))))) none))),
    .asg (.nm 8) (.frz (.call N._law_draw [.r 4, .d (.cst (.int 6))])),
    .ifs (.cmp .gt (.s 8) (.s 5)) [.sub 7 (.var 8) (.idx (.u (.call N._law_odd [.d (.var 8)])) (.frz (.call N._law_draw [.r 4, .d (.blt .len [.u (.call N._law_odd [.d (.var 8)])])])))] [],
    .ifs (.cmp .ne (.u (.call N._law_error_2 [.r 7])) (.u (.lst [.idx (.s 1) (.var 5), .cst (.bl true)]))) [.ret (.d (.cst (.bl false)))] []]]],
    .ret (.d (.cst (.bl true)))]
def fd_law_K04 (N : Nums) : FD := ⟨1, 9, b_law_K04 N⟩
end FL


set_option linter.all false
set_option maxRecDepth 100000
set_option maxHeartbeats 4000000
namespace FL
open FM
theorem X_1 {α : Type} {p q : α → Prop} {a : α} (h : p a) (k : q a) : ∃ x, p x ∧ q x := ⟨a, h, k⟩
theorem X_2 {α β : Type} {p q : α → β → Prop} {a : α} {b : β} (h : p a b) (k : q a b) : ∃ x y, p x y ∧ q x y := ⟨a, b, h, k⟩
theorem X_3 {p q : Prop} (h : p) (k : q) : p ∧ q := ⟨h, k⟩
def bPool : List IS := [.asg (.nm 2) (.cst (.int 0)),
    .ifs (.cmp .lt (.s 1) (.e (.blt .len [.s 0]))) [.asg (.nm 2) (.idx (.s 0) (.var 1))] [],
    .asg (.nm 3) (.blt .abs [.s 2]),
    .asg (.nm 4) (.bin .mod (.e (.bin .mul (.e (.bin .add (.e (.bin .add (.e (.bin .mod (.s 3) (.e (.cst (.int 2147483629))))) (.e (.bin .mul (.e (.cst (.int 7919))) (.s 1))))) (.e (.cst (.int 31))))) (.e (.cst (.int 48271))))) (.e (.cst (.int 2147483647)))),
    .ret (.lst [.bin .mul (.s 3) (.e (.blt .int [.e (.cmp .ge (.s 3) (.e (.bin .pow (.e (.cst (.int 10))) (.e (.cst (.int 18))))))])), .var 4])]
def bDraw : List IS := [.ifs (.cmp .gt (.e (.idx (.s 0) (.cst (.int 0)))) (.e (.cst (.int 0)))) [.asg (.nm 2) (.bin .mod (.e (.idx (.s 0) (.cst (.int 0)))) (.s 1)),
    .sub 0 (.cst (.int 0)) (.bin .fdiv (.e (.idx (.s 0) (.cst (.int 0)))) (.s 1)),
    .ret (.d (.var 2))] [],
    .sub 0 (.cst (.int 1)) (.bin .mod (.e (.bin .add (.e (.bin .mul (.e (.idx (.s 0) (.cst (.int 1)))) (.e (.cst (.int 48271))))) (.e (.cst (.int 11))))) (.e (.cst (.int 2147483647)))),
    .ret (.d (.bin .mod (.e (.bin .fdiv (.e (.bin .mod (.e (.bin .mul (.e (.idx (.s 0) (.cst (.int 1)))) (.e (.idx (.s 0) (.cst (.int 1)))))) (.e (.cst (.int 2147483629))))) (.e (.cst (.int 64))))) (.s 1)))]
def bSum (dr : Nat) : List IS := [.own 2 (.ndic),
    .for (.nm 3) (.rng (.bin .mul (.u (.call dr [.r 0, .d (.cst (.int 3))])) (.e (.blt .int [.e (.cmp .ne (.s 1) (.u (.lst [])))])))) [.asg (.nm 4) (.idx (.s 1) (.frz (.call dr [.r 0, .d (.blt .len [.s 1])]))),
    .dsub 2 (.var 4) (.bin .add (.e (.dget 2 (.var 4) (.cst (.int 0)))) (.e (.idx (.u (.lst [.cst (.int 1), .neg (.cst (.int 1)), .cst (.int 2)])) (.frz (.call dr [.r 0, .d (.cst (.int 3))])))))],
    .asg (.nm 5) (.blt .tuple [.u (.comp (.tup [.didx (.s 2) (.var 4), .var 4]) (.nm 4) [4] (.v (.u (.srt (.s 2)))) (some (.cmp .ne (.e (.didx (.s 2) (.var 4))) (.e (.cst (.int 0))))))]),
    .ret (.d (.tup [.cst (.str [115, 117, 109]), .idx (.u (.lst [.cst (.int 0), .cst (.int 1), .neg (.cst (.int 2)), .cst (.int 5)])) (.frz (.call dr [.r 0, .d (.cst (.int 4))])), .var 5]))]
def bDeed (dr su : Nat) : List IS := [.asg (.nm 3) (.frz (.cat (.u (.cat (.s 1) (.s 1))) (.u (.slc (.u (.lst [.cst (.int 0), .cst (.int 1)])) none (some (.bin .add (.e (.cst (.int 1))) (.u (.call dr [.r 0, .d (.cst (.int 2))])))))))),
    .asg (.nm 4) (.tup [.idx (.u (.lst [.cst (.str [97]), .cst (.str [98])])) (.frz (.call dr [.r 0, .d (.cst (.int 2))])), .idx (.s 3) (.frz (.call dr [.r 0, .d (.blt .len [.s 3])]))]),
    .asg (.nm 5) (.idx (.u (.lst [.cst (.str [114, 101, 97, 100]), .cst (.str [114, 101, 97, 100]), .cst (.str [97, 100, 100]), .cst (.str [97, 100, 100]), .cst (.str [112, 117, 116]), .cst (.str [114, 97, 105, 115, 101]), .cst (.str [108, 111, 119, 101, 114])])) (.frz (.call dr [.r 0, .d (.cst (.int 7))]))),
    .ifs (.cmp .eq (.s 5) (.e (.cst (.str [114, 101, 97, 100])))) [.exp (.app 2 (.idx (.u (.lst [.cst (.str [120]), .cst (.str [121])])) (.frz (.call dr [.r 0, .d (.cst (.int 2))])))),
    .ret (.d (.tup [.cst (.str [114, 101, 97, 100]), .var 4, .idx (.s 2) (.neg (.cst (.int 1)))]))] [],
    .ret (.d (.tup [.var 5, .var 4, .frz (.call su [.r 0, .d (.frz (.cat (.s 1) (.s 2)))])]))]
section
variable {P : List FD} {dr : Nat}
/-- a pool -/
def pl (a b : Int) : U := .l [.d (.int a), .d (.int b)]
def POk (a b : Int) : Prop := 0 ≤ a ∧ 0 ≤ b ∧ b < 2147483647
def ZDraw (n : Int) (u : U) (os : List U) : Prop := ∃ k a' b', u = .d (.int k) ∧ os = [pl a' b'] ∧ 0 ≤ k ∧ k < n ∧ POk a' b'
theorem draw_ok (hD : nth P dr = some ⟨2, 3, bDraw⟩) {d : Nat} {a b n : Int} (hp : POk a b) (hn : 0 < n) (hn2 : n < 1000000000000000000) : ∃ u os, callF P 60 (d + 1) dr [.t (pl a b), .m (.d (.int n))] = .ok u os ∧ ZDraw n u os := by
  obtain ⟨ha, hb, hb2⟩ := hp
  refine run_any (Z := ZDraw n) (r0 := [.t (pl a b), .m (.d (.int n)), .no]) hD rfl rfl ?_
  show Sn ((lvl (callF P 60 d) 60).S bDraw _) _
  unfold bDraw pl
  repeat (first | with_reducible refine E_cst ?_ | with_reducible refine V_e ?_ | with_reducible refine V_u ?_ | with_reducible refine A_nil ?_ | with_reducible refine A_cons ?_ | with_reducible refine A_d ?_ | with_reducible refine A_u ?_ | with_reducible refine S_cons ?_ | with_reducible refine S_nil ?_ | with_reducible refine S_ret ?_ | with_reducible refine S_if ?_ | with_reducible refine S_asg ?_ | with_reducible refine S_own ?_ | with_reducible refine T_val ?_ | with_reducible refine T_not ?_ | with_reducible refine T_cmp ?_ | with_reducible refine T_or1 ?_ | with_reducible refine T_or ?_ | with_reducible refine T_and1 ?_ | with_reducible refine T_and ?_ | with_reducible refine T_chn ?_ | with_reducible refine E_idx ?_ | with_reducible refine E_tup ?_ | with_reducible refine E_bin ?_ | with_reducible refine E_cmp ?_ | with_reducible refine E_isi ?_ | with_reducible refine E_blt ?_ | with_reducible refine E_frz ?_ | with_reducible refine E_chn ?_ | with_reducible refine E_and1 ?_ | with_reducible refine E_and ?_ | with_reducible refine E_or1 ?_ | with_reducible refine E_or ?_ | with_reducible refine E_not ?_ | with_reducible refine E_neg ?_ | with_reducible refine E_ite ?_ | with_reducible refine E_didx ?_ | with_reducible refine U_d ?_ | with_reducible refine U_lst ?_ | with_reducible refine U_cat ?_ | with_reducible refine U_slc ?_ | with_reducible refine U_lof ?_ | with_reducible refine U_srt ?_ | with_reducible refine U_comp ?_ | with_reducible refine U_ndic ?_ | with_reducible refine U_dlt ?_ | with_reducible refine U_call ?_ | with_reducible refine O_none ?_ | with_reducible refine O_some ?_ | with_reducible refine I_v ?_ | with_reducible refine I_rng ?_ | with_reducible refine I_zip ?_ | with_reducible refine S_for ?_ | with_reducible refine S_lc ?_ | with_reducible refine S_par ?_ | with_reducible refine S_sub ?_ | with_reducible refine S_dsub ?_ | with_reducible refine S_exp ?_ | with_reducible refine S_rse ?_ | with_reducible refine S_try ?_ | with_reducible refine S_unX ?_ | with_reducible refine S_mat ?_ | with_reducible refine M_nil ?_ | ((with_reducible apply E_var); (first | rfl | decide)) | ((with_reducible apply V_s); (first | rfl | decide)) | ((with_reducible apply A_r); (first | rfl | decide)) | ((with_reducible apply U_mv); (first | rfl | decide)) | ((with_reducible apply E_dget); (first | rfl | decide)) | ((with_reducible apply E_app); (first | rfl | decide)) | ((with_reducible apply R_bin); (first | rfl | decide); (first | rfl | decide)) | ((with_reducible apply R_cmp); (first | rfl | decide); (first | rfl | decide); (first | rfl | decide)) | ((with_reducible apply R_idx); (first | rfl | decide); (first | rfl | decide)) | ((with_reducible apply R_isi); (first | rfl | decide); (first | rfl | decide)) | ((with_reducible apply R_blt); (first | rfl | decide); (first | rfl | decide)) | ((with_reducible apply R_didx); (first | rfl | decide); (first | rfl | decide); (first | rfl | decide)) | ((with_reducible apply R_cat); (first | rfl | decide); (first | rfl | decide); (first | rfl | decide); (first | rfl | decide)) | ((with_reducible apply R_slcU); (first | rfl | decide); (first | rfl | decide)) | ((with_reducible apply R_srt); (first | rfl | decide); (first | rfl | decide)) | ((with_reducible apply R_lof); (first | rfl | decide); (first | rfl | decide)) | ((with_reducible apply R_add)) | ((with_reducible apply R_subI)) | ((with_reducible apply R_sub); (first | rfl | decide); (first | rfl | decide); (first | rfl | decide); (first | rfl | decide)) | ((with_reducible apply R_dput); (first | rfl | decide); (first | rfl | decide); (first | rfl | decide); (first | rfl | decide)) | ((with_reducible apply R_dgt); (first | rfl | decide)) | ((with_reducible apply R_app); (first | rfl | decide); (first | rfl | decide); (first | rfl | decide)) | ((with_reducible apply R_wlk); (first | rfl | decide)) | ((with_reducible apply R_zip); (first | rfl | decide)) | ((with_reducible apply E_xfl); (first | rfl | decide)) | ((with_reducible apply E_xis); (first | rfl | decide); (first | rfl | decide)) | ((with_reducible apply M_yes); (first | rfl | decide)) | ((with_reducible apply M_no); (first | rfl | decide)) | ((with_reducible apply S_hnd); (first | rfl | decide); (first | rfl | decide); (first | rfl | decide)) | ((with_reducible apply X_1); rfl) | ((with_reducible apply X_2); rfl) | ((with_reducible apply X_3); rfl) | ((with_reducible refine R_mod ?_ ?_); omega) | ((with_reducible refine R_div ?_ ?_); omega) | ((with_reducible refine R_mul ?_ ?_); (first | (left; omega) | (right; omega))) | ((with_reducible apply R_pow); rfl) | ((with_reducible apply C_nil); rfl; rfl) | (with_reducible refine F_nil ?_) | ((with_reducible apply C_turn); rfl; rfl) | ((with_reducible apply F_cons); rfl) | with_reducible refine C_e ?_ | with_reducible refine C_t ?_)
  by_cases ha0 : 0 < a
  · refine iteY (decide_eq_true ha0) ?_
    repeat (first | ((with_reducible refine R_div ?_ ?_); exact ⟨hn, hn2⟩) | with_reducible refine E_cst ?_ | with_reducible refine V_e ?_ | with_reducible refine V_u ?_ | with_reducible refine A_nil ?_ | with_reducible refine A_cons ?_ | with_reducible refine A_d ?_ | with_reducible refine A_u ?_ | with_reducible refine S_cons ?_ | with_reducible refine S_nil ?_ | with_reducible refine S_ret ?_ | with_reducible refine S_if ?_ | with_reducible refine S_asg ?_ | with_reducible refine S_own ?_ | with_reducible refine T_val ?_ | with_reducible refine T_not ?_ | with_reducible refine T_cmp ?_ | with_reducible refine T_or1 ?_ | with_reducible refine T_or ?_ | with_reducible refine T_and1 ?_ | with_reducible refine T_and ?_ | with_reducible refine T_chn ?_ | with_reducible refine E_idx ?_ | with_reducible refine E_tup ?_ | with_reducible refine E_bin ?_ | with_reducible refine E_cmp ?_ | with_reducible refine E_isi ?_ | with_reducible refine E_blt ?_ | with_reducible refine E_frz ?_ | with_reducible refine E_chn ?_ | with_reducible refine E_and1 ?_ | with_reducible refine E_and ?_ | with_reducible refine E_or1 ?_ | with_reducible refine E_or ?_ | with_reducible refine E_not ?_ | with_reducible refine E_neg ?_ | with_reducible refine E_ite ?_ | with_reducible refine E_didx ?_ | with_reducible refine U_d ?_ | with_reducible refine U_lst ?_ | with_reducible refine U_cat ?_ | with_reducible refine U_slc ?_ | with_reducible refine U_lof ?_ | with_reducible refine U_srt ?_ | with_reducible refine U_comp ?_ | with_reducible refine U_ndic ?_ | with_reducible refine U_dlt ?_ | with_reducible refine U_call ?_ | with_reducible refine O_none ?_ | with_reducible refine O_some ?_ | with_reducible refine I_v ?_ | with_reducible refine I_rng ?_ | with_reducible refine I_zip ?_ | with_reducible refine S_for ?_ | with_reducible refine S_lc ?_ | with_reducible refine S_par ?_ | with_reducible refine S_sub ?_ | with_reducible refine S_dsub ?_ | with_reducible refine S_exp ?_ | with_reducible refine S_rse ?_ | with_reducible refine S_try ?_ | with_reducible refine S_unX ?_ | with_reducible refine S_mat ?_ | with_reducible refine M_nil ?_ | ((with_reducible apply E_var); (first | rfl | decide)) | ((with_reducible apply V_s); (first | rfl | decide)) | ((with_reducible apply A_r); (first | rfl | decide)) | ((with_reducible apply U_mv); (first | rfl | decide)) | ((with_reducible apply E_dget); (first | rfl | decide)) | ((with_reducible apply E_app); (first | rfl | decide)) | ((with_reducible apply R_bin); (first | rfl | decide); (first | rfl | decide)) | ((with_reducible apply R_cmp); (first | rfl | decide); (first | rfl | decide); (first | rfl | decide)) | ((with_reducible apply R_idx); (first | rfl | decide); (first | rfl | decide)) | ((with_reducible apply R_isi); (first | rfl | decide); (first | rfl | decide)) | ((with_reducible apply R_blt); (first | rfl | decide); (first | rfl | decide)) | ((with_reducible apply R_didx); (first | rfl | decide); (first | rfl | decide); (first | rfl | decide)) | ((with_reducible apply R_cat); (first | rfl | decide); (first | rfl | decide); (first | rfl | decide); (first | rfl | decide)) | ((with_reducible apply R_slcU); (first | rfl | decide); (first | rfl | decide)) | ((with_reducible apply R_srt); (first | rfl | decide); (first | rfl | decide)) | ((with_reducible apply R_lof); (first | rfl | decide); (first | rfl | decide)) | ((with_reducible apply R_add)) | ((with_reducible apply R_subI)) | ((with_reducible apply R_sub); (first | rfl | decide); (first | rfl | decide); (first | rfl | decide); (first | rfl | decide)) | ((with_reducible apply R_dput); (first | rfl | decide); (first | rfl | decide); (first | rfl | decide); (first | rfl | decide)) | ((with_reducible apply R_dgt); (first | rfl | decide)) | ((with_reducible apply R_app); (first | rfl | decide); (first | rfl | decide); (first | rfl | decide)) | ((with_reducible apply R_wlk); (first | rfl | decide)) | ((with_reducible apply R_zip); (first | rfl | decide)) | ((with_reducible apply E_xfl); (first | rfl | decide)) | ((with_reducible apply E_xis); (first | rfl | decide); (first | rfl | decide)) | ((with_reducible apply M_yes); (first | rfl | decide)) | ((with_reducible apply M_no); (first | rfl | decide)) | ((with_reducible apply S_hnd); (first | rfl | decide); (first | rfl | decide); (first | rfl | decide)) | ((with_reducible apply X_1); rfl) | ((with_reducible apply X_2); rfl) | ((with_reducible apply X_3); rfl) | ((with_reducible refine R_mod ?_ ?_); omega) | ((with_reducible refine R_div ?_ ?_); omega) | ((with_reducible refine R_mul ?_ ?_); (first | (left; omega) | (right; omega))) | ((with_reducible apply R_pow); rfl) | ((with_reducible apply C_nil); rfl; rfl) | (with_reducible refine F_nil ?_) | ((with_reducible apply C_turn); rfl; rfl) | ((with_reducible apply F_cons); rfl) | with_reducible refine C_e ?_ | with_reducible refine C_t ?_)
    exact ⟨_, _, _, rfl, rfl, Int.emod_nonneg _ (by omega), Int.emod_lt_of_pos _ hn, Int.ediv_nonneg ha (by omega), hb, hb2⟩
  · refine iteN (fun h => ha0 (of_decide_eq_true h)) ?_
    have hn0 : (b * 48271 + 11) % 2147483647 < 2147483647 := Int.emod_lt_of_pos _ (by decide)
    have hn1 : 0 ≤ (b * 48271 + 11) % 2147483647 := Int.emod_nonneg _ (by decide)
    repeat (first | with_reducible refine E_cst ?_ | with_reducible refine V_e ?_ | with_reducible refine V_u ?_ | with_reducible refine A_nil ?_ | with_reducible refine A_cons ?_ | with_reducible refine A_d ?_ | with_reducible refine A_u ?_ | with_reducible refine S_cons ?_ | with_reducible refine S_nil ?_ | with_reducible refine S_ret ?_ | with_reducible refine S_if ?_ | with_reducible refine S_asg ?_ | with_reducible refine S_own ?_ | with_reducible refine T_val ?_ | with_reducible refine T_not ?_ | with_reducible refine T_cmp ?_ | with_reducible refine T_or1 ?_ | with_reducible refine T_or ?_ | with_reducible refine T_and1 ?_ | with_reducible refine T_and ?_ | with_reducible refine T_chn ?_ | with_reducible refine E_idx ?_ | with_reducible refine E_tup ?_ | with_reducible refine E_bin ?_ | with_reducible refine E_cmp ?_ | with_reducible refine E_isi ?_ | with_reducible refine E_blt ?_ | with_reducible refine E_frz ?_ | with_reducible refine E_chn ?_ | with_reducible refine E_and1 ?_ | with_reducible refine E_and ?_ | with_reducible refine E_or1 ?_ | with_reducible refine E_or ?_ | with_reducible refine E_not ?_ | with_reducible refine E_neg ?_ | with_reducible refine E_ite ?_ | with_reducible refine E_didx ?_ | with_reducible refine U_d ?_ | with_reducible refine U_lst ?_ | with_reducible refine U_cat ?_ | with_reducible refine U_slc ?_ | with_reducible refine U_lof ?_ | with_reducible refine U_srt ?_ | with_reducible refine U_comp ?_ | with_reducible refine U_ndic ?_ | with_reducible refine U_dlt ?_ | with_reducible refine U_call ?_ | with_reducible refine O_none ?_ | with_reducible refine O_some ?_ | with_reducible refine I_v ?_ | with_reducible refine I_rng ?_ | with_reducible refine I_zip ?_ | with_reducible refine S_for ?_ | with_reducible refine S_lc ?_ | with_reducible refine S_par ?_ | with_reducible refine S_sub ?_ | with_reducible refine S_dsub ?_ | with_reducible refine S_exp ?_ | with_reducible refine S_rse ?_ | with_reducible refine S_try ?_ | with_reducible refine S_unX ?_ | with_reducible refine S_mat ?_ | with_reducible refine M_nil ?_ | ((with_reducible apply E_var); (first | rfl | decide)) | ((with_reducible apply V_s); (first | rfl | decide)) | ((with_reducible apply A_r); (first | rfl | decide)) | ((with_reducible apply U_mv); (first | rfl | decide)) | ((with_reducible apply E_dget); (first | rfl | decide)) | ((with_reducible apply E_app); (first | rfl | decide)) | ((with_reducible apply R_bin); (first | rfl | decide); (first | rfl | decide)) | ((with_reducible apply R_cmp); (first | rfl | decide); (first | rfl | decide); (first | rfl | decide)) | ((with_reducible apply R_idx); (first | rfl | decide); (first | rfl | decide)) | ((with_reducible apply R_isi); (first | rfl | decide); (first | rfl | decide)) | ((with_reducible apply R_blt); (first | rfl | decide); (first | rfl | decide)) | ((with_reducible apply R_didx); (first | rfl | decide); (first | rfl | decide); (first | rfl | decide)) | ((with_reducible apply R_cat); (first | rfl | decide); (first | rfl | decide); (first | rfl | decide); (first | rfl | decide)) | ((with_reducible apply R_slcU); (first | rfl | decide); (first | rfl | decide)) | ((with_reducible apply R_srt); (first | rfl | decide); (first | rfl | decide)) | ((with_reducible apply R_lof); (first | rfl | decide); (first | rfl | decide)) | ((with_reducible apply R_add)) | ((with_reducible apply R_subI)) | ((with_reducible apply R_sub); (first | rfl | decide); (first | rfl | decide); (first | rfl | decide); (first | rfl | decide)) | ((with_reducible apply R_dput); (first | rfl | decide); (first | rfl | decide); (first | rfl | decide); (first | rfl | decide)) | ((with_reducible apply R_dgt); (first | rfl | decide)) | ((with_reducible apply R_app); (first | rfl | decide); (first | rfl | decide); (first | rfl | decide)) | ((with_reducible apply R_wlk); (first | rfl | decide)) | ((with_reducible apply R_zip); (first | rfl | decide)) | ((with_reducible apply E_xfl); (first | rfl | decide)) | ((with_reducible apply E_xis); (first | rfl | decide); (first | rfl | decide)) | ((with_reducible apply M_yes); (first | rfl | decide)) | ((with_reducible apply M_no); (first | rfl | decide)) | ((with_reducible apply S_hnd); (first | rfl | decide); (first | rfl | decide); (first | rfl | decide)) | ((with_reducible apply X_1); rfl) | ((with_reducible apply X_2); rfl) | ((with_reducible apply X_3); rfl) | ((with_reducible refine R_mod ?_ ?_); omega) | ((with_reducible refine R_div ?_ ?_); omega) | ((with_reducible refine R_mul ?_ ?_); (first | (left; omega) | (right; omega))) | ((with_reducible apply R_pow); rfl) | ((with_reducible apply C_nil); rfl; rfl) | (with_reducible refine F_nil ?_) | ((with_reducible apply C_turn); rfl; rfl) | ((with_reducible apply F_cons); rfl) | with_reducible refine C_e ?_ | with_reducible refine C_t ?_)
    exact ⟨_, _, _, rfl, rfl, Int.emod_nonneg _ (by omega), Int.emod_lt_of_pos _ hn, ha, hn1, hn0⟩
/-- a draw within a run -/
theorem R_draw (hD : nth P dr = some ⟨2, 3, bDraw⟩) {d i : Nat} {a b n : Int} {r : Env} {r' : Int → Int → Env} {Q : U → Env → Prop} {X : Xn → Env → Prop} (hl : lookU r i = some (pl a b)) (hp : POk a b) (hn : 0 < n) (hn2 : n < 1000000000000000000) (hr : ∀ a' b', putV r i (pl a' b') = some (r' a' b'))
    (q : ∀ k a' b', 0 ≤ k → k < n → POk a' b' → Q (.d (.int k)) (r' a' b')) : Rn (runC (callF P 60 (d + 1)) dr [.r i, .d (.int n)] r) Q X := by
  obtain ⟨u, os, h, k, a', b', rfl, rfl, h1, h2, h3⟩ := draw_ok hD (d := d) hp hn hn2
  refine R_call (es := [.t (pl a b), .m (.d (.int n))]) (is := [i]) ?_ h (r1 := r' a' b') ?_ (q k a' b' h1 h2 h3)
  · show ((lookU r i).bind fun u => (args r [.d (.int n)]).bind fun q => if q.2.any (Nat.beq i) then none else some (.t u :: q.1, i :: q.2)) = _
    rw [hl]
    rfl
  · show ((putV r i (pl a' b')).bind fun r1 => puts r1 [] []) = _
    rw [hr]
    rfl
theorem nth_map {ns : List Int} {k : Int} (h0 : 0 ≤ k) (h1 : k < ns.length) : ∃ i, idxW (.scr (ns.map W.int)) (.int k) = some (.int i) := by
  obtain ⟨j, rfl⟩ := Int.eq_ofNat_of_zero_le h0
  have hj : j < ns.length := by omega
  have e1 : ix (ns.map W.int).length (j : Int) = some j := by
    show (if Nat.blt j (ns.map W.int).length then some j else none) = _
    rw [List.length_map, Nat.blt_eq.mpr hj]; rfl
  have : ∀ (l : List Int) (j : Nat), j < l.length → ∃ i, nth (l.map W.int) j = some (.int i) := by
    intro l
    induction l with
    | nil => intro j hj; exact absurd hj (Nat.not_lt_zero _)
    | cons a l ih =>
      intro j hj
      cases j with
      | zero => exact ⟨a, rfl⟩
      | succ j => exact ih j (Nat.lt_of_succ_lt_succ hj)
  obtain ⟨i, hi⟩ := this ns j hj
  refine ⟨i, ?_⟩
  show ((ix (ns.map W.int).length (j : Int)).bind fun j => nth (ns.map W.int) j) = _
  rw [e1]
  exact hi
theorem ite_small (b : Bool) : (if b = true then (1 : Int) else 0).natAbs < 18446744073709551616 := by cases b <;> decide
theorem pool_end {i k : Int} {b : Bool} : POk ((if i < 0 then -i else i) * (if b = true then 1 else 0)) (((if i < 0 then -i else i) % 2147483629 + 7919 * k + 31) * 48271 % 2147483647) := by
  refine ⟨Int.mul_nonneg (by split <;> omega) (by cases b <;> decide), Int.emod_nonneg _ (by decide), Int.emod_lt_of_pos _ (by decide)⟩
def ZPool (u : U) (os : List U) : Prop := ∃ a b, u = pl a b ∧ os = [] ∧ POk a b
theorem pool_ok (hP : nth P dr = some ⟨2, 5, bPool⟩) {d : Nat} {ns : List Int} {k : Int} (h0 : 0 ≤ k) (h1 : k < 100) : ∃ u os, callF P 60 (d + 1) dr [.m (.d (.scr (ns.map W.int))), .m (.d (.int k))] = .ok u os ∧ ZPool u os := by
  refine run_any (Z := ZPool) (r0 := [.m (.d (.scr (ns.map W.int))), .m (.d (.int k)), .no, .no, .no]) hP rfl rfl ?_
  show Sn ((lvl (callF P 60 d) 60).S bPool _) _
  unfold bPool
  repeat (first | with_reducible refine E_cst ?_ | with_reducible refine V_e ?_ | with_reducible refine V_u ?_ | with_reducible refine A_nil ?_ | with_reducible refine A_cons ?_ | with_reducible refine A_d ?_ | with_reducible refine A_u ?_ | with_reducible refine S_cons ?_ | with_reducible refine S_nil ?_ | with_reducible refine S_ret ?_ | with_reducible refine S_if ?_ | with_reducible refine S_asg ?_ | with_reducible refine S_own ?_ | with_reducible refine T_val ?_ | with_reducible refine T_not ?_ | with_reducible refine T_cmp ?_ | with_reducible refine T_or1 ?_ | with_reducible refine T_or ?_ | with_reducible refine T_and1 ?_ | with_reducible refine T_and ?_ | with_reducible refine T_chn ?_ | with_reducible refine E_idx ?_ | with_reducible refine E_tup ?_ | with_reducible refine E_bin ?_ | with_reducible refine E_cmp ?_ | with_reducible refine E_isi ?_ | with_reducible refine E_blt ?_ | with_reducible refine E_frz ?_ | with_reducible refine E_chn ?_ | with_reducible refine E_and1 ?_ | with_reducible refine E_and ?_ | with_reducible refine E_or1 ?_ | with_reducible refine E_or ?_ | with_reducible refine E_not ?_ | with_reducible refine E_neg ?_ | with_reducible refine E_ite ?_ | with_reducible refine E_didx ?_ | with_reducible refine U_d ?_ | with_reducible refine U_lst ?_ | with_reducible refine U_cat ?_ | with_reducible refine U_slc ?_ | with_reducible refine U_lof ?_ | with_reducible refine U_srt ?_ | with_reducible refine U_comp ?_ | with_reducible refine U_ndic ?_ | with_reducible refine U_dlt ?_ | with_reducible refine U_call ?_ | with_reducible refine O_none ?_ | with_reducible refine O_some ?_ | with_reducible refine I_v ?_ | with_reducible refine I_rng ?_ | with_reducible refine I_zip ?_ | with_reducible refine S_for ?_ | with_reducible refine S_lc ?_ | with_reducible refine S_par ?_ | with_reducible refine S_sub ?_ | with_reducible refine S_dsub ?_ | with_reducible refine S_exp ?_ | with_reducible refine S_rse ?_ | with_reducible refine S_try ?_ | with_reducible refine S_unX ?_ | with_reducible refine S_mat ?_ | with_reducible refine M_nil ?_ | ((with_reducible apply E_var); (first | rfl | decide)) | ((with_reducible apply V_s); (first | rfl | decide)) | ((with_reducible apply A_r); (first | rfl | decide)) | ((with_reducible apply U_mv); (first | rfl | decide)) | ((with_reducible apply E_dget); (first | rfl | decide)) | ((with_reducible apply E_app); (first | rfl | decide)) | ((with_reducible apply R_bin); (first | rfl | decide); (first | rfl | decide)) | ((with_reducible apply R_cmp); (first | rfl | decide); (first | rfl | decide); (first | rfl | decide)) | ((with_reducible apply R_idx); (first | rfl | decide); (first | rfl | decide)) | ((with_reducible apply R_isi); (first | rfl | decide); (first | rfl | decide)) | ((with_reducible apply R_blt); (first | rfl | decide); (first | rfl | decide)) | ((with_reducible apply R_didx); (first | rfl | decide); (first | rfl | decide); (first | rfl | decide)) | ((with_reducible apply R_cat); (first | rfl | decide); (first | rfl | decide); (first | rfl | decide); (first | rfl | decide)) | ((with_reducible apply R_slcU); (first | rfl | decide); (first | rfl | decide)) | ((with_reducible apply R_srt); (first | rfl | decide); (first | rfl | decide)) | ((with_reducible apply R_lof); (first | rfl | decide); (first | rfl | decide)) | ((with_reducible apply R_add)) | ((with_reducible apply R_subI)) | ((with_reducible apply R_sub); (first | rfl | decide); (first | rfl | decide); (first | rfl | decide); (first | rfl | decide)) | ((with_reducible apply R_dput); (first | rfl | decide); (first | rfl | decide); (first | rfl | decide); (first | rfl | decide)) | ((with_reducible apply R_dgt); (first | rfl | decide)) | ((with_reducible apply R_app); (first | rfl | decide); (first | rfl | decide); (first | rfl | decide)) | ((with_reducible apply R_wlk); (first | rfl | decide)) | ((with_reducible apply R_zip); (first | rfl | decide)) | ((with_reducible apply E_xfl); (first | rfl | decide)) | ((with_reducible apply E_xis); (first | rfl | decide); (first | rfl | decide)) | ((with_reducible apply M_yes); (first | rfl | decide)) | ((with_reducible apply M_no); (first | rfl | decide)) | ((with_reducible apply S_hnd); (first | rfl | decide); (first | rfl | decide); (first | rfl | decide)) | ((with_reducible apply X_1); rfl) | ((with_reducible apply X_2); rfl) | ((with_reducible apply X_3); rfl) | ((with_reducible refine R_mod ?_ ?_); omega) | ((with_reducible refine R_div ?_ ?_); omega) | ((with_reducible refine R_mul ?_ ?_); (first | (left; omega) | (right; omega))) | ((with_reducible apply R_pow); rfl) | ((with_reducible apply C_nil); rfl; rfl) | (with_reducible refine F_nil ?_) | ((with_reducible apply C_turn); rfl; rfl) | ((with_reducible apply F_cons); rfl) | with_reducible refine C_e ?_ | with_reducible refine C_t ?_)
  by_cases hk : k < ns.length
  · obtain ⟨i, hi⟩ := nth_map h0 hk
    refine iteY (decide_eq_true (by rw [List.length_map]; exact hk)) ?_
    repeat (first | ((with_reducible apply R_idx); rfl; exact hi) | ((with_reducible refine R_mul ?_ ?_); exact .inr (ite_small _)) | with_reducible refine E_cst ?_ | with_reducible refine V_e ?_ | with_reducible refine V_u ?_ | with_reducible refine A_nil ?_ | with_reducible refine A_cons ?_ | with_reducible refine A_d ?_ | with_reducible refine A_u ?_ | with_reducible refine S_cons ?_ | with_reducible refine S_nil ?_ | with_reducible refine S_ret ?_ | with_reducible refine S_if ?_ | with_reducible refine S_asg ?_ | with_reducible refine S_own ?_ | with_reducible refine T_val ?_ | with_reducible refine T_not ?_ | with_reducible refine T_cmp ?_ | with_reducible refine T_or1 ?_ | with_reducible refine T_or ?_ | with_reducible refine T_and1 ?_ | with_reducible refine T_and ?_ | with_reducible refine T_chn ?_ | with_reducible refine E_idx ?_ | with_reducible refine E_tup ?_ | with_reducible refine E_bin ?_ | with_reducible refine E_cmp ?_ | with_reducible refine E_isi ?_ | with_reducible refine E_blt ?_ | with_reducible refine E_frz ?_ | with_reducible refine E_chn ?_ | with_reducible refine E_and1 ?_ | with_reducible refine E_and ?_ | with_reducible refine E_or1 ?_ | with_reducible refine E_or ?_ | with_reducible refine E_not ?_ | with_reducible refine E_neg ?_ | with_reducible refine E_ite ?_ | with_reducible refine E_didx ?_ | with_reducible refine U_d ?_ | with_reducible refine U_lst ?_ | with_reducible refine U_cat ?_ | with_reducible refine U_slc ?_ | with_reducible refine U_lof ?_ | with_reducible refine U_srt ?_ | with_reducible refine U_comp ?_ | with_reducible refine U_ndic ?_ | with_reducible refine U_dlt ?_ | with_reducible refine U_call ?_ | with_reducible refine O_none ?_ | with_reducible refine O_some ?_ | with_reducible refine I_v ?_ | with_reducible refine I_rng ?_ | with_reducible refine I_zip ?_ | with_reducible refine S_for ?_ | with_reducible refine S_lc ?_ | with_reducible refine S_par ?_ | with_reducible refine S_sub ?_ | with_reducible refine S_dsub ?_ | with_reducible refine S_exp ?_ | with_reducible refine S_rse ?_ | with_reducible refine S_try ?_ | with_reducible refine S_unX ?_ | with_reducible refine S_mat ?_ | with_reducible refine M_nil ?_ | ((with_reducible apply E_var); (first | rfl | decide)) | ((with_reducible apply V_s); (first | rfl | decide)) | ((with_reducible apply A_r); (first | rfl | decide)) | ((with_reducible apply U_mv); (first | rfl | decide)) | ((with_reducible apply E_dget); (first | rfl | decide)) | ((with_reducible apply E_app); (first | rfl | decide)) | ((with_reducible apply R_bin); (first | rfl | decide); (first | rfl | decide)) | ((with_reducible apply R_cmp); (first | rfl | decide); (first | rfl | decide); (first | rfl | decide)) | ((with_reducible apply R_idx); (first | rfl | decide); (first | rfl | decide)) | ((with_reducible apply R_isi); (first | rfl | decide); (first | rfl | decide)) | ((with_reducible apply R_blt); (first | rfl | decide); (first | rfl | decide)) | ((with_reducible apply R_didx); (first | rfl | decide); (first | rfl | decide); (first | rfl | decide)) | ((with_reducible apply R_cat); (first | rfl | decide); (first | rfl | decide); (first | rfl | decide); (first | rfl | decide)) | ((with_reducible apply R_slcU); (first | rfl | decide); (first | rfl | decide)) | ((with_reducible apply R_srt); (first | rfl | decide); (first | rfl | decide)) | ((with_reducible apply R_lof); (first | rfl | decide); (first | rfl | decide)) | ((with_reducible apply R_add)) | ((with_reducible apply R_subI)) | ((with_reducible apply R_sub); (first | rfl | decide); (first | rfl | decide); (first | rfl | decide); (first | rfl | decide)) | ((with_reducible apply R_dput); (first | rfl | decide); (first | rfl | decide); (first | rfl | decide); (first | rfl | decide)) | ((with_reducible apply R_dgt); (first | rfl | decide)) | ((with_reducible apply R_app); (first | rfl | decide); (first | rfl | decide); (first | rfl | decide)) | ((with_reducible apply R_wlk); (first | rfl | decide)) | ((with_reducible apply R_zip); (first | rfl | decide)) | ((with_reducible apply E_xfl); (first | rfl | decide)) | ((with_reducible apply E_xis); (first | rfl | decide); (first | rfl | decide)) | ((with_reducible apply M_yes); (first | rfl | decide)) | ((with_reducible apply M_no); (first | rfl | decide)) | ((with_reducible apply S_hnd); (first | rfl | decide); (first | rfl | decide); (first | rfl | decide)) | ((with_reducible apply iteY); (first | rfl | decide)) | ((with_reducible apply iteF); (first | rfl | decide)) | ((with_reducible apply iteN); (first | rfl | decide)) | ((with_reducible apply X_1); rfl) | ((with_reducible apply X_2); rfl) | ((with_reducible apply X_3); rfl) | ((with_reducible refine R_mod ?_ ?_); omega) | ((with_reducible refine R_div ?_ ?_); omega) | ((with_reducible refine R_mul ?_ ?_); (first | (left; omega) | (right; omega))) | ((with_reducible apply R_pow); rfl) | ((with_reducible apply C_nil); rfl; rfl) | (with_reducible refine F_nil ?_) | ((with_reducible apply C_turn); rfl; rfl) | ((with_reducible apply F_cons); rfl) | with_reducible refine C_e ?_ | with_reducible refine C_t ?_)
    exact ⟨_, _, rfl, rfl, pool_end⟩
  · refine iteN (fun h => hk (by have := of_decide_eq_true h; rw [List.length_map] at this; exact this)) ?_
    repeat (first | ((with_reducible refine R_mul ?_ ?_); exact .inr (ite_small _)) | with_reducible refine E_cst ?_ | with_reducible refine V_e ?_ | with_reducible refine V_u ?_ | with_reducible refine A_nil ?_ | with_reducible refine A_cons ?_ | with_reducible refine A_d ?_ | with_reducible refine A_u ?_ | with_reducible refine S_cons ?_ | with_reducible refine S_nil ?_ | with_reducible refine S_ret ?_ | with_reducible refine S_if ?_ | with_reducible refine S_asg ?_ | with_reducible refine S_own ?_ | with_reducible refine T_val ?_ | with_reducible refine T_not ?_ | with_reducible refine T_cmp ?_ | with_reducible refine T_or1 ?_ | with_reducible refine T_or ?_ | with_reducible refine T_and1 ?_ | with_reducible refine T_and ?_ | with_reducible refine T_chn ?_ | with_reducible refine E_idx ?_ | with_reducible refine E_tup ?_ | with_reducible refine E_bin ?_ | with_reducible refine E_cmp ?_ | with_reducible refine E_isi ?_ | with_reducible refine E_blt ?_ | with_reducible refine E_frz ?_ | with_reducible refine E_chn ?_ | with_reducible refine E_and1 ?_ | with_reducible refine E_and ?_ | with_reducible refine E_or1 ?_ | with_reducible refine E_or ?_ | with_reducible refine E_not ?_ | with_reducible refine E_neg ?_ | with_reducible refine E_ite ?_ | with_reducible refine E_didx ?_ | with_reducible refine U_d ?_ | with_reducible refine U_lst ?_ | with_reducible refine U_cat ?_ | with_reducible refine U_slc ?_ | with_reducible refine U_lof ?_ | with_reducible refine U_srt ?_ | with_reducible refine U_comp ?_ | with_reducible refine U_ndic ?_ | with_reducible refine U_dlt ?_ | with_reducible refine U_call ?_ | with_reducible refine O_none ?_ | with_reducible refine O_some ?_ | with_reducible refine I_v ?_ | with_reducible refine I_rng ?_ | with_reducible refine I_zip ?_ | with_reducible refine S_for ?_ | with_reducible refine S_lc ?_ | with_reducible refine S_par ?_ | with_reducible refine S_sub ?_ | with_reducible refine S_dsub ?_ | with_reducible refine S_exp ?_ | with_reducible refine S_rse ?_ | with_reducible refine S_try ?_ | with_reducible refine S_unX ?_ | with_reducible refine S_mat ?_ | with_reducible refine M_nil ?_ | ((with_reducible apply E_var); (first | rfl | decide)) | ((with_reducible apply V_s); (first | rfl | decide)) | ((with_reducible apply A_r); (first | rfl | decide)) | ((with_reducible apply U_mv); (first | rfl | decide)) | ((with_reducible apply E_dget); (first | rfl | decide)) | ((with_reducible apply E_app); (first | rfl | decide)) | ((with_reducible apply R_bin); (first | rfl | decide); (first | rfl | decide)) | ((with_reducible apply R_cmp); (first | rfl | decide); (first | rfl | decide); (first | rfl | decide)) | ((with_reducible apply R_idx); (first | rfl | decide); (first | rfl | decide)) | ((with_reducible apply R_isi); (first | rfl | decide); (first | rfl | decide)) | ((with_reducible apply R_blt); (first | rfl | decide); (first | rfl | decide)) | ((with_reducible apply R_didx); (first | rfl | decide); (first | rfl | decide); (first | rfl | decide)) | ((with_reducible apply R_cat); (first | rfl | decide); (first | rfl | decide); (first | rfl | decide); (first | rfl | decide)) | ((with_reducible apply R_slcU); (first | rfl | decide); (first | rfl | decide)) | ((with_reducible apply R_srt); (first | rfl | decide); (first | rfl | decide)) | ((with_reducible apply R_lof); (first | rfl | decide); (first | rfl | decide)) | ((with_reducible apply R_add)) | ((with_reducible apply R_subI)) | ((with_reducible apply R_sub); (first | rfl | decide); (first | rfl | decide); (first | rfl | decide); (first | rfl | decide)) | ((with_reducible apply R_dput); (first | rfl | decide); (first | rfl | decide); (first | rfl | decide); (first | rfl | decide)) | ((with_reducible apply R_dgt); (first | rfl | decide)) | ((with_reducible apply R_app); (first | rfl | decide); (first | rfl | decide); (first | rfl | decide)) | ((with_reducible apply R_wlk); (first | rfl | decide)) | ((with_reducible apply R_zip); (first | rfl | decide)) | ((with_reducible apply E_xfl); (first | rfl | decide)) | ((with_reducible apply E_xis); (first | rfl | decide); (first | rfl | decide)) | ((with_reducible apply M_yes); (first | rfl | decide)) | ((with_reducible apply M_no); (first | rfl | decide)) | ((with_reducible apply S_hnd); (first | rfl | decide); (first | rfl | decide); (first | rfl | decide)) | ((with_reducible apply iteY); (first | rfl | decide)) | ((with_reducible apply iteF); (first | rfl | decide)) | ((with_reducible apply iteN); (first | rfl | decide)) | ((with_reducible apply X_1); rfl) | ((with_reducible apply X_2); rfl) | ((with_reducible apply X_3); rfl) | ((with_reducible refine R_mod ?_ ?_); omega) | ((with_reducible refine R_div ?_ ?_); omega) | ((with_reducible refine R_mul ?_ ?_); (first | (left; omega) | (right; omega))) | ((with_reducible apply R_pow); rfl) | ((with_reducible apply C_nil); rfl; rfl) | (with_reducible refine F_nil ?_) | ((with_reducible apply C_turn); rfl; rfl) | ((with_reducible apply F_cons); rfl) | with_reducible refine C_e ?_ | with_reducible refine C_t ?_)
    exact ⟨_, _, rfl, rfl, pool_end⟩
end
end FL


set_option linter.all false
set_option maxRecDepth 100000
namespace K04
open FM FL
def N : Nums := { is_integer := 0, is_short := 1, is_name := 2, is_sum := 3, is_place := 4, is_deed := 5, are_chosen := 6, is_step := 7, rows_of := 8, names_behind := 9, are_steps := 10, are_parameters := 11, is_pair := 12, are_unlike := 13, Kind___init__ := 14, Kind_unlike := 15, Kind_deeds := 16, Kind___len__ := 17, _law_pool := 18, _law_draw := 19, _law_odd_steps := 20, _law_odd := 21, _law_error_2 := 22, _law_greatest_right := 23, law_K04 := 24 }
def PF : List FD := [fd_is_integer N, fd_is_short N, fd_is_name N, fd_is_sum N, fd_is_place N, fd_is_deed N, fd_are_chosen N, fd_is_step N, fd_rows_of N, fd_names_behind N, fd_are_steps N, fd_are_parameters N, fd_is_pair N, fd_are_unlike N, fd_Kind___init__ N, fd_Kind_unlike N, fd_Kind_deeds N, fd_Kind___len__ N, fd__law_pool N, fd__law_draw N, fd__law_odd_steps N, fd__law_odd N, fd__law_error_2 N, fd__law_greatest_right N, fd_law_K04 N]
end K04


set_option linter.all false
set_option maxRecDepth 100000
set_option maxHeartbeats 4000000
namespace K04
open FM FL
def mapB {α β : Type} (f : α → β) : List α → List β
  | [] => []
  | a :: l => f a :: mapB f l
theorem mapB_pt {α β : Type} {f g : α → β} : ∀ {l : List α}, l.map f = mapB g l → ∀ a ∈ l, f a = g a
  | [], _, a, h => by cases h
  | b :: l, e, a, h => by
    simp only [List.map_cons, mapB, List.cons.injEq] at e
    rcases List.mem_cons.mp h with rfl | h
    · exact e.1
    · exact mapB_pt e.2 a h
abbrev p : W := .str [112]
abbrev q : W := .str [113]
abbrev g0 : W := .str [112, 97, 121]
abbrev g1 : W := .tup [p, q]
abbrev g2 : W := .tup [.tup [.str [114, 101, 97, 100], .tup [.str [97], p], .str [120]], .tup [.str [97, 100, 100], .tup [.str [98], q], .tup [.str [115, 117, 109], .int 0, .tup [.tup [.int 1, .str [120]]]]]]
abbrev g3 : W := .tup [.tup [p, q]]
abbrev g4 : W := .bl false
abbrev g5 : W := .bl true
abbrev good : W := .lis [g0, g1, g2, g3, g4, g5]
abbrev m0 : W := .str [110, 97, 109, 101]
abbrev m1 : W := .str [112, 97, 114, 97, 109, 101, 116, 101, 114, 115]
abbrev m2 : W := .str [115, 116, 101, 112, 115]
abbrev m3 : W := .str [117, 110, 108, 105, 107, 101]
abbrev m4 : W := .str [98, 97, 99, 107, 115]
abbrev m5 : W := .str [97, 108, 111, 110, 101]
abbrev nms : W := .lis [m0, m1, m2, m3, m4, m5]
def oddW (k : Int) : List W := match callF PF 60 3 21 [.m (.d (.int k))] with
  | .ok (.l us) _ => us.map fz
  | _ => []
abbrev said (m : W) : U := .l [.d m, .d (.bl true)]
section
variable {d : Nat}
theorem good_y : callF PF 60 (d + 9) 22 [.m (.d good)] = .ok (.d .non) [] := by kernel_rfl
theorem great_y {a b : Int} : callF PF 60 (d + 9) 23 [.t (pl a b)] = .ok (.d (.bl true)) [pl a b] := by kernel_rfl
theorem odd0 : callF PF 60 (d + 3) 21 [.m (.d (.int 0))] = .ok (.l ((oddW 0).map U.d)) [] := by kernel_rfl
theorem odd1 : callF PF 60 (d + 3) 21 [.m (.d (.int 1))] = .ok (.l ((oddW 1).map U.d)) [] := by kernel_rfl
theorem odd2 : callF PF 60 (d + 3) 21 [.m (.d (.int 2))] = .ok (.l ((oddW 2).map U.d)) [] := by kernel_rfl
theorem odd3 : callF PF 60 (d + 3) 21 [.m (.d (.int 3))] = .ok (.l ((oddW 3).map U.d)) [] := by kernel_rfl
theorem odd4 : callF PF 60 (d + 3) 21 [.m (.d (.int 4))] = .ok (.l ((oddW 4).map U.d)) [] := by kernel_rfl
theorem odd5 : callF PF 60 (d + 3) 21 [.m (.d (.int 5))] = .ok (.l ((oddW 5).map U.d)) [] := by kernel_rfl
theorem err0 {w1 w2 w3 w4 w5 : W} : ∀ o ∈ oddW 0, callF PF 60 (d + 9) 22 [.t (.l [.d o, .d w1, .d w2, .d w3, .d w4, .d w5])] = .ok (said m0) [.l [.d o, .d w1, .d w2, .d w3, .d w4, .d w5]] := mapB_pt (f := fun o => callF PF 60 (d + 9) 22 [.t (.l [.d o, .d w1, .d w2, .d w3, .d w4, .d w5])]) (g := fun o => .ok (said m0) [.l [.d o, .d w1, .d w2, .d w3, .d w4, .d w5]]) (by kernel_rfl)
theorem err1 {w2 w3 w4 w5 : W} : ∀ o ∈ oddW 1, callF PF 60 (d + 9) 22 [.t (.l [.d g0, .d o, .d w2, .d w3, .d w4, .d w5])] = .ok (said m1) [.l [.d g0, .d o, .d w2, .d w3, .d w4, .d w5]] := mapB_pt (f := fun o => callF PF 60 (d + 9) 22 [.t (.l [.d g0, .d o, .d w2, .d w3, .d w4, .d w5])]) (g := fun o => .ok (said m1) [.l [.d g0, .d o, .d w2, .d w3, .d w4, .d w5]]) (by kernel_rfl)
theorem err2 {w3 w4 w5 : W} : ∀ o ∈ oddW 2, callF PF 60 (d + 9) 22 [.t (.l [.d g0, .d g1, .d o, .d w3, .d w4, .d w5])] = .ok (said m2) [.l [.d g0, .d g1, .d o, .d w3, .d w4, .d w5]] := mapB_pt (f := fun o => callF PF 60 (d + 9) 22 [.t (.l [.d g0, .d g1, .d o, .d w3, .d w4, .d w5])]) (g := fun o => .ok (said m2) [.l [.d g0, .d g1, .d o, .d w3, .d w4, .d w5]]) (by kernel_rfl)
theorem err3 {w4 w5 : W} : ∀ o ∈ oddW 3, callF PF 60 (d + 9) 22 [.t (.l [.d g0, .d g1, .d g2, .d o, .d w4, .d w5])] = .ok (said m3) [.l [.d g0, .d g1, .d g2, .d o, .d w4, .d w5]] := mapB_pt (f := fun o => callF PF 60 (d + 9) 22 [.t (.l [.d g0, .d g1, .d g2, .d o, .d w4, .d w5])]) (g := fun o => .ok (said m3) [.l [.d g0, .d g1, .d g2, .d o, .d w4, .d w5]]) (by kernel_rfl)
theorem err4 {w5 : W} : ∀ o ∈ oddW 4, callF PF 60 (d + 9) 22 [.t (.l [.d g0, .d g1, .d g2, .d g3, .d o, .d w5])] = .ok (said m4) [.l [.d g0, .d g1, .d g2, .d g3, .d o, .d w5]] := mapB_pt (f := fun o => callF PF 60 (d + 9) 22 [.t (.l [.d g0, .d g1, .d g2, .d g3, .d o, .d w5])]) (g := fun o => .ok (said m4) [.l [.d g0, .d g1, .d g2, .d g3, .d o, .d w5]]) (by kernel_rfl)
theorem err5 : ∀ o ∈ oddW 5, callF PF 60 (d + 9) 22 [.t (.l [.d g0, .d g1, .d g2, .d g3, .d g4, .d o])] = .ok (said m5) [.l [.d g0, .d g1, .d g2, .d g3, .d g4, .d o]] := mapB_pt (f := fun o => callF PF 60 (d + 9) 22 [.t (.l [.d g0, .d g1, .d g2, .d g3, .d g4, .d o])]) (g := fun o => .ok (said m5) [.l [.d g0, .d g1, .d g2, .d g3, .d g4, .d o]]) (by kernel_rfl)
end
/-- a turn's text -/
def tb : List IS := [.own 7 (.cat (.u (.cat (.u (.slc (.s 2) none (some (.var 5)))) (.u (.lst [.var 6])))) (.u (.slc (.s 2) (some (.bin .add (.s 5) (.e (.cst (.int 1))))) none))),
    .asg (.nm 8) (.frz (.call 19 [.r 4, .d (.cst (.int 6))])),
    .ifs (.cmp .gt (.s 8) (.s 5)) [.sub 7 (.var 8) (.idx (.u (.call 21 [.d (.var 8)])) (.frz (.call 19 [.r 4, .d (.blt .len [.u (.call 21 [.d (.var 8)])])])))] [],
    .ifs (.cmp .ne (.u (.call 22 [.r 7])) (.u (.lst [.idx (.s 1) (.var 5), .cst (.bl true)]))) [.ret (.d (.cst (.bl false)))] []]
/-- the names within a turn -/
abbrev Ev (sc k : W) (a b : Int) (at_ : Int) (e6 e7 e8 : En) : Env := [.m (.d sc), .m (.d nms), .m (.d good), .m (.d k), .m (pl a b), .m (.d (.int at_)), e6, e7, e8]
inductive Sh (sc k : W) (at_ : Int) : Env → Prop
  | new (a b : Int) : POk a b → Sh sc k at_ (Ev sc k a b at_ .no .no .no)
  | old (a b : Int) (x : W) (us : List U) (y : W) : POk a b → Sh sc k at_ (Ev sc k a b at_ (.m (.d x)) (.m (.l us)) (.m (.d y)))
abbrev od (a b n k a' b' : Int) : Ob := .a 19 [.t (pl a b), .m (.d (.int n))] (.ok (.d (.int k)) [pl a' b'])
theorem nth_ge {α : Type} : ∀ {l : List α} {n : Nat} (h : n < l.length), nth l n = some l[n]
  | a :: l, 0, h => rfl
  | a :: l, n + 1, h => nth_ge (l := l) (Nat.lt_of_succ_lt_succ h)
theorem idx_at {ws : List W} {j : Int} (h0 : 0 ≤ j) (h1 : j < ws.length) : ∃ w, idxW (.lis ws) (.int j) = some w := by
  obtain ⟨n, rfl⟩ := Int.eq_ofNat_of_zero_le h0
  have hj : n < ws.length := by omega
  refine ⟨ws[n], ?_⟩
  show ((ix ws.length (n : Int)).bind fun j => nth ws j) = _
  have e1 : ix ws.length (n : Int) = some n := by
    show (if Nat.blt n ws.length then some n else none) = _
    rw [Nat.blt_eq.mpr hj]; rfl
  rw [e1]
  exact nth_ge hj
section
variable {d : Nat} {sc k : W}
theorem t0newn {a b a1 b1 k8 : Int} {o : W} (ho : o ∈ oddW 0) (hd : callF PF 60 (d + 9) 19 [.t (pl a b), .m (.d (.int 6))] = .ok (.d (.int k8)) [pl a1 b1]) (hk : ¬ 0 < k8) : (lvl (callF PF 60 (d + 9)) 57).S tb (Ev sc k a b 0 (.m (.d o)) .no .no) = .nx (Ev sc k a1 b1 0 (.m (.d o)) (.m (.l [.d o, .d g1, .d g2, .d g3, .d g4, .d g5])) (.m (.d (.int k8)))) :=
  runX [.a (.ok (.d (.int k8)) [pl a1 b1]), .t 0 false, .a (.ok (said m0) [.l [.d o, .d g1, .d g2, .d g3, .d g4, .d g5]])] (l := [.a 22 [.t (.l [.d o, .d g1, .d g2, .d g3, .d g4, .d g5])] (.ok (said m0) [.l [.d o, .d g1, .d g2, .d g3, .d g4, .d g5]]), .t (some (decide (0 < k8))) false, od a b 6 k8 a1 b1]) (by kernel_rfl) (fun h => nomatch h) ⟨err0 o ho, congrArg some (decide_eq_false hk), hd⟩
theorem t0new1 {a b a1 b1 a2 b2 j : Int} {o w : W} (ho : o ∈ oddW 0) (hd : callF PF 60 (d + 9) 19 [.t (pl a b), .m (.d (.int 6))] = .ok (.d (.int 1)) [pl a1 b1]) (hd2 : callF PF 60 (d + 9) 19 [.t (pl a1 b1), .m (.d (.int (oddW 1).length))] = .ok (.d (.int j)) [pl a2 b2]) (hw : idxW (.lis (oddW 1)) (.int j) = some w) : (lvl (callF PF 60 (d + 9)) 57).S tb (Ev sc k a b 0 (.m (.d o)) .no .no) = .nx (Ev sc k a2 b2 0 (.m (.d o)) (.m (.l [.d o, .d w, .d g2, .d g3, .d g4, .d g5])) (.m (.d (.int 1)))) :=
  runX [.a (.ok (.d (.int 1)) [pl a1 b1]), .k 2, .a (.ok (.d (.int j)) [pl a2 b2]), .v 0 w, .a (.ok (said m0) [.l [.d o, .d w, .d g2, .d g3, .d g4, .d g5]])] (l := [.a 22 [.t (.l [.d o, .d w, .d g2, .d g3, .d g4, .d g5])] (.ok (said m0) [.l [.d o, .d w, .d g2, .d g3, .d g4, .d g5]]), .v (idxW (.lis (oddW 1)) (.int j)) w, od a1 b1 (oddW 1).length j a2 b2, od a b 6 1 a1 b1]) (by kernel_rfl) (fun h => nomatch h) ⟨err0 o ho, hw, hd2, hd⟩
theorem t0new2 {a b a1 b1 a2 b2 j : Int} {o w : W} (ho : o ∈ oddW 0) (hd : callF PF 60 (d + 9) 19 [.t (pl a b), .m (.d (.int 6))] = .ok (.d (.int 2)) [pl a1 b1]) (hd2 : callF PF 60 (d + 9) 19 [.t (pl a1 b1), .m (.d (.int (oddW 2).length))] = .ok (.d (.int j)) [pl a2 b2]) (hw : idxW (.lis (oddW 2)) (.int j) = some w) : (lvl (callF PF 60 (d + 9)) 57).S tb (Ev sc k a b 0 (.m (.d o)) .no .no) = .nx (Ev sc k a2 b2 0 (.m (.d o)) (.m (.l [.d o, .d g1, .d w, .d g3, .d g4, .d g5])) (.m (.d (.int 2)))) :=
  runX [.a (.ok (.d (.int 2)) [pl a1 b1]), .k 2, .a (.ok (.d (.int j)) [pl a2 b2]), .v 0 w, .a (.ok (said m0) [.l [.d o, .d g1, .d w, .d g3, .d g4, .d g5]])] (l := [.a 22 [.t (.l [.d o, .d g1, .d w, .d g3, .d g4, .d g5])] (.ok (said m0) [.l [.d o, .d g1, .d w, .d g3, .d g4, .d g5]]), .v (idxW (.lis (oddW 2)) (.int j)) w, od a1 b1 (oddW 2).length j a2 b2, od a b 6 2 a1 b1]) (by kernel_rfl) (fun h => nomatch h) ⟨err0 o ho, hw, hd2, hd⟩
theorem t0new3 {a b a1 b1 a2 b2 j : Int} {o w : W} (ho : o ∈ oddW 0) (hd : callF PF 60 (d + 9) 19 [.t (pl a b), .m (.d (.int 6))] = .ok (.d (.int 3)) [pl a1 b1]) (hd2 : callF PF 60 (d + 9) 19 [.t (pl a1 b1), .m (.d (.int (oddW 3).length))] = .ok (.d (.int j)) [pl a2 b2]) (hw : idxW (.lis (oddW 3)) (.int j) = some w) : (lvl (callF PF 60 (d + 9)) 57).S tb (Ev sc k a b 0 (.m (.d o)) .no .no) = .nx (Ev sc k a2 b2 0 (.m (.d o)) (.m (.l [.d o, .d g1, .d g2, .d w, .d g4, .d g5])) (.m (.d (.int 3)))) :=
  runX [.a (.ok (.d (.int 3)) [pl a1 b1]), .k 2, .a (.ok (.d (.int j)) [pl a2 b2]), .v 0 w, .a (.ok (said m0) [.l [.d o, .d g1, .d g2, .d w, .d g4, .d g5]])] (l := [.a 22 [.t (.l [.d o, .d g1, .d g2, .d w, .d g4, .d g5])] (.ok (said m0) [.l [.d o, .d g1, .d g2, .d w, .d g4, .d g5]]), .v (idxW (.lis (oddW 3)) (.int j)) w, od a1 b1 (oddW 3).length j a2 b2, od a b 6 3 a1 b1]) (by kernel_rfl) (fun h => nomatch h) ⟨err0 o ho, hw, hd2, hd⟩
theorem t0new4 {a b a1 b1 a2 b2 j : Int} {o w : W} (ho : o ∈ oddW 0) (hd : callF PF 60 (d + 9) 19 [.t (pl a b), .m (.d (.int 6))] = .ok (.d (.int 4)) [pl a1 b1]) (hd2 : callF PF 60 (d + 9) 19 [.t (pl a1 b1), .m (.d (.int (oddW 4).length))] = .ok (.d (.int j)) [pl a2 b2]) (hw : idxW (.lis (oddW 4)) (.int j) = some w) : (lvl (callF PF 60 (d + 9)) 57).S tb (Ev sc k a b 0 (.m (.d o)) .no .no) = .nx (Ev sc k a2 b2 0 (.m (.d o)) (.m (.l [.d o, .d g1, .d g2, .d g3, .d w, .d g5])) (.m (.d (.int 4)))) :=
  runX [.a (.ok (.d (.int 4)) [pl a1 b1]), .k 2, .a (.ok (.d (.int j)) [pl a2 b2]), .v 0 w, .a (.ok (said m0) [.l [.d o, .d g1, .d g2, .d g3, .d w, .d g5]])] (l := [.a 22 [.t (.l [.d o, .d g1, .d g2, .d g3, .d w, .d g5])] (.ok (said m0) [.l [.d o, .d g1, .d g2, .d g3, .d w, .d g5]]), .v (idxW (.lis (oddW 4)) (.int j)) w, od a1 b1 (oddW 4).length j a2 b2, od a b 6 4 a1 b1]) (by kernel_rfl) (fun h => nomatch h) ⟨err0 o ho, hw, hd2, hd⟩
theorem t0new5 {a b a1 b1 a2 b2 j : Int} {o w : W} (ho : o ∈ oddW 0) (hd : callF PF 60 (d + 9) 19 [.t (pl a b), .m (.d (.int 6))] = .ok (.d (.int 5)) [pl a1 b1]) (hd2 : callF PF 60 (d + 9) 19 [.t (pl a1 b1), .m (.d (.int (oddW 5).length))] = .ok (.d (.int j)) [pl a2 b2]) (hw : idxW (.lis (oddW 5)) (.int j) = some w) : (lvl (callF PF 60 (d + 9)) 57).S tb (Ev sc k a b 0 (.m (.d o)) .no .no) = .nx (Ev sc k a2 b2 0 (.m (.d o)) (.m (.l [.d o, .d g1, .d g2, .d g3, .d g4, .d w])) (.m (.d (.int 5)))) :=
  runX [.a (.ok (.d (.int 5)) [pl a1 b1]), .k 2, .a (.ok (.d (.int j)) [pl a2 b2]), .v 0 w, .a (.ok (said m0) [.l [.d o, .d g1, .d g2, .d g3, .d g4, .d w]])] (l := [.a 22 [.t (.l [.d o, .d g1, .d g2, .d g3, .d g4, .d w])] (.ok (said m0) [.l [.d o, .d g1, .d g2, .d g3, .d g4, .d w]]), .v (idxW (.lis (oddW 5)) (.int j)) w, od a1 b1 (oddW 5).length j a2 b2, od a b 6 5 a1 b1]) (by kernel_rfl) (fun h => nomatch h) ⟨err0 o ho, hw, hd2, hd⟩
theorem t0oldn {us : List U} {y : W} {a b a1 b1 k8 : Int} {o : W} (ho : o ∈ oddW 0) (hd : callF PF 60 (d + 9) 19 [.t (pl a b), .m (.d (.int 6))] = .ok (.d (.int k8)) [pl a1 b1]) (hk : ¬ 0 < k8) : (lvl (callF PF 60 (d + 9)) 57).S tb (Ev sc k a b 0 (.m (.d o)) (.m (.l us)) (.m (.d y))) = .nx (Ev sc k a1 b1 0 (.m (.d o)) (.m (.l [.d o, .d g1, .d g2, .d g3, .d g4, .d g5])) (.m (.d (.int k8)))) :=
  runX [.a (.ok (.d (.int k8)) [pl a1 b1]), .t 0 false, .a (.ok (said m0) [.l [.d o, .d g1, .d g2, .d g3, .d g4, .d g5]])] (l := [.a 22 [.t (.l [.d o, .d g1, .d g2, .d g3, .d g4, .d g5])] (.ok (said m0) [.l [.d o, .d g1, .d g2, .d g3, .d g4, .d g5]]), .t (some (decide (0 < k8))) false, od a b 6 k8 a1 b1]) (by kernel_rfl) (fun h => nomatch h) ⟨err0 o ho, congrArg some (decide_eq_false hk), hd⟩
theorem t0old1 {us : List U} {y : W} {a b a1 b1 a2 b2 j : Int} {o w : W} (ho : o ∈ oddW 0) (hd : callF PF 60 (d + 9) 19 [.t (pl a b), .m (.d (.int 6))] = .ok (.d (.int 1)) [pl a1 b1]) (hd2 : callF PF 60 (d + 9) 19 [.t (pl a1 b1), .m (.d (.int (oddW 1).length))] = .ok (.d (.int j)) [pl a2 b2]) (hw : idxW (.lis (oddW 1)) (.int j) = some w) : (lvl (callF PF 60 (d + 9)) 57).S tb (Ev sc k a b 0 (.m (.d o)) (.m (.l us)) (.m (.d y))) = .nx (Ev sc k a2 b2 0 (.m (.d o)) (.m (.l [.d o, .d w, .d g2, .d g3, .d g4, .d g5])) (.m (.d (.int 1)))) :=
  runX [.a (.ok (.d (.int 1)) [pl a1 b1]), .k 2, .a (.ok (.d (.int j)) [pl a2 b2]), .v 0 w, .a (.ok (said m0) [.l [.d o, .d w, .d g2, .d g3, .d g4, .d g5]])] (l := [.a 22 [.t (.l [.d o, .d w, .d g2, .d g3, .d g4, .d g5])] (.ok (said m0) [.l [.d o, .d w, .d g2, .d g3, .d g4, .d g5]]), .v (idxW (.lis (oddW 1)) (.int j)) w, od a1 b1 (oddW 1).length j a2 b2, od a b 6 1 a1 b1]) (by kernel_rfl) (fun h => nomatch h) ⟨err0 o ho, hw, hd2, hd⟩
theorem t0old2 {us : List U} {y : W} {a b a1 b1 a2 b2 j : Int} {o w : W} (ho : o ∈ oddW 0) (hd : callF PF 60 (d + 9) 19 [.t (pl a b), .m (.d (.int 6))] = .ok (.d (.int 2)) [pl a1 b1]) (hd2 : callF PF 60 (d + 9) 19 [.t (pl a1 b1), .m (.d (.int (oddW 2).length))] = .ok (.d (.int j)) [pl a2 b2]) (hw : idxW (.lis (oddW 2)) (.int j) = some w) : (lvl (callF PF 60 (d + 9)) 57).S tb (Ev sc k a b 0 (.m (.d o)) (.m (.l us)) (.m (.d y))) = .nx (Ev sc k a2 b2 0 (.m (.d o)) (.m (.l [.d o, .d g1, .d w, .d g3, .d g4, .d g5])) (.m (.d (.int 2)))) :=
  runX [.a (.ok (.d (.int 2)) [pl a1 b1]), .k 2, .a (.ok (.d (.int j)) [pl a2 b2]), .v 0 w, .a (.ok (said m0) [.l [.d o, .d g1, .d w, .d g3, .d g4, .d g5]])] (l := [.a 22 [.t (.l [.d o, .d g1, .d w, .d g3, .d g4, .d g5])] (.ok (said m0) [.l [.d o, .d g1, .d w, .d g3, .d g4, .d g5]]), .v (idxW (.lis (oddW 2)) (.int j)) w, od a1 b1 (oddW 2).length j a2 b2, od a b 6 2 a1 b1]) (by kernel_rfl) (fun h => nomatch h) ⟨err0 o ho, hw, hd2, hd⟩
theorem t0old3 {us : List U} {y : W} {a b a1 b1 a2 b2 j : Int} {o w : W} (ho : o ∈ oddW 0) (hd : callF PF 60 (d + 9) 19 [.t (pl a b), .m (.d (.int 6))] = .ok (.d (.int 3)) [pl a1 b1]) (hd2 : callF PF 60 (d + 9) 19 [.t (pl a1 b1), .m (.d (.int (oddW 3).length))] = .ok (.d (.int j)) [pl a2 b2]) (hw : idxW (.lis (oddW 3)) (.int j) = some w) : (lvl (callF PF 60 (d + 9)) 57).S tb (Ev sc k a b 0 (.m (.d o)) (.m (.l us)) (.m (.d y))) = .nx (Ev sc k a2 b2 0 (.m (.d o)) (.m (.l [.d o, .d g1, .d g2, .d w, .d g4, .d g5])) (.m (.d (.int 3)))) :=
  runX [.a (.ok (.d (.int 3)) [pl a1 b1]), .k 2, .a (.ok (.d (.int j)) [pl a2 b2]), .v 0 w, .a (.ok (said m0) [.l [.d o, .d g1, .d g2, .d w, .d g4, .d g5]])] (l := [.a 22 [.t (.l [.d o, .d g1, .d g2, .d w, .d g4, .d g5])] (.ok (said m0) [.l [.d o, .d g1, .d g2, .d w, .d g4, .d g5]]), .v (idxW (.lis (oddW 3)) (.int j)) w, od a1 b1 (oddW 3).length j a2 b2, od a b 6 3 a1 b1]) (by kernel_rfl) (fun h => nomatch h) ⟨err0 o ho, hw, hd2, hd⟩
theorem t0old4 {us : List U} {y : W} {a b a1 b1 a2 b2 j : Int} {o w : W} (ho : o ∈ oddW 0) (hd : callF PF 60 (d + 9) 19 [.t (pl a b), .m (.d (.int 6))] = .ok (.d (.int 4)) [pl a1 b1]) (hd2 : callF PF 60 (d + 9) 19 [.t (pl a1 b1), .m (.d (.int (oddW 4).length))] = .ok (.d (.int j)) [pl a2 b2]) (hw : idxW (.lis (oddW 4)) (.int j) = some w) : (lvl (callF PF 60 (d + 9)) 57).S tb (Ev sc k a b 0 (.m (.d o)) (.m (.l us)) (.m (.d y))) = .nx (Ev sc k a2 b2 0 (.m (.d o)) (.m (.l [.d o, .d g1, .d g2, .d g3, .d w, .d g5])) (.m (.d (.int 4)))) :=
  runX [.a (.ok (.d (.int 4)) [pl a1 b1]), .k 2, .a (.ok (.d (.int j)) [pl a2 b2]), .v 0 w, .a (.ok (said m0) [.l [.d o, .d g1, .d g2, .d g3, .d w, .d g5]])] (l := [.a 22 [.t (.l [.d o, .d g1, .d g2, .d g3, .d w, .d g5])] (.ok (said m0) [.l [.d o, .d g1, .d g2, .d g3, .d w, .d g5]]), .v (idxW (.lis (oddW 4)) (.int j)) w, od a1 b1 (oddW 4).length j a2 b2, od a b 6 4 a1 b1]) (by kernel_rfl) (fun h => nomatch h) ⟨err0 o ho, hw, hd2, hd⟩
theorem t0old5 {us : List U} {y : W} {a b a1 b1 a2 b2 j : Int} {o w : W} (ho : o ∈ oddW 0) (hd : callF PF 60 (d + 9) 19 [.t (pl a b), .m (.d (.int 6))] = .ok (.d (.int 5)) [pl a1 b1]) (hd2 : callF PF 60 (d + 9) 19 [.t (pl a1 b1), .m (.d (.int (oddW 5).length))] = .ok (.d (.int j)) [pl a2 b2]) (hw : idxW (.lis (oddW 5)) (.int j) = some w) : (lvl (callF PF 60 (d + 9)) 57).S tb (Ev sc k a b 0 (.m (.d o)) (.m (.l us)) (.m (.d y))) = .nx (Ev sc k a2 b2 0 (.m (.d o)) (.m (.l [.d o, .d g1, .d g2, .d g3, .d g4, .d w])) (.m (.d (.int 5)))) :=
  runX [.a (.ok (.d (.int 5)) [pl a1 b1]), .k 2, .a (.ok (.d (.int j)) [pl a2 b2]), .v 0 w, .a (.ok (said m0) [.l [.d o, .d g1, .d g2, .d g3, .d g4, .d w]])] (l := [.a 22 [.t (.l [.d o, .d g1, .d g2, .d g3, .d g4, .d w])] (.ok (said m0) [.l [.d o, .d g1, .d g2, .d g3, .d g4, .d w]]), .v (idxW (.lis (oddW 5)) (.int j)) w, od a1 b1 (oddW 5).length j a2 b2, od a b 6 5 a1 b1]) (by kernel_rfl) (fun h => nomatch h) ⟨err0 o ho, hw, hd2, hd⟩
theorem t1newn {a b a1 b1 k8 : Int} {o : W} (ho : o ∈ oddW 1) (hd : callF PF 60 (d + 9) 19 [.t (pl a b), .m (.d (.int 6))] = .ok (.d (.int k8)) [pl a1 b1]) (hk : ¬ 1 < k8) : (lvl (callF PF 60 (d + 9)) 57).S tb (Ev sc k a b 1 (.m (.d o)) .no .no) = .nx (Ev sc k a1 b1 1 (.m (.d o)) (.m (.l [.d g0, .d o, .d g2, .d g3, .d g4, .d g5])) (.m (.d (.int k8)))) :=
  runX [.a (.ok (.d (.int k8)) [pl a1 b1]), .t 0 false, .a (.ok (said m1) [.l [.d g0, .d o, .d g2, .d g3, .d g4, .d g5]])] (l := [.a 22 [.t (.l [.d g0, .d o, .d g2, .d g3, .d g4, .d g5])] (.ok (said m1) [.l [.d g0, .d o, .d g2, .d g3, .d g4, .d g5]]), .t (some (decide (1 < k8))) false, od a b 6 k8 a1 b1]) (by kernel_rfl) (fun h => nomatch h) ⟨err1 o ho, congrArg some (decide_eq_false hk), hd⟩
theorem t1new2 {a b a1 b1 a2 b2 j : Int} {o w : W} (ho : o ∈ oddW 1) (hd : callF PF 60 (d + 9) 19 [.t (pl a b), .m (.d (.int 6))] = .ok (.d (.int 2)) [pl a1 b1]) (hd2 : callF PF 60 (d + 9) 19 [.t (pl a1 b1), .m (.d (.int (oddW 2).length))] = .ok (.d (.int j)) [pl a2 b2]) (hw : idxW (.lis (oddW 2)) (.int j) = some w) : (lvl (callF PF 60 (d + 9)) 57).S tb (Ev sc k a b 1 (.m (.d o)) .no .no) = .nx (Ev sc k a2 b2 1 (.m (.d o)) (.m (.l [.d g0, .d o, .d w, .d g3, .d g4, .d g5])) (.m (.d (.int 2)))) :=
  runX [.a (.ok (.d (.int 2)) [pl a1 b1]), .k 2, .a (.ok (.d (.int j)) [pl a2 b2]), .v 0 w, .a (.ok (said m1) [.l [.d g0, .d o, .d w, .d g3, .d g4, .d g5]])] (l := [.a 22 [.t (.l [.d g0, .d o, .d w, .d g3, .d g4, .d g5])] (.ok (said m1) [.l [.d g0, .d o, .d w, .d g3, .d g4, .d g5]]), .v (idxW (.lis (oddW 2)) (.int j)) w, od a1 b1 (oddW 2).length j a2 b2, od a b 6 2 a1 b1]) (by kernel_rfl) (fun h => nomatch h) ⟨err1 o ho, hw, hd2, hd⟩
theorem t1new3 {a b a1 b1 a2 b2 j : Int} {o w : W} (ho : o ∈ oddW 1) (hd : callF PF 60 (d + 9) 19 [.t (pl a b), .m (.d (.int 6))] = .ok (.d (.int 3)) [pl a1 b1]) (hd2 : callF PF 60 (d + 9) 19 [.t (pl a1 b1), .m (.d (.int (oddW 3).length))] = .ok (.d (.int j)) [pl a2 b2]) (hw : idxW (.lis (oddW 3)) (.int j) = some w) : (lvl (callF PF 60 (d + 9)) 57).S tb (Ev sc k a b 1 (.m (.d o)) .no .no) = .nx (Ev sc k a2 b2 1 (.m (.d o)) (.m (.l [.d g0, .d o, .d g2, .d w, .d g4, .d g5])) (.m (.d (.int 3)))) :=
  runX [.a (.ok (.d (.int 3)) [pl a1 b1]), .k 2, .a (.ok (.d (.int j)) [pl a2 b2]), .v 0 w, .a (.ok (said m1) [.l [.d g0, .d o, .d g2, .d w, .d g4, .d g5]])] (l := [.a 22 [.t (.l [.d g0, .d o, .d g2, .d w, .d g4, .d g5])] (.ok (said m1) [.l [.d g0, .d o, .d g2, .d w, .d g4, .d g5]]), .v (idxW (.lis (oddW 3)) (.int j)) w, od a1 b1 (oddW 3).length j a2 b2, od a b 6 3 a1 b1]) (by kernel_rfl) (fun h => nomatch h) ⟨err1 o ho, hw, hd2, hd⟩
theorem t1new4 {a b a1 b1 a2 b2 j : Int} {o w : W} (ho : o ∈ oddW 1) (hd : callF PF 60 (d + 9) 19 [.t (pl a b), .m (.d (.int 6))] = .ok (.d (.int 4)) [pl a1 b1]) (hd2 : callF PF 60 (d + 9) 19 [.t (pl a1 b1), .m (.d (.int (oddW 4).length))] = .ok (.d (.int j)) [pl a2 b2]) (hw : idxW (.lis (oddW 4)) (.int j) = some w) : (lvl (callF PF 60 (d + 9)) 57).S tb (Ev sc k a b 1 (.m (.d o)) .no .no) = .nx (Ev sc k a2 b2 1 (.m (.d o)) (.m (.l [.d g0, .d o, .d g2, .d g3, .d w, .d g5])) (.m (.d (.int 4)))) :=
  runX [.a (.ok (.d (.int 4)) [pl a1 b1]), .k 2, .a (.ok (.d (.int j)) [pl a2 b2]), .v 0 w, .a (.ok (said m1) [.l [.d g0, .d o, .d g2, .d g3, .d w, .d g5]])] (l := [.a 22 [.t (.l [.d g0, .d o, .d g2, .d g3, .d w, .d g5])] (.ok (said m1) [.l [.d g0, .d o, .d g2, .d g3, .d w, .d g5]]), .v (idxW (.lis (oddW 4)) (.int j)) w, od a1 b1 (oddW 4).length j a2 b2, od a b 6 4 a1 b1]) (by kernel_rfl) (fun h => nomatch h) ⟨err1 o ho, hw, hd2, hd⟩
theorem t1new5 {a b a1 b1 a2 b2 j : Int} {o w : W} (ho : o ∈ oddW 1) (hd : callF PF 60 (d + 9) 19 [.t (pl a b), .m (.d (.int 6))] = .ok (.d (.int 5)) [pl a1 b1]) (hd2 : callF PF 60 (d + 9) 19 [.t (pl a1 b1), .m (.d (.int (oddW 5).length))] = .ok (.d (.int j)) [pl a2 b2]) (hw : idxW (.lis (oddW 5)) (.int j) = some w) : (lvl (callF PF 60 (d + 9)) 57).S tb (Ev sc k a b 1 (.m (.d o)) .no .no) = .nx (Ev sc k a2 b2 1 (.m (.d o)) (.m (.l [.d g0, .d o, .d g2, .d g3, .d g4, .d w])) (.m (.d (.int 5)))) :=
  runX [.a (.ok (.d (.int 5)) [pl a1 b1]), .k 2, .a (.ok (.d (.int j)) [pl a2 b2]), .v 0 w, .a (.ok (said m1) [.l [.d g0, .d o, .d g2, .d g3, .d g4, .d w]])] (l := [.a 22 [.t (.l [.d g0, .d o, .d g2, .d g3, .d g4, .d w])] (.ok (said m1) [.l [.d g0, .d o, .d g2, .d g3, .d g4, .d w]]), .v (idxW (.lis (oddW 5)) (.int j)) w, od a1 b1 (oddW 5).length j a2 b2, od a b 6 5 a1 b1]) (by kernel_rfl) (fun h => nomatch h) ⟨err1 o ho, hw, hd2, hd⟩
theorem t1oldn {us : List U} {y : W} {a b a1 b1 k8 : Int} {o : W} (ho : o ∈ oddW 1) (hd : callF PF 60 (d + 9) 19 [.t (pl a b), .m (.d (.int 6))] = .ok (.d (.int k8)) [pl a1 b1]) (hk : ¬ 1 < k8) : (lvl (callF PF 60 (d + 9)) 57).S tb (Ev sc k a b 1 (.m (.d o)) (.m (.l us)) (.m (.d y))) = .nx (Ev sc k a1 b1 1 (.m (.d o)) (.m (.l [.d g0, .d o, .d g2, .d g3, .d g4, .d g5])) (.m (.d (.int k8)))) :=
  runX [.a (.ok (.d (.int k8)) [pl a1 b1]), .t 0 false, .a (.ok (said m1) [.l [.d g0, .d o, .d g2, .d g3, .d g4, .d g5]])] (l := [.a 22 [.t (.l [.d g0, .d o, .d g2, .d g3, .d g4, .d g5])] (.ok (said m1) [.l [.d g0, .d o, .d g2, .d g3, .d g4, .d g5]]), .t (some (decide (1 < k8))) false, od a b 6 k8 a1 b1]) (by kernel_rfl) (fun h => nomatch h) ⟨err1 o ho, congrArg some (decide_eq_false hk), hd⟩
theorem t1old2 {us : List U} {y : W} {a b a1 b1 a2 b2 j : Int} {o w : W} (ho : o ∈ oddW 1) (hd : callF PF 60 (d + 9) 19 [.t (pl a b), .m (.d (.int 6))] = .ok (.d (.int 2)) [pl a1 b1]) (hd2 : callF PF 60 (d + 9) 19 [.t (pl a1 b1), .m (.d (.int (oddW 2).length))] = .ok (.d (.int j)) [pl a2 b2]) (hw : idxW (.lis (oddW 2)) (.int j) = some w) : (lvl (callF PF 60 (d + 9)) 57).S tb (Ev sc k a b 1 (.m (.d o)) (.m (.l us)) (.m (.d y))) = .nx (Ev sc k a2 b2 1 (.m (.d o)) (.m (.l [.d g0, .d o, .d w, .d g3, .d g4, .d g5])) (.m (.d (.int 2)))) :=
  runX [.a (.ok (.d (.int 2)) [pl a1 b1]), .k 2, .a (.ok (.d (.int j)) [pl a2 b2]), .v 0 w, .a (.ok (said m1) [.l [.d g0, .d o, .d w, .d g3, .d g4, .d g5]])] (l := [.a 22 [.t (.l [.d g0, .d o, .d w, .d g3, .d g4, .d g5])] (.ok (said m1) [.l [.d g0, .d o, .d w, .d g3, .d g4, .d g5]]), .v (idxW (.lis (oddW 2)) (.int j)) w, od a1 b1 (oddW 2).length j a2 b2, od a b 6 2 a1 b1]) (by kernel_rfl) (fun h => nomatch h) ⟨err1 o ho, hw, hd2, hd⟩
theorem t1old3 {us : List U} {y : W} {a b a1 b1 a2 b2 j : Int} {o w : W} (ho : o ∈ oddW 1) (hd : callF PF 60 (d + 9) 19 [.t (pl a b), .m (.d (.int 6))] = .ok (.d (.int 3)) [pl a1 b1]) (hd2 : callF PF 60 (d + 9) 19 [.t (pl a1 b1), .m (.d (.int (oddW 3).length))] = .ok (.d (.int j)) [pl a2 b2]) (hw : idxW (.lis (oddW 3)) (.int j) = some w) : (lvl (callF PF 60 (d + 9)) 57).S tb (Ev sc k a b 1 (.m (.d o)) (.m (.l us)) (.m (.d y))) = .nx (Ev sc k a2 b2 1 (.m (.d o)) (.m (.l [.d g0, .d o, .d g2, .d w, .d g4, .d g5])) (.m (.d (.int 3)))) :=
  runX [.a (.ok (.d (.int 3)) [pl a1 b1]), .k 2, .a (.ok (.d (.int j)) [pl a2 b2]), .v 0 w, .a (.ok (said m1) [.l [.d g0, .d o, .d g2, .d w, .d g4, .d g5]])] (l := [.a 22 [.t (.l [.d g0, .d o, .d g2, .d w, .d g4, .d g5])] (.ok (said m1) [.l [.d g0, .d o, .d g2, .d w, .d g4, .d g5]]), .v (idxW (.lis (oddW 3)) (.int j)) w, od a1 b1 (oddW 3).length j a2 b2, od a b 6 3 a1 b1]) (by kernel_rfl) (fun h => nomatch h) ⟨err1 o ho, hw, hd2, hd⟩
theorem t1old4 {us : List U} {y : W} {a b a1 b1 a2 b2 j : Int} {o w : W} (ho : o ∈ oddW 1) (hd : callF PF 60 (d + 9) 19 [.t (pl a b), .m (.d (.int 6))] = .ok (.d (.int 4)) [pl a1 b1]) (hd2 : callF PF 60 (d + 9) 19 [.t (pl a1 b1), .m (.d (.int (oddW 4).length))] = .ok (.d (.int j)) [pl a2 b2]) (hw : idxW (.lis (oddW 4)) (.int j) = some w) : (lvl (callF PF 60 (d + 9)) 57).S tb (Ev sc k a b 1 (.m (.d o)) (.m (.l us)) (.m (.d y))) = .nx (Ev sc k a2 b2 1 (.m (.d o)) (.m (.l [.d g0, .d o, .d g2, .d g3, .d w, .d g5])) (.m (.d (.int 4)))) :=
  runX [.a (.ok (.d (.int 4)) [pl a1 b1]), .k 2, .a (.ok (.d (.int j)) [pl a2 b2]), .v 0 w, .a (.ok (said m1) [.l [.d g0, .d o, .d g2, .d g3, .d w, .d g5]])] (l := [.a 22 [.t (.l [.d g0, .d o, .d g2, .d g3, .d w, .d g5])] (.ok (said m1) [.l [.d g0, .d o, .d g2, .d g3, .d w, .d g5]]), .v (idxW (.lis (oddW 4)) (.int j)) w, od a1 b1 (oddW 4).length j a2 b2, od a b 6 4 a1 b1]) (by kernel_rfl) (fun h => nomatch h) ⟨err1 o ho, hw, hd2, hd⟩
theorem t1old5 {us : List U} {y : W} {a b a1 b1 a2 b2 j : Int} {o w : W} (ho : o ∈ oddW 1) (hd : callF PF 60 (d + 9) 19 [.t (pl a b), .m (.d (.int 6))] = .ok (.d (.int 5)) [pl a1 b1]) (hd2 : callF PF 60 (d + 9) 19 [.t (pl a1 b1), .m (.d (.int (oddW 5).length))] = .ok (.d (.int j)) [pl a2 b2]) (hw : idxW (.lis (oddW 5)) (.int j) = some w) : (lvl (callF PF 60 (d + 9)) 57).S tb (Ev sc k a b 1 (.m (.d o)) (.m (.l us)) (.m (.d y))) = .nx (Ev sc k a2 b2 1 (.m (.d o)) (.m (.l [.d g0, .d o, .d g2, .d g3, .d g4, .d w])) (.m (.d (.int 5)))) :=
  runX [.a (.ok (.d (.int 5)) [pl a1 b1]), .k 2, .a (.ok (.d (.int j)) [pl a2 b2]), .v 0 w, .a (.ok (said m1) [.l [.d g0, .d o, .d g2, .d g3, .d g4, .d w]])] (l := [.a 22 [.t (.l [.d g0, .d o, .d g2, .d g3, .d g4, .d w])] (.ok (said m1) [.l [.d g0, .d o, .d g2, .d g3, .d g4, .d w]]), .v (idxW (.lis (oddW 5)) (.int j)) w, od a1 b1 (oddW 5).length j a2 b2, od a b 6 5 a1 b1]) (by kernel_rfl) (fun h => nomatch h) ⟨err1 o ho, hw, hd2, hd⟩
theorem t2newn {a b a1 b1 k8 : Int} {o : W} (ho : o ∈ oddW 2) (hd : callF PF 60 (d + 9) 19 [.t (pl a b), .m (.d (.int 6))] = .ok (.d (.int k8)) [pl a1 b1]) (hk : ¬ 2 < k8) : (lvl (callF PF 60 (d + 9)) 57).S tb (Ev sc k a b 2 (.m (.d o)) .no .no) = .nx (Ev sc k a1 b1 2 (.m (.d o)) (.m (.l [.d g0, .d g1, .d o, .d g3, .d g4, .d g5])) (.m (.d (.int k8)))) :=
  runX [.a (.ok (.d (.int k8)) [pl a1 b1]), .t 0 false, .a (.ok (said m2) [.l [.d g0, .d g1, .d o, .d g3, .d g4, .d g5]])] (l := [.a 22 [.t (.l [.d g0, .d g1, .d o, .d g3, .d g4, .d g5])] (.ok (said m2) [.l [.d g0, .d g1, .d o, .d g3, .d g4, .d g5]]), .t (some (decide (2 < k8))) false, od a b 6 k8 a1 b1]) (by kernel_rfl) (fun h => nomatch h) ⟨err2 o ho, congrArg some (decide_eq_false hk), hd⟩
theorem t2new3 {a b a1 b1 a2 b2 j : Int} {o w : W} (ho : o ∈ oddW 2) (hd : callF PF 60 (d + 9) 19 [.t (pl a b), .m (.d (.int 6))] = .ok (.d (.int 3)) [pl a1 b1]) (hd2 : callF PF 60 (d + 9) 19 [.t (pl a1 b1), .m (.d (.int (oddW 3).length))] = .ok (.d (.int j)) [pl a2 b2]) (hw : idxW (.lis (oddW 3)) (.int j) = some w) : (lvl (callF PF 60 (d + 9)) 57).S tb (Ev sc k a b 2 (.m (.d o)) .no .no) = .nx (Ev sc k a2 b2 2 (.m (.d o)) (.m (.l [.d g0, .d g1, .d o, .d w, .d g4, .d g5])) (.m (.d (.int 3)))) :=
  runX [.a (.ok (.d (.int 3)) [pl a1 b1]), .k 2, .a (.ok (.d (.int j)) [pl a2 b2]), .v 0 w, .a (.ok (said m2) [.l [.d g0, .d g1, .d o, .d w, .d g4, .d g5]])] (l := [.a 22 [.t (.l [.d g0, .d g1, .d o, .d w, .d g4, .d g5])] (.ok (said m2) [.l [.d g0, .d g1, .d o, .d w, .d g4, .d g5]]), .v (idxW (.lis (oddW 3)) (.int j)) w, od a1 b1 (oddW 3).length j a2 b2, od a b 6 3 a1 b1]) (by kernel_rfl) (fun h => nomatch h) ⟨err2 o ho, hw, hd2, hd⟩
theorem t2new4 {a b a1 b1 a2 b2 j : Int} {o w : W} (ho : o ∈ oddW 2) (hd : callF PF 60 (d + 9) 19 [.t (pl a b), .m (.d (.int 6))] = .ok (.d (.int 4)) [pl a1 b1]) (hd2 : callF PF 60 (d + 9) 19 [.t (pl a1 b1), .m (.d (.int (oddW 4).length))] = .ok (.d (.int j)) [pl a2 b2]) (hw : idxW (.lis (oddW 4)) (.int j) = some w) : (lvl (callF PF 60 (d + 9)) 57).S tb (Ev sc k a b 2 (.m (.d o)) .no .no) = .nx (Ev sc k a2 b2 2 (.m (.d o)) (.m (.l [.d g0, .d g1, .d o, .d g3, .d w, .d g5])) (.m (.d (.int 4)))) :=
  runX [.a (.ok (.d (.int 4)) [pl a1 b1]), .k 2, .a (.ok (.d (.int j)) [pl a2 b2]), .v 0 w, .a (.ok (said m2) [.l [.d g0, .d g1, .d o, .d g3, .d w, .d g5]])] (l := [.a 22 [.t (.l [.d g0, .d g1, .d o, .d g3, .d w, .d g5])] (.ok (said m2) [.l [.d g0, .d g1, .d o, .d g3, .d w, .d g5]]), .v (idxW (.lis (oddW 4)) (.int j)) w, od a1 b1 (oddW 4).length j a2 b2, od a b 6 4 a1 b1]) (by kernel_rfl) (fun h => nomatch h) ⟨err2 o ho, hw, hd2, hd⟩
theorem t2new5 {a b a1 b1 a2 b2 j : Int} {o w : W} (ho : o ∈ oddW 2) (hd : callF PF 60 (d + 9) 19 [.t (pl a b), .m (.d (.int 6))] = .ok (.d (.int 5)) [pl a1 b1]) (hd2 : callF PF 60 (d + 9) 19 [.t (pl a1 b1), .m (.d (.int (oddW 5).length))] = .ok (.d (.int j)) [pl a2 b2]) (hw : idxW (.lis (oddW 5)) (.int j) = some w) : (lvl (callF PF 60 (d + 9)) 57).S tb (Ev sc k a b 2 (.m (.d o)) .no .no) = .nx (Ev sc k a2 b2 2 (.m (.d o)) (.m (.l [.d g0, .d g1, .d o, .d g3, .d g4, .d w])) (.m (.d (.int 5)))) :=
  runX [.a (.ok (.d (.int 5)) [pl a1 b1]), .k 2, .a (.ok (.d (.int j)) [pl a2 b2]), .v 0 w, .a (.ok (said m2) [.l [.d g0, .d g1, .d o, .d g3, .d g4, .d w]])] (l := [.a 22 [.t (.l [.d g0, .d g1, .d o, .d g3, .d g4, .d w])] (.ok (said m2) [.l [.d g0, .d g1, .d o, .d g3, .d g4, .d w]]), .v (idxW (.lis (oddW 5)) (.int j)) w, od a1 b1 (oddW 5).length j a2 b2, od a b 6 5 a1 b1]) (by kernel_rfl) (fun h => nomatch h) ⟨err2 o ho, hw, hd2, hd⟩
theorem t2oldn {us : List U} {y : W} {a b a1 b1 k8 : Int} {o : W} (ho : o ∈ oddW 2) (hd : callF PF 60 (d + 9) 19 [.t (pl a b), .m (.d (.int 6))] = .ok (.d (.int k8)) [pl a1 b1]) (hk : ¬ 2 < k8) : (lvl (callF PF 60 (d + 9)) 57).S tb (Ev sc k a b 2 (.m (.d o)) (.m (.l us)) (.m (.d y))) = .nx (Ev sc k a1 b1 2 (.m (.d o)) (.m (.l [.d g0, .d g1, .d o, .d g3, .d g4, .d g5])) (.m (.d (.int k8)))) :=
  runX [.a (.ok (.d (.int k8)) [pl a1 b1]), .t 0 false, .a (.ok (said m2) [.l [.d g0, .d g1, .d o, .d g3, .d g4, .d g5]])] (l := [.a 22 [.t (.l [.d g0, .d g1, .d o, .d g3, .d g4, .d g5])] (.ok (said m2) [.l [.d g0, .d g1, .d o, .d g3, .d g4, .d g5]]), .t (some (decide (2 < k8))) false, od a b 6 k8 a1 b1]) (by kernel_rfl) (fun h => nomatch h) ⟨err2 o ho, congrArg some (decide_eq_false hk), hd⟩
theorem t2old3 {us : List U} {y : W} {a b a1 b1 a2 b2 j : Int} {o w : W} (ho : o ∈ oddW 2) (hd : callF PF 60 (d + 9) 19 [.t (pl a b), .m (.d (.int 6))] = .ok (.d (.int 3)) [pl a1 b1]) (hd2 : callF PF 60 (d + 9) 19 [.t (pl a1 b1), .m (.d (.int (oddW 3).length))] = .ok (.d (.int j)) [pl a2 b2]) (hw : idxW (.lis (oddW 3)) (.int j) = some w) : (lvl (callF PF 60 (d + 9)) 57).S tb (Ev sc k a b 2 (.m (.d o)) (.m (.l us)) (.m (.d y))) = .nx (Ev sc k a2 b2 2 (.m (.d o)) (.m (.l [.d g0, .d g1, .d o, .d w, .d g4, .d g5])) (.m (.d (.int 3)))) :=
  runX [.a (.ok (.d (.int 3)) [pl a1 b1]), .k 2, .a (.ok (.d (.int j)) [pl a2 b2]), .v 0 w, .a (.ok (said m2) [.l [.d g0, .d g1, .d o, .d w, .d g4, .d g5]])] (l := [.a 22 [.t (.l [.d g0, .d g1, .d o, .d w, .d g4, .d g5])] (.ok (said m2) [.l [.d g0, .d g1, .d o, .d w, .d g4, .d g5]]), .v (idxW (.lis (oddW 3)) (.int j)) w, od a1 b1 (oddW 3).length j a2 b2, od a b 6 3 a1 b1]) (by kernel_rfl) (fun h => nomatch h) ⟨err2 o ho, hw, hd2, hd⟩
theorem t2old4 {us : List U} {y : W} {a b a1 b1 a2 b2 j : Int} {o w : W} (ho : o ∈ oddW 2) (hd : callF PF 60 (d + 9) 19 [.t (pl a b), .m (.d (.int 6))] = .ok (.d (.int 4)) [pl a1 b1]) (hd2 : callF PF 60 (d + 9) 19 [.t (pl a1 b1), .m (.d (.int (oddW 4).length))] = .ok (.d (.int j)) [pl a2 b2]) (hw : idxW (.lis (oddW 4)) (.int j) = some w) : (lvl (callF PF 60 (d + 9)) 57).S tb (Ev sc k a b 2 (.m (.d o)) (.m (.l us)) (.m (.d y))) = .nx (Ev sc k a2 b2 2 (.m (.d o)) (.m (.l [.d g0, .d g1, .d o, .d g3, .d w, .d g5])) (.m (.d (.int 4)))) :=
  runX [.a (.ok (.d (.int 4)) [pl a1 b1]), .k 2, .a (.ok (.d (.int j)) [pl a2 b2]), .v 0 w, .a (.ok (said m2) [.l [.d g0, .d g1, .d o, .d g3, .d w, .d g5]])] (l := [.a 22 [.t (.l [.d g0, .d g1, .d o, .d g3, .d w, .d g5])] (.ok (said m2) [.l [.d g0, .d g1, .d o, .d g3, .d w, .d g5]]), .v (idxW (.lis (oddW 4)) (.int j)) w, od a1 b1 (oddW 4).length j a2 b2, od a b 6 4 a1 b1]) (by kernel_rfl) (fun h => nomatch h) ⟨err2 o ho, hw, hd2, hd⟩
theorem t2old5 {us : List U} {y : W} {a b a1 b1 a2 b2 j : Int} {o w : W} (ho : o ∈ oddW 2) (hd : callF PF 60 (d + 9) 19 [.t (pl a b), .m (.d (.int 6))] = .ok (.d (.int 5)) [pl a1 b1]) (hd2 : callF PF 60 (d + 9) 19 [.t (pl a1 b1), .m (.d (.int (oddW 5).length))] = .ok (.d (.int j)) [pl a2 b2]) (hw : idxW (.lis (oddW 5)) (.int j) = some w) : (lvl (callF PF 60 (d + 9)) 57).S tb (Ev sc k a b 2 (.m (.d o)) (.m (.l us)) (.m (.d y))) = .nx (Ev sc k a2 b2 2 (.m (.d o)) (.m (.l [.d g0, .d g1, .d o, .d g3, .d g4, .d w])) (.m (.d (.int 5)))) :=
  runX [.a (.ok (.d (.int 5)) [pl a1 b1]), .k 2, .a (.ok (.d (.int j)) [pl a2 b2]), .v 0 w, .a (.ok (said m2) [.l [.d g0, .d g1, .d o, .d g3, .d g4, .d w]])] (l := [.a 22 [.t (.l [.d g0, .d g1, .d o, .d g3, .d g4, .d w])] (.ok (said m2) [.l [.d g0, .d g1, .d o, .d g3, .d g4, .d w]]), .v (idxW (.lis (oddW 5)) (.int j)) w, od a1 b1 (oddW 5).length j a2 b2, od a b 6 5 a1 b1]) (by kernel_rfl) (fun h => nomatch h) ⟨err2 o ho, hw, hd2, hd⟩
theorem t3newn {a b a1 b1 k8 : Int} {o : W} (ho : o ∈ oddW 3) (hd : callF PF 60 (d + 9) 19 [.t (pl a b), .m (.d (.int 6))] = .ok (.d (.int k8)) [pl a1 b1]) (hk : ¬ 3 < k8) : (lvl (callF PF 60 (d + 9)) 57).S tb (Ev sc k a b 3 (.m (.d o)) .no .no) = .nx (Ev sc k a1 b1 3 (.m (.d o)) (.m (.l [.d g0, .d g1, .d g2, .d o, .d g4, .d g5])) (.m (.d (.int k8)))) :=
  runX [.a (.ok (.d (.int k8)) [pl a1 b1]), .t 0 false, .a (.ok (said m3) [.l [.d g0, .d g1, .d g2, .d o, .d g4, .d g5]])] (l := [.a 22 [.t (.l [.d g0, .d g1, .d g2, .d o, .d g4, .d g5])] (.ok (said m3) [.l [.d g0, .d g1, .d g2, .d o, .d g4, .d g5]]), .t (some (decide (3 < k8))) false, od a b 6 k8 a1 b1]) (by kernel_rfl) (fun h => nomatch h) ⟨err3 o ho, congrArg some (decide_eq_false hk), hd⟩
theorem t3new4 {a b a1 b1 a2 b2 j : Int} {o w : W} (ho : o ∈ oddW 3) (hd : callF PF 60 (d + 9) 19 [.t (pl a b), .m (.d (.int 6))] = .ok (.d (.int 4)) [pl a1 b1]) (hd2 : callF PF 60 (d + 9) 19 [.t (pl a1 b1), .m (.d (.int (oddW 4).length))] = .ok (.d (.int j)) [pl a2 b2]) (hw : idxW (.lis (oddW 4)) (.int j) = some w) : (lvl (callF PF 60 (d + 9)) 57).S tb (Ev sc k a b 3 (.m (.d o)) .no .no) = .nx (Ev sc k a2 b2 3 (.m (.d o)) (.m (.l [.d g0, .d g1, .d g2, .d o, .d w, .d g5])) (.m (.d (.int 4)))) :=
  runX [.a (.ok (.d (.int 4)) [pl a1 b1]), .k 2, .a (.ok (.d (.int j)) [pl a2 b2]), .v 0 w, .a (.ok (said m3) [.l [.d g0, .d g1, .d g2, .d o, .d w, .d g5]])] (l := [.a 22 [.t (.l [.d g0, .d g1, .d g2, .d o, .d w, .d g5])] (.ok (said m3) [.l [.d g0, .d g1, .d g2, .d o, .d w, .d g5]]), .v (idxW (.lis (oddW 4)) (.int j)) w, od a1 b1 (oddW 4).length j a2 b2, od a b 6 4 a1 b1]) (by kernel_rfl) (fun h => nomatch h) ⟨err3 o ho, hw, hd2, hd⟩
theorem t3new5 {a b a1 b1 a2 b2 j : Int} {o w : W} (ho : o ∈ oddW 3) (hd : callF PF 60 (d + 9) 19 [.t (pl a b), .m (.d (.int 6))] = .ok (.d (.int 5)) [pl a1 b1]) (hd2 : callF PF 60 (d + 9) 19 [.t (pl a1 b1), .m (.d (.int (oddW 5).length))] = .ok (.d (.int j)) [pl a2 b2]) (hw : idxW (.lis (oddW 5)) (.int j) = some w) : (lvl (callF PF 60 (d + 9)) 57).S tb (Ev sc k a b 3 (.m (.d o)) .no .no) = .nx (Ev sc k a2 b2 3 (.m (.d o)) (.m (.l [.d g0, .d g1, .d g2, .d o, .d g4, .d w])) (.m (.d (.int 5)))) :=
  runX [.a (.ok (.d (.int 5)) [pl a1 b1]), .k 2, .a (.ok (.d (.int j)) [pl a2 b2]), .v 0 w, .a (.ok (said m3) [.l [.d g0, .d g1, .d g2, .d o, .d g4, .d w]])] (l := [.a 22 [.t (.l [.d g0, .d g1, .d g2, .d o, .d g4, .d w])] (.ok (said m3) [.l [.d g0, .d g1, .d g2, .d o, .d g4, .d w]]), .v (idxW (.lis (oddW 5)) (.int j)) w, od a1 b1 (oddW 5).length j a2 b2, od a b 6 5 a1 b1]) (by kernel_rfl) (fun h => nomatch h) ⟨err3 o ho, hw, hd2, hd⟩
theorem t3oldn {us : List U} {y : W} {a b a1 b1 k8 : Int} {o : W} (ho : o ∈ oddW 3) (hd : callF PF 60 (d + 9) 19 [.t (pl a b), .m (.d (.int 6))] = .ok (.d (.int k8)) [pl a1 b1]) (hk : ¬ 3 < k8) : (lvl (callF PF 60 (d + 9)) 57).S tb (Ev sc k a b 3 (.m (.d o)) (.m (.l us)) (.m (.d y))) = .nx (Ev sc k a1 b1 3 (.m (.d o)) (.m (.l [.d g0, .d g1, .d g2, .d o, .d g4, .d g5])) (.m (.d (.int k8)))) :=
  runX [.a (.ok (.d (.int k8)) [pl a1 b1]), .t 0 false, .a (.ok (said m3) [.l [.d g0, .d g1, .d g2, .d o, .d g4, .d g5]])] (l := [.a 22 [.t (.l [.d g0, .d g1, .d g2, .d o, .d g4, .d g5])] (.ok (said m3) [.l [.d g0, .d g1, .d g2, .d o, .d g4, .d g5]]), .t (some (decide (3 < k8))) false, od a b 6 k8 a1 b1]) (by kernel_rfl) (fun h => nomatch h) ⟨err3 o ho, congrArg some (decide_eq_false hk), hd⟩
theorem t3old4 {us : List U} {y : W} {a b a1 b1 a2 b2 j : Int} {o w : W} (ho : o ∈ oddW 3) (hd : callF PF 60 (d + 9) 19 [.t (pl a b), .m (.d (.int 6))] = .ok (.d (.int 4)) [pl a1 b1]) (hd2 : callF PF 60 (d + 9) 19 [.t (pl a1 b1), .m (.d (.int (oddW 4).length))] = .ok (.d (.int j)) [pl a2 b2]) (hw : idxW (.lis (oddW 4)) (.int j) = some w) : (lvl (callF PF 60 (d + 9)) 57).S tb (Ev sc k a b 3 (.m (.d o)) (.m (.l us)) (.m (.d y))) = .nx (Ev sc k a2 b2 3 (.m (.d o)) (.m (.l [.d g0, .d g1, .d g2, .d o, .d w, .d g5])) (.m (.d (.int 4)))) :=
  runX [.a (.ok (.d (.int 4)) [pl a1 b1]), .k 2, .a (.ok (.d (.int j)) [pl a2 b2]), .v 0 w, .a (.ok (said m3) [.l [.d g0, .d g1, .d g2, .d o, .d w, .d g5]])] (l := [.a 22 [.t (.l [.d g0, .d g1, .d g2, .d o, .d w, .d g5])] (.ok (said m3) [.l [.d g0, .d g1, .d g2, .d o, .d w, .d g5]]), .v (idxW (.lis (oddW 4)) (.int j)) w, od a1 b1 (oddW 4).length j a2 b2, od a b 6 4 a1 b1]) (by kernel_rfl) (fun h => nomatch h) ⟨err3 o ho, hw, hd2, hd⟩
theorem t3old5 {us : List U} {y : W} {a b a1 b1 a2 b2 j : Int} {o w : W} (ho : o ∈ oddW 3) (hd : callF PF 60 (d + 9) 19 [.t (pl a b), .m (.d (.int 6))] = .ok (.d (.int 5)) [pl a1 b1]) (hd2 : callF PF 60 (d + 9) 19 [.t (pl a1 b1), .m (.d (.int (oddW 5).length))] = .ok (.d (.int j)) [pl a2 b2]) (hw : idxW (.lis (oddW 5)) (.int j) = some w) : (lvl (callF PF 60 (d + 9)) 57).S tb (Ev sc k a b 3 (.m (.d o)) (.m (.l us)) (.m (.d y))) = .nx (Ev sc k a2 b2 3 (.m (.d o)) (.m (.l [.d g0, .d g1, .d g2, .d o, .d g4, .d w])) (.m (.d (.int 5)))) :=
  runX [.a (.ok (.d (.int 5)) [pl a1 b1]), .k 2, .a (.ok (.d (.int j)) [pl a2 b2]), .v 0 w, .a (.ok (said m3) [.l [.d g0, .d g1, .d g2, .d o, .d g4, .d w]])] (l := [.a 22 [.t (.l [.d g0, .d g1, .d g2, .d o, .d g4, .d w])] (.ok (said m3) [.l [.d g0, .d g1, .d g2, .d o, .d g4, .d w]]), .v (idxW (.lis (oddW 5)) (.int j)) w, od a1 b1 (oddW 5).length j a2 b2, od a b 6 5 a1 b1]) (by kernel_rfl) (fun h => nomatch h) ⟨err3 o ho, hw, hd2, hd⟩
theorem t4newn {a b a1 b1 k8 : Int} {o : W} (ho : o ∈ oddW 4) (hd : callF PF 60 (d + 9) 19 [.t (pl a b), .m (.d (.int 6))] = .ok (.d (.int k8)) [pl a1 b1]) (hk : ¬ 4 < k8) : (lvl (callF PF 60 (d + 9)) 57).S tb (Ev sc k a b 4 (.m (.d o)) .no .no) = .nx (Ev sc k a1 b1 4 (.m (.d o)) (.m (.l [.d g0, .d g1, .d g2, .d g3, .d o, .d g5])) (.m (.d (.int k8)))) :=
  runX [.a (.ok (.d (.int k8)) [pl a1 b1]), .t 0 false, .a (.ok (said m4) [.l [.d g0, .d g1, .d g2, .d g3, .d o, .d g5]])] (l := [.a 22 [.t (.l [.d g0, .d g1, .d g2, .d g3, .d o, .d g5])] (.ok (said m4) [.l [.d g0, .d g1, .d g2, .d g3, .d o, .d g5]]), .t (some (decide (4 < k8))) false, od a b 6 k8 a1 b1]) (by kernel_rfl) (fun h => nomatch h) ⟨err4 o ho, congrArg some (decide_eq_false hk), hd⟩
theorem t4new5 {a b a1 b1 a2 b2 j : Int} {o w : W} (ho : o ∈ oddW 4) (hd : callF PF 60 (d + 9) 19 [.t (pl a b), .m (.d (.int 6))] = .ok (.d (.int 5)) [pl a1 b1]) (hd2 : callF PF 60 (d + 9) 19 [.t (pl a1 b1), .m (.d (.int (oddW 5).length))] = .ok (.d (.int j)) [pl a2 b2]) (hw : idxW (.lis (oddW 5)) (.int j) = some w) : (lvl (callF PF 60 (d + 9)) 57).S tb (Ev sc k a b 4 (.m (.d o)) .no .no) = .nx (Ev sc k a2 b2 4 (.m (.d o)) (.m (.l [.d g0, .d g1, .d g2, .d g3, .d o, .d w])) (.m (.d (.int 5)))) :=
  runX [.a (.ok (.d (.int 5)) [pl a1 b1]), .k 2, .a (.ok (.d (.int j)) [pl a2 b2]), .v 0 w, .a (.ok (said m4) [.l [.d g0, .d g1, .d g2, .d g3, .d o, .d w]])] (l := [.a 22 [.t (.l [.d g0, .d g1, .d g2, .d g3, .d o, .d w])] (.ok (said m4) [.l [.d g0, .d g1, .d g2, .d g3, .d o, .d w]]), .v (idxW (.lis (oddW 5)) (.int j)) w, od a1 b1 (oddW 5).length j a2 b2, od a b 6 5 a1 b1]) (by kernel_rfl) (fun h => nomatch h) ⟨err4 o ho, hw, hd2, hd⟩
theorem t4oldn {us : List U} {y : W} {a b a1 b1 k8 : Int} {o : W} (ho : o ∈ oddW 4) (hd : callF PF 60 (d + 9) 19 [.t (pl a b), .m (.d (.int 6))] = .ok (.d (.int k8)) [pl a1 b1]) (hk : ¬ 4 < k8) : (lvl (callF PF 60 (d + 9)) 57).S tb (Ev sc k a b 4 (.m (.d o)) (.m (.l us)) (.m (.d y))) = .nx (Ev sc k a1 b1 4 (.m (.d o)) (.m (.l [.d g0, .d g1, .d g2, .d g3, .d o, .d g5])) (.m (.d (.int k8)))) :=
  runX [.a (.ok (.d (.int k8)) [pl a1 b1]), .t 0 false, .a (.ok (said m4) [.l [.d g0, .d g1, .d g2, .d g3, .d o, .d g5]])] (l := [.a 22 [.t (.l [.d g0, .d g1, .d g2, .d g3, .d o, .d g5])] (.ok (said m4) [.l [.d g0, .d g1, .d g2, .d g3, .d o, .d g5]]), .t (some (decide (4 < k8))) false, od a b 6 k8 a1 b1]) (by kernel_rfl) (fun h => nomatch h) ⟨err4 o ho, congrArg some (decide_eq_false hk), hd⟩
theorem t4old5 {us : List U} {y : W} {a b a1 b1 a2 b2 j : Int} {o w : W} (ho : o ∈ oddW 4) (hd : callF PF 60 (d + 9) 19 [.t (pl a b), .m (.d (.int 6))] = .ok (.d (.int 5)) [pl a1 b1]) (hd2 : callF PF 60 (d + 9) 19 [.t (pl a1 b1), .m (.d (.int (oddW 5).length))] = .ok (.d (.int j)) [pl a2 b2]) (hw : idxW (.lis (oddW 5)) (.int j) = some w) : (lvl (callF PF 60 (d + 9)) 57).S tb (Ev sc k a b 4 (.m (.d o)) (.m (.l us)) (.m (.d y))) = .nx (Ev sc k a2 b2 4 (.m (.d o)) (.m (.l [.d g0, .d g1, .d g2, .d g3, .d o, .d w])) (.m (.d (.int 5)))) :=
  runX [.a (.ok (.d (.int 5)) [pl a1 b1]), .k 2, .a (.ok (.d (.int j)) [pl a2 b2]), .v 0 w, .a (.ok (said m4) [.l [.d g0, .d g1, .d g2, .d g3, .d o, .d w]])] (l := [.a 22 [.t (.l [.d g0, .d g1, .d g2, .d g3, .d o, .d w])] (.ok (said m4) [.l [.d g0, .d g1, .d g2, .d g3, .d o, .d w]]), .v (idxW (.lis (oddW 5)) (.int j)) w, od a1 b1 (oddW 5).length j a2 b2, od a b 6 5 a1 b1]) (by kernel_rfl) (fun h => nomatch h) ⟨err4 o ho, hw, hd2, hd⟩
theorem t5newn {a b a1 b1 k8 : Int} {o : W} (ho : o ∈ oddW 5) (hd : callF PF 60 (d + 9) 19 [.t (pl a b), .m (.d (.int 6))] = .ok (.d (.int k8)) [pl a1 b1]) (hk : ¬ 5 < k8) : (lvl (callF PF 60 (d + 9)) 57).S tb (Ev sc k a b 5 (.m (.d o)) .no .no) = .nx (Ev sc k a1 b1 5 (.m (.d o)) (.m (.l [.d g0, .d g1, .d g2, .d g3, .d g4, .d o])) (.m (.d (.int k8)))) :=
  runX [.a (.ok (.d (.int k8)) [pl a1 b1]), .t 0 false, .a (.ok (said m5) [.l [.d g0, .d g1, .d g2, .d g3, .d g4, .d o]])] (l := [.a 22 [.t (.l [.d g0, .d g1, .d g2, .d g3, .d g4, .d o])] (.ok (said m5) [.l [.d g0, .d g1, .d g2, .d g3, .d g4, .d o]]), .t (some (decide (5 < k8))) false, od a b 6 k8 a1 b1]) (by kernel_rfl) (fun h => nomatch h) ⟨err5 o ho, congrArg some (decide_eq_false hk), hd⟩
theorem t5oldn {us : List U} {y : W} {a b a1 b1 k8 : Int} {o : W} (ho : o ∈ oddW 5) (hd : callF PF 60 (d + 9) 19 [.t (pl a b), .m (.d (.int 6))] = .ok (.d (.int k8)) [pl a1 b1]) (hk : ¬ 5 < k8) : (lvl (callF PF 60 (d + 9)) 57).S tb (Ev sc k a b 5 (.m (.d o)) (.m (.l us)) (.m (.d y))) = .nx (Ev sc k a1 b1 5 (.m (.d o)) (.m (.l [.d g0, .d g1, .d g2, .d g3, .d g4, .d o])) (.m (.d (.int k8)))) :=
  runX [.a (.ok (.d (.int k8)) [pl a1 b1]), .t 0 false, .a (.ok (said m5) [.l [.d g0, .d g1, .d g2, .d g3, .d g4, .d o]])] (l := [.a 22 [.t (.l [.d g0, .d g1, .d g2, .d g3, .d g4, .d o])] (.ok (said m5) [.l [.d g0, .d g1, .d g2, .d g3, .d g4, .d o]]), .t (some (decide (5 < k8))) false, od a b 6 k8 a1 b1]) (by kernel_rfl) (fun h => nomatch h) ⟨err5 o ho, congrArg some (decide_eq_false hk), hd⟩
theorem draw (hp : POk a b) {n : Int} (hn : 0 < n) (hn2 : n < 1000) : ∃ k a' b', callF PF 60 (d + 9) 19 [.t (pl a b), .m (.d (.int n))] = .ok (.d (.int k)) [pl a' b'] ∧ 0 ≤ k ∧ k < n ∧ POk a' b' := by
  obtain ⟨u, os, h, k, a', b', rfl, rfl, h1, h2, h3⟩ := draw_ok (P := PF) (dr := 19) rfl (d := d + 8) hp hn (by omega)
  exact ⟨k, a', b', h, h1, h2, h3⟩
theorem turn0 {o : W} (ho : o ∈ oddW 0) {r : Env} (h : Sh sc k 0 r) : ∃ r2 r3, bindG (.nm 6) o r = some r2 ∧ (lvl (callF PF 60 (d + 9)) 57).S tb r2 = .nx r3 ∧ Sh sc k 0 r3 := by
  cases h with
  | new a b hp =>
    obtain ⟨k8, a1, b1, hd, h0, h1, hp1⟩ := draw (d := d) hp (n := 6) (by decide) (by decide)
    by_cases hk : (0 : Int) < k8
    · rcases (show k8 = 1 ∨ k8 = 2 ∨ k8 = 3 ∨ k8 = 4 ∨ k8 = 5 by omega) with rfl | rfl | rfl | rfl | rfl
      · obtain ⟨j, a2, b2, hd2, j0, j1, hp2⟩ := draw (d := d) hp1 (n := (oddW 1).length) (by decide +kernel) (by decide +kernel)
        obtain ⟨w, hw⟩ := idx_at j0 j1
        exact ⟨_, _, rfl, t0new1 ho hd hd2 hw, .old _ _ _ _ _ hp2⟩
      · obtain ⟨j, a2, b2, hd2, j0, j1, hp2⟩ := draw (d := d) hp1 (n := (oddW 2).length) (by decide +kernel) (by decide +kernel)
        obtain ⟨w, hw⟩ := idx_at j0 j1
        exact ⟨_, _, rfl, t0new2 ho hd hd2 hw, .old _ _ _ _ _ hp2⟩
      · obtain ⟨j, a2, b2, hd2, j0, j1, hp2⟩ := draw (d := d) hp1 (n := (oddW 3).length) (by decide +kernel) (by decide +kernel)
        obtain ⟨w, hw⟩ := idx_at j0 j1
        exact ⟨_, _, rfl, t0new3 ho hd hd2 hw, .old _ _ _ _ _ hp2⟩
      · obtain ⟨j, a2, b2, hd2, j0, j1, hp2⟩ := draw (d := d) hp1 (n := (oddW 4).length) (by decide +kernel) (by decide +kernel)
        obtain ⟨w, hw⟩ := idx_at j0 j1
        exact ⟨_, _, rfl, t0new4 ho hd hd2 hw, .old _ _ _ _ _ hp2⟩
      · obtain ⟨j, a2, b2, hd2, j0, j1, hp2⟩ := draw (d := d) hp1 (n := (oddW 5).length) (by decide +kernel) (by decide +kernel)
        obtain ⟨w, hw⟩ := idx_at j0 j1
        exact ⟨_, _, rfl, t0new5 ho hd hd2 hw, .old _ _ _ _ _ hp2⟩
    · exact ⟨_, _, rfl, t0newn ho hd hk, .old _ _ _ _ _ hp1⟩
  | old a b x us y hp =>
    obtain ⟨k8, a1, b1, hd, h0, h1, hp1⟩ := draw (d := d) hp (n := 6) (by decide) (by decide)
    by_cases hk : (0 : Int) < k8
    · rcases (show k8 = 1 ∨ k8 = 2 ∨ k8 = 3 ∨ k8 = 4 ∨ k8 = 5 by omega) with rfl | rfl | rfl | rfl | rfl
      · obtain ⟨j, a2, b2, hd2, j0, j1, hp2⟩ := draw (d := d) hp1 (n := (oddW 1).length) (by decide +kernel) (by decide +kernel)
        obtain ⟨w, hw⟩ := idx_at j0 j1
        exact ⟨_, _, rfl, t0old1 ho hd hd2 hw, .old _ _ _ _ _ hp2⟩
      · obtain ⟨j, a2, b2, hd2, j0, j1, hp2⟩ := draw (d := d) hp1 (n := (oddW 2).length) (by decide +kernel) (by decide +kernel)
        obtain ⟨w, hw⟩ := idx_at j0 j1
        exact ⟨_, _, rfl, t0old2 ho hd hd2 hw, .old _ _ _ _ _ hp2⟩
      · obtain ⟨j, a2, b2, hd2, j0, j1, hp2⟩ := draw (d := d) hp1 (n := (oddW 3).length) (by decide +kernel) (by decide +kernel)
        obtain ⟨w, hw⟩ := idx_at j0 j1
        exact ⟨_, _, rfl, t0old3 ho hd hd2 hw, .old _ _ _ _ _ hp2⟩
      · obtain ⟨j, a2, b2, hd2, j0, j1, hp2⟩ := draw (d := d) hp1 (n := (oddW 4).length) (by decide +kernel) (by decide +kernel)
        obtain ⟨w, hw⟩ := idx_at j0 j1
        exact ⟨_, _, rfl, t0old4 ho hd hd2 hw, .old _ _ _ _ _ hp2⟩
      · obtain ⟨j, a2, b2, hd2, j0, j1, hp2⟩ := draw (d := d) hp1 (n := (oddW 5).length) (by decide +kernel) (by decide +kernel)
        obtain ⟨w, hw⟩ := idx_at j0 j1
        exact ⟨_, _, rfl, t0old5 ho hd hd2 hw, .old _ _ _ _ _ hp2⟩
    · exact ⟨_, _, rfl, t0oldn ho hd hk, .old _ _ _ _ _ hp1⟩
theorem turn1 {o : W} (ho : o ∈ oddW 1) {r : Env} (h : Sh sc k 1 r) : ∃ r2 r3, bindG (.nm 6) o r = some r2 ∧ (lvl (callF PF 60 (d + 9)) 57).S tb r2 = .nx r3 ∧ Sh sc k 1 r3 := by
  cases h with
  | new a b hp =>
    obtain ⟨k8, a1, b1, hd, h0, h1, hp1⟩ := draw (d := d) hp (n := 6) (by decide) (by decide)
    by_cases hk : (1 : Int) < k8
    · rcases (show k8 = 2 ∨ k8 = 3 ∨ k8 = 4 ∨ k8 = 5 by omega) with rfl | rfl | rfl | rfl
      · obtain ⟨j, a2, b2, hd2, j0, j1, hp2⟩ := draw (d := d) hp1 (n := (oddW 2).length) (by decide +kernel) (by decide +kernel)
        obtain ⟨w, hw⟩ := idx_at j0 j1
        exact ⟨_, _, rfl, t1new2 ho hd hd2 hw, .old _ _ _ _ _ hp2⟩
      · obtain ⟨j, a2, b2, hd2, j0, j1, hp2⟩ := draw (d := d) hp1 (n := (oddW 3).length) (by decide +kernel) (by decide +kernel)
        obtain ⟨w, hw⟩ := idx_at j0 j1
        exact ⟨_, _, rfl, t1new3 ho hd hd2 hw, .old _ _ _ _ _ hp2⟩
      · obtain ⟨j, a2, b2, hd2, j0, j1, hp2⟩ := draw (d := d) hp1 (n := (oddW 4).length) (by decide +kernel) (by decide +kernel)
        obtain ⟨w, hw⟩ := idx_at j0 j1
        exact ⟨_, _, rfl, t1new4 ho hd hd2 hw, .old _ _ _ _ _ hp2⟩
      · obtain ⟨j, a2, b2, hd2, j0, j1, hp2⟩ := draw (d := d) hp1 (n := (oddW 5).length) (by decide +kernel) (by decide +kernel)
        obtain ⟨w, hw⟩ := idx_at j0 j1
        exact ⟨_, _, rfl, t1new5 ho hd hd2 hw, .old _ _ _ _ _ hp2⟩
    · exact ⟨_, _, rfl, t1newn ho hd hk, .old _ _ _ _ _ hp1⟩
  | old a b x us y hp =>
    obtain ⟨k8, a1, b1, hd, h0, h1, hp1⟩ := draw (d := d) hp (n := 6) (by decide) (by decide)
    by_cases hk : (1 : Int) < k8
    · rcases (show k8 = 2 ∨ k8 = 3 ∨ k8 = 4 ∨ k8 = 5 by omega) with rfl | rfl | rfl | rfl
      · obtain ⟨j, a2, b2, hd2, j0, j1, hp2⟩ := draw (d := d) hp1 (n := (oddW 2).length) (by decide +kernel) (by decide +kernel)
        obtain ⟨w, hw⟩ := idx_at j0 j1
        exact ⟨_, _, rfl, t1old2 ho hd hd2 hw, .old _ _ _ _ _ hp2⟩
      · obtain ⟨j, a2, b2, hd2, j0, j1, hp2⟩ := draw (d := d) hp1 (n := (oddW 3).length) (by decide +kernel) (by decide +kernel)
        obtain ⟨w, hw⟩ := idx_at j0 j1
        exact ⟨_, _, rfl, t1old3 ho hd hd2 hw, .old _ _ _ _ _ hp2⟩
      · obtain ⟨j, a2, b2, hd2, j0, j1, hp2⟩ := draw (d := d) hp1 (n := (oddW 4).length) (by decide +kernel) (by decide +kernel)
        obtain ⟨w, hw⟩ := idx_at j0 j1
        exact ⟨_, _, rfl, t1old4 ho hd hd2 hw, .old _ _ _ _ _ hp2⟩
      · obtain ⟨j, a2, b2, hd2, j0, j1, hp2⟩ := draw (d := d) hp1 (n := (oddW 5).length) (by decide +kernel) (by decide +kernel)
        obtain ⟨w, hw⟩ := idx_at j0 j1
        exact ⟨_, _, rfl, t1old5 ho hd hd2 hw, .old _ _ _ _ _ hp2⟩
    · exact ⟨_, _, rfl, t1oldn ho hd hk, .old _ _ _ _ _ hp1⟩
theorem turn2 {o : W} (ho : o ∈ oddW 2) {r : Env} (h : Sh sc k 2 r) : ∃ r2 r3, bindG (.nm 6) o r = some r2 ∧ (lvl (callF PF 60 (d + 9)) 57).S tb r2 = .nx r3 ∧ Sh sc k 2 r3 := by
  cases h with
  | new a b hp =>
    obtain ⟨k8, a1, b1, hd, h0, h1, hp1⟩ := draw (d := d) hp (n := 6) (by decide) (by decide)
    by_cases hk : (2 : Int) < k8
    · rcases (show k8 = 3 ∨ k8 = 4 ∨ k8 = 5 by omega) with rfl | rfl | rfl
      · obtain ⟨j, a2, b2, hd2, j0, j1, hp2⟩ := draw (d := d) hp1 (n := (oddW 3).length) (by decide +kernel) (by decide +kernel)
        obtain ⟨w, hw⟩ := idx_at j0 j1
        exact ⟨_, _, rfl, t2new3 ho hd hd2 hw, .old _ _ _ _ _ hp2⟩
      · obtain ⟨j, a2, b2, hd2, j0, j1, hp2⟩ := draw (d := d) hp1 (n := (oddW 4).length) (by decide +kernel) (by decide +kernel)
        obtain ⟨w, hw⟩ := idx_at j0 j1
        exact ⟨_, _, rfl, t2new4 ho hd hd2 hw, .old _ _ _ _ _ hp2⟩
      · obtain ⟨j, a2, b2, hd2, j0, j1, hp2⟩ := draw (d := d) hp1 (n := (oddW 5).length) (by decide +kernel) (by decide +kernel)
        obtain ⟨w, hw⟩ := idx_at j0 j1
        exact ⟨_, _, rfl, t2new5 ho hd hd2 hw, .old _ _ _ _ _ hp2⟩
    · exact ⟨_, _, rfl, t2newn ho hd hk, .old _ _ _ _ _ hp1⟩
  | old a b x us y hp =>
    obtain ⟨k8, a1, b1, hd, h0, h1, hp1⟩ := draw (d := d) hp (n := 6) (by decide) (by decide)
    by_cases hk : (2 : Int) < k8
    · rcases (show k8 = 3 ∨ k8 = 4 ∨ k8 = 5 by omega) with rfl | rfl | rfl
      · obtain ⟨j, a2, b2, hd2, j0, j1, hp2⟩ := draw (d := d) hp1 (n := (oddW 3).length) (by decide +kernel) (by decide +kernel)
        obtain ⟨w, hw⟩ := idx_at j0 j1
        exact ⟨_, _, rfl, t2old3 ho hd hd2 hw, .old _ _ _ _ _ hp2⟩
      · obtain ⟨j, a2, b2, hd2, j0, j1, hp2⟩ := draw (d := d) hp1 (n := (oddW 4).length) (by decide +kernel) (by decide +kernel)
        obtain ⟨w, hw⟩ := idx_at j0 j1
        exact ⟨_, _, rfl, t2old4 ho hd hd2 hw, .old _ _ _ _ _ hp2⟩
      · obtain ⟨j, a2, b2, hd2, j0, j1, hp2⟩ := draw (d := d) hp1 (n := (oddW 5).length) (by decide +kernel) (by decide +kernel)
        obtain ⟨w, hw⟩ := idx_at j0 j1
        exact ⟨_, _, rfl, t2old5 ho hd hd2 hw, .old _ _ _ _ _ hp2⟩
    · exact ⟨_, _, rfl, t2oldn ho hd hk, .old _ _ _ _ _ hp1⟩
theorem turn3 {o : W} (ho : o ∈ oddW 3) {r : Env} (h : Sh sc k 3 r) : ∃ r2 r3, bindG (.nm 6) o r = some r2 ∧ (lvl (callF PF 60 (d + 9)) 57).S tb r2 = .nx r3 ∧ Sh sc k 3 r3 := by
  cases h with
  | new a b hp =>
    obtain ⟨k8, a1, b1, hd, h0, h1, hp1⟩ := draw (d := d) hp (n := 6) (by decide) (by decide)
    by_cases hk : (3 : Int) < k8
    · rcases (show k8 = 4 ∨ k8 = 5 by omega) with rfl | rfl
      · obtain ⟨j, a2, b2, hd2, j0, j1, hp2⟩ := draw (d := d) hp1 (n := (oddW 4).length) (by decide +kernel) (by decide +kernel)
        obtain ⟨w, hw⟩ := idx_at j0 j1
        exact ⟨_, _, rfl, t3new4 ho hd hd2 hw, .old _ _ _ _ _ hp2⟩
      · obtain ⟨j, a2, b2, hd2, j0, j1, hp2⟩ := draw (d := d) hp1 (n := (oddW 5).length) (by decide +kernel) (by decide +kernel)
        obtain ⟨w, hw⟩ := idx_at j0 j1
        exact ⟨_, _, rfl, t3new5 ho hd hd2 hw, .old _ _ _ _ _ hp2⟩
    · exact ⟨_, _, rfl, t3newn ho hd hk, .old _ _ _ _ _ hp1⟩
  | old a b x us y hp =>
    obtain ⟨k8, a1, b1, hd, h0, h1, hp1⟩ := draw (d := d) hp (n := 6) (by decide) (by decide)
    by_cases hk : (3 : Int) < k8
    · rcases (show k8 = 4 ∨ k8 = 5 by omega) with rfl | rfl
      · obtain ⟨j, a2, b2, hd2, j0, j1, hp2⟩ := draw (d := d) hp1 (n := (oddW 4).length) (by decide +kernel) (by decide +kernel)
        obtain ⟨w, hw⟩ := idx_at j0 j1
        exact ⟨_, _, rfl, t3old4 ho hd hd2 hw, .old _ _ _ _ _ hp2⟩
      · obtain ⟨j, a2, b2, hd2, j0, j1, hp2⟩ := draw (d := d) hp1 (n := (oddW 5).length) (by decide +kernel) (by decide +kernel)
        obtain ⟨w, hw⟩ := idx_at j0 j1
        exact ⟨_, _, rfl, t3old5 ho hd hd2 hw, .old _ _ _ _ _ hp2⟩
    · exact ⟨_, _, rfl, t3oldn ho hd hk, .old _ _ _ _ _ hp1⟩
theorem turn4 {o : W} (ho : o ∈ oddW 4) {r : Env} (h : Sh sc k 4 r) : ∃ r2 r3, bindG (.nm 6) o r = some r2 ∧ (lvl (callF PF 60 (d + 9)) 57).S tb r2 = .nx r3 ∧ Sh sc k 4 r3 := by
  cases h with
  | new a b hp =>
    obtain ⟨k8, a1, b1, hd, h0, h1, hp1⟩ := draw (d := d) hp (n := 6) (by decide) (by decide)
    by_cases hk : (4 : Int) < k8
    · rcases (show k8 = 5 by omega) with rfl
      · obtain ⟨j, a2, b2, hd2, j0, j1, hp2⟩ := draw (d := d) hp1 (n := (oddW 5).length) (by decide +kernel) (by decide +kernel)
        obtain ⟨w, hw⟩ := idx_at j0 j1
        exact ⟨_, _, rfl, t4new5 ho hd hd2 hw, .old _ _ _ _ _ hp2⟩
    · exact ⟨_, _, rfl, t4newn ho hd hk, .old _ _ _ _ _ hp1⟩
  | old a b x us y hp =>
    obtain ⟨k8, a1, b1, hd, h0, h1, hp1⟩ := draw (d := d) hp (n := 6) (by decide) (by decide)
    by_cases hk : (4 : Int) < k8
    · rcases (show k8 = 5 by omega) with rfl
      · obtain ⟨j, a2, b2, hd2, j0, j1, hp2⟩ := draw (d := d) hp1 (n := (oddW 5).length) (by decide +kernel) (by decide +kernel)
        obtain ⟨w, hw⟩ := idx_at j0 j1
        exact ⟨_, _, rfl, t4old5 ho hd hd2 hw, .old _ _ _ _ _ hp2⟩
    · exact ⟨_, _, rfl, t4oldn ho hd hk, .old _ _ _ _ _ hp1⟩
theorem turn5 {o : W} (ho : o ∈ oddW 5) {r : Env} (h : Sh sc k 5 r) : ∃ r2 r3, bindG (.nm 6) o r = some r2 ∧ (lvl (callF PF 60 (d + 9)) 57).S tb r2 = .nx r3 ∧ Sh sc k 5 r3 := by
  cases h with
  | new a b hp =>
    obtain ⟨k8, a1, b1, hd, h0, h1, hp1⟩ := draw (d := d) hp (n := 6) (by decide) (by decide)
    by_cases hk : (5 : Int) < k8
    · omega
    · exact ⟨_, _, rfl, t5newn ho hd hk, .old _ _ _ _ _ hp1⟩
  | old a b x us y hp =>
    obtain ⟨k8, a1, b1, hd, h0, h1, hp1⟩ := draw (d := d) hp (n := 6) (by decide) (by decide)
    by_cases hk : (5 : Int) < k8
    · omega
    · exact ⟨_, _, rfl, t5oldn ho hd hk, .old _ _ _ _ _ hp1⟩
end
end K04


set_option linter.all false
set_option maxRecDepth 100000
set_option maxHeartbeats 4000000
namespace K04
open FM FL
section
variable {d : Nat} {sc k : W}
/-- between two parts -/
def At (sc k : W) (r : Env) : Prop := (∃ a b, POk a b ∧ r = [.m (.d sc), .m (.d nms), .m (.d good), .m (.d k), .m (pl a b), .no, .no, .no, .no]) ∨ ∃ x, Sh sc k x r
theorem at_set {r : Env} {x : Int} (h : At sc k r) : ∃ r2, bindG (.nm 5) (.int x) r = some r2 ∧ Sh sc k x r2 := by
  rcases h with ⟨a, b, hp, rfl⟩ | ⟨y, h⟩
  · exact ⟨_, rfl, .new a b hp⟩
  · cases h with
    | new a b hp => exact ⟨_, rfl, .new a b hp⟩
    | old a b x us y hp => exact ⟨_, rfl, .old a b x us y hp⟩
theorem turnA {n : Nat} (hn : n < 6) {o : W} (ho : o ∈ oddW n) {r : Env} (h : Sh sc k n r) : ∃ r2 r3, bindG (.nm 6) o r = some r2 ∧ (lvl (callF PF 60 (d + 9)) 57).S tb r2 = .nx r3 ∧ Sh sc k n r3 := by
  rcases (show n = 0 ∨ n = 1 ∨ n = 2 ∨ n = 3 ∨ n = 4 ∨ n = 5 by omega) with rfl | rfl | rfl | rfl | rfl | rfl
  · exact turn0 ho h
  · exact turn1 ho h
  · exact turn2 ho h
  · exact turn3 ho h
  · exact turn4 ho h
  · exact turn5 ho h
theorem odd_i {n : Nat} (hn : n < 6) {r : Env} (h : Sh sc k n r) : stepI (lvl (callF PF 60 (d + 9)) 57) (.v (.u (.call 21 [.d (.var 5)]))) r = .ok ⟨oddW n, []⟩ r := by
  rcases (show n = 0 ∨ n = 1 ∨ n = 2 ∨ n = 3 ∨ n = 4 ∨ n = 5 by omega) with rfl | rfl | rfl | rfl | rfl | rfl
  all_goals cases h <;> kernel_rfl
/-- one part: all that may be wrong there -/
theorem part {n : Nat} (hn : n < 6) {r : Env} (h : Sh sc k n r) : ∃ r', (lvl (callF PF 60 (d + 9)) 58).S [.for (.nm 6) (.v (.u (.call 21 [.d (.var 5)]))) tb] r = .nx r' ∧ At sc k r' := by
  obtain ⟨r', h1, h2⟩ := for_nx (s := lvl (callF PF 60 (d + 9)) 57) (g := .nm 6) (body := tb) (odd_i (d := d) hn h) (fun _ r => Sh sc k n r) h (fun j w r hj h => turnA hn (List.mem_of_getElem? hj) h)
  exact ⟨r', by rw [S_single]; exact h1, .inr ⟨_, h2⟩⟩
theorem parts_ok {r : Env} (h : At sc k r) : ∃ r', stepS (lvl (callF PF 60 (d + 9)) 58) (.for (.nm 5) (.rng (.cst (.int 6))) [.for (.nm 6) (.v (.u (.call 21 [.d (.var 5)]))) tb]) r = .nx r' ∧ At sc k r' := by
  obtain ⟨r', h1, h2⟩ := for_nx (s := lvl (callF PF 60 (d + 9)) 58) (g := .nm 5) (body := [.for (.nm 6) (.v (.u (.call 21 [.d (.var 5)]))) tb]) (r := r) (ws := iota 0 6) (r1 := r) (it := .rng (.cst (.int 6))) rfl (fun _ r => At sc k r) h (fun j w r hj h => by
    obtain ⟨rfl, hj2⟩ := iota_at hj
    rw [Int.zero_add]
    obtain ⟨r2, e, h2⟩ := at_set (x := j) h
    obtain ⟨r3, e3, h3⟩ := part (d := d) hj2 h2
    exact ⟨r2, r3, e, e3, h3⟩)
  exact ⟨r', h1, h2⟩
def kb : List IS := [.own 4 (.call 18 [.d (.var 0), .d (.var 3)]),
    .asg (.nm 2) (.frz (.lst [.cst (.str [112, 97, 121]), .tup [.cst (.str [112]), .cst (.str [113])], .tup [.tup [.cst (.str [114, 101, 97, 100]), .tup [.cst (.str [97]), .cst (.str [112])], .cst (.str [120])], .tup [.cst (.str [97, 100, 100]), .tup [.cst (.str [98]), .cst (.str [113])], .tup [.cst (.str [115, 117, 109]), .cst (.int 0), .tup [.tup [.cst (.int 1), .cst (.str [120])]]]]], .tup [.tup [.cst (.str [112]), .cst (.str [113])]], .cst (.bl false), .cst (.bl true)])),
    .ifs (.or [.cmp .isn (.u (.call 22 [.d (.var 2)])) (.e (.cst (.non))), .not (.val (.frz (.call 23 [.r 4])))]) [.ret (.d (.cst (.bl false)))] [],
    .for (.nm 5) (.rng (.cst (.int 6))) [.for (.nm 6) (.v (.u (.call 21 [.d (.var 5)]))) tb]]
def Out (sc : W) (r : Env) : Prop := r = [.m (.d sc), .m (.d nms), .m (.d .non), .no, .no, .no, .no, .no, .no] ∨ ∃ k, At sc k r
theorem round {r : Env} {a b : Int} (h : Out sc r) (hp : POk a b) (hc : callF PF 60 (d + 9) 18 [.m (.d sc), .m (.d k)] = .ok (pl a b) []) : ∃ r2 r3, bindG (.nm 3) k r = some r2 ∧ (lvl (callF PF 60 (d + 9)) 59).S kb r2 = .nx r3 ∧ Out sc r3 := by
  have go2 : ∀ (r2 r3 : Env) (e : At sc k r3), (∀ r4, (fun z : SX => (z.1, z.2.lg)) ((lvlX (callF PF 60 (d + 9)) 59).S kb r2 ⟨[.a (.ok (pl a b) []), .a (.ok (.d .non) []), .a (.ok (.d (.bl true)) [pl a b]), .lp 0 (.nx r4)], []⟩) = (.nx r4, [.lp (stepS (lvl (callF PF 60 (d + 9)) 58) (.for (.nm 5) (.rng (.cst (.int 6))) [.for (.nm 6) (.v (.u (.call 21 [.d (.var 5)]))) tb]) r3) (.nx r4), .a 23 [.t (pl a b)] (.ok (.d (.bl true)) [pl a b]), .a 22 [.m (.d good)] (.ok (.d .non) []), .a 18 [.m (.d sc), .m (.d k)] (.ok (pl a b) [])])) → ∃ r5, (lvl (callF PF 60 (d + 9)) 59).S kb r2 = .nx r5 ∧ Out sc r5 := fun r2 r3 e h => by
    obtain ⟨r4, h1, h2⟩ := parts_ok (d := d) e
    exact ⟨r4, runX _ (h r4) (fun h => nomatch h) ⟨h1, great_y, good_y, hc⟩, .inr ⟨k, h2⟩⟩
  rcases h with rfl | ⟨k', ⟨a', b', hp', rfl⟩ | ⟨x, h⟩⟩
  · obtain ⟨r5, h1, h2⟩ := go2 [.m (.d sc), .m (.d nms), .m (.d .non), .m (.d k), .no, .no, .no, .no, .no] _ (.inl ⟨a, b, hp, rfl⟩) (fun r4 => by kernel_rfl)
    exact ⟨_, r5, rfl, h1, h2⟩
  · obtain ⟨r5, h1, h2⟩ := go2 [.m (.d sc), .m (.d nms), .m (.d good), .m (.d k), .m (pl a' b'), .no, .no, .no, .no] _ (.inl ⟨a, b, hp, rfl⟩) (fun r4 => by kernel_rfl)
    exact ⟨_, r5, rfl, h1, h2⟩
  · cases h with
    | new a' b' hp' =>
      obtain ⟨r5, h1, h2⟩ := go2 (Ev sc k a' b' x .no .no .no) _ (.inr ⟨x, .new a b hp⟩) (fun r4 => by kernel_rfl)
      exact ⟨_, r5, rfl, h1, h2⟩
    | old a' b' x' us y hp' =>
      obtain ⟨r5, h1, h2⟩ := go2 (Ev sc k a' b' x (.m (.d x')) (.m (.l us)) (.m (.d y))) _ (.inr ⟨x, .old a b x' us y hp⟩) (fun r4 => by kernel_rfl)
      exact ⟨_, r5, rfl, h1, h2⟩
theorem out_val {r : Env} (h : Out sc r) : (SRes.rt (.d (.bl true)) r).val [.m (.d sc)] = .ok (.d (.bl true)) [] := by
  rcases h with rfl | ⟨k', ⟨a', b', hp', rfl⟩ | ⟨x, h⟩⟩
  · rfl
  · rfl
  · cases h <;> rfl
theorem law_y (ns : List Int) : callF PF 60 (d + 10) 24 [.m (.d (.scr (ns.map W.int)))] = .ok (.d (.bl true)) [] := by
  obtain ⟨r', h1, h2⟩ := for_nx (s := lvl (callF PF 60 (d + 9)) 59) (g := .nm 3) (body := kb)
    (r := [.m (.d (.scr (ns.map W.int))), .m (.d nms), .m (.d .non), .no, .no, .no, .no, .no, .no]) (rng_rounds (k := 51) (m := 8) (by decide) (by decide)) (fun _ r => Out (.scr (ns.map W.int)) r) (.inl rfl) (fun j w r hj ho => by
      obtain ⟨rfl, hj2⟩ := iota_at hj
      rw [Int.zero_add]
      have hj3 : (j : Int) < 100 := by
        have := (rounds_le (m := 8) (n := (ns.map W.int).length) (by decide)).2
        omega
      obtain ⟨u, os, hc, a, b, rfl, rfl, hp⟩ := pool_ok (P := PF) (dr := 18) rfl (d := d + 8) (ns := ns) (k := j) (by omega) hj3
      exact round ho hp hc)
  refine call_eq (x := .rt (.d (.bl true)) r') (fd := fd_law_K04 N) rfl rfl ?_ (out_val h2)
  have e0 : stepS (lvl (callF PF 60 (d + 9)) 59) (.par 1 2 (.frz (.lst [.cst (.str [110, 97, 109, 101]), .cst (.str [112, 97, 114, 97, 109, 101, 116, 101, 114, 115]), .cst (.str [115, 116, 101, 112, 115]), .cst (.str [117, 110, 108, 105, 107, 101]), .cst (.str [98, 97, 99, 107, 115]), .cst (.str [97, 108, 111, 110, 101])])) (.cst (.non))) [.m (.d (.scr (ns.map W.int))), .no, .no, .no, .no, .no, .no, .no, .no] = .nx [.m (.d (.scr (ns.map W.int))), .m (.d nms), .m (.d .non), .no, .no, .no, .no, .no, .no] := by kernel_rfl
  exact (S_nx e0).trans ((S_nx (sts := [.ret (.d (.cst (.bl true)))]) h1).trans rfl)
end
end K04


set_option Elab.async false
set_option linter.all false
set_option maxRecDepth 100000
set_option maxHeartbeats 0
namespace K04
open PySem L2 FM FL
def top (i : Nat) : Stmt := PySem.Challenge.pw_finestcuts_k04_kinds_that_are_refused.main.body.getD i (.Pass ⟨0, 0, 0, 0⟩)
def mem (i j : Nat) : Stmt := match top i with | .ClassDef _ _ _ body _ _ _ _ _ _ _ => body.getD j (.Pass ⟨0, 0, 0, 0⟩) | s => s
def d_is_integer : DD := ⟨.glo "is_integer", "is_integer", "is_integer", [], top 8, ["candidate"], ["candidate"], b_is_integer N⟩
def d_is_short : DD := ⟨.glo "is_short", "is_short", "is_short", [], top 9, ["candidate"], ["candidate"], b_is_short N⟩
def d_is_name : DD := ⟨.glo "is_name", "is_name", "is_name", [], top 10, ["candidate", "letter"], ["candidate"], b_is_name N⟩
def d_is_sum : DD := ⟨.glo "is_sum", "is_sum", "is_sum", [], top 13, ["value", "term", "factor", "name", "names", "one", "other"], ["value"], b_is_sum N⟩
def d_is_place : DD := ⟨.glo "is_place", "is_place", "is_place", [], top 14, ["value"], ["value"], b_is_place N⟩
def d_is_deed : DD := ⟨.glo "is_deed", "is_deed", "is_deed", [], top 15, ["value"], ["value"], b_is_deed N⟩
def d_are_chosen : DD := ⟨.glo "are_chosen", "are_chosen", "are_chosen", [], top 22, ["value", "deed"], ["value"], b_are_chosen N⟩
def d_is_step : DD := ⟨.glo "is_step", "is_step", "is_step", [], top 23, ["value"], ["value"], b_is_step N⟩
def d_rows_of : DD := ⟨.glo "rows_of", "rows_of", "rows_of", [], top 24, ["step"], ["step"], b_rows_of N⟩
def d_names_behind : DD := ⟨.glo "names_behind", "names_behind", "names_behind", [], top 25, ["deeds", "known", "parameters", "found", "word", "place", "rest", "factor", "name"], ["deeds", "known", "parameters"], b_names_behind N⟩
def d_are_steps : DD := ⟨.glo "are_steps", "are_steps", "are_steps", [], top 26, ["value", "parameters", "step", "tuple_number", "deeds", "known", "ahead", "own"], ["value", "parameters"], b_are_steps N⟩
def d_are_parameters : DD := ⟨.glo "are_parameters", "are_parameters", "are_parameters", [], top 27, ["value", "name"], ["value"], b_are_parameters N⟩
def d_is_pair : DD := ⟨.glo "is_pair", "is_pair", "is_pair", [], top 28, ["pair", "parameters"], ["pair", "parameters"], b_is_pair N⟩
def d_are_unlike : DD := ⟨.glo "are_unlike", "are_unlike", "are_unlike", [], top 29, ["value", "parameters", "most", "pair"], ["value", "parameters", "most"], b_are_unlike N⟩
def d_Kind___init__ : DD := ⟨.met "Kind" "__init__", "__init__", "Kind.__init__", [.tup [], .bl false, .bl false, .int 6], mem 31 0, ["self", "name", "parameters", "steps", "unlike", "backs", "alone", "most", "deeds", "spots", "number", "step", "tuple_number", "own"], ["self", "name", "parameters", "steps", "unlike", "backs", "alone", "most"], b_Kind___init__ N⟩
def d_Kind_unlike : DD := ⟨.prp "Kind" "unlike", "unlike", "Kind.unlike", [], mem 31 4, ["self"], ["self"], b_Kind_unlike N⟩
def d_Kind_deeds : DD := ⟨.prp "Kind" "deeds", "deeds", "Kind.deeds", [], mem 31 7, ["self"], ["self"], b_Kind_deeds N⟩
def d_Kind___len__ : DD := ⟨.met "Kind" "__len__", "__len__", "Kind.__len__", [], mem 31 12, ["self"], ["self"], b_Kind___len__ N⟩
def d__law_pool : DD := ⟨.glo "_law_pool", "_law_pool", "_law_pool", [], top 33, ["_law_script", "_law_k", "_law_cell", "_law_size", "_law_seed"], ["_law_script", "_law_k"], b__law_pool N⟩
def d__law_draw : DD := ⟨.glo "_law_draw", "_law_draw", "_law_draw", [], top 34, ["_law_pool_here", "_law_count", "_law_found"], ["_law_pool_here", "_law_count"], b__law_draw N⟩
def d__law_odd_steps : DD := ⟨.glo "_law_odd_steps", "_law_odd_steps", "_law_odd_steps", [], top 35, ["_law_one", "_law_add", "_law_found", "_law_late"], [], b__law_odd_steps N⟩
def d__law_odd : DD := ⟨.glo "_law_odd", "_law_odd", "_law_odd", [], top 36, ["_law_part", "_law_odd_here"], ["_law_part"], b__law_odd N⟩
def d__law_error : DD := ⟨.glo "_law_error", "_law_error", "_law_error", [], top 37, ["_law_parts", "e"], ["_law_parts"], b__law_error_2 N⟩
def d__law_greatest_right : DD := ⟨.glo "_law_greatest_right", "_law_greatest_right", "_law_greatest_right", [], top 38, ["_law_pool_here", "_law_add", "_law_read", "_law_both", "_law_steps", "_law_unlike", "_law_kind", "_law_number", "_law_more"], ["_law_pool_here"], b__law_greatest_right N⟩
def d_law : DD := ⟨.glo "law", "law", "law", [], top 39, ["_law_script", "_law_names", "_law_good", "_law_k", "_law_pool_here", "_law_at", "_law_odd_here", "_law_parts", "_law_later"], ["_law_script"], b_law_K04 N⟩
def DS : List DD := [d_is_integer, d_is_short, d_is_name, d_is_sum, d_is_place, d_is_deed, d_are_chosen, d_is_step, d_rows_of, d_names_behind, d_are_steps, d_are_parameters, d_is_pair, d_are_unlike, d_Kind___init__, d_Kind_unlike, d_Kind_deeds, d_Kind___len__, d__law_pool, d__law_draw, d__law_odd_steps, d__law_odd, d__law_error, d__law_greatest_right, d_law]
def x_InvalidKind : XDf := ⟨"InvalidKind", 14, 1953653104, 0, clsInit (top 3)⟩
def XS : List XDf := [x_InvalidKind]
def pg : Pg := ⟨[(("is_integer" : Str), (0 : Nat), (["candidate"] : List Str)), (("is_short" : Str), (1 : Nat), (["candidate"] : List Str)), (("is_name" : Str), (2 : Nat), (["candidate"] : List Str)), (("is_sum" : Str), (3 : Nat), (["value"] : List Str)), (("is_place" : Str), (4 : Nat), (["value"] : List Str)), (("is_deed" : Str), (5 : Nat), (["value"] : List Str)), (("are_chosen" : Str), (6 : Nat), (["value"] : List Str)), (("is_step" : Str), (7 : Nat), (["value"] : List Str)), (("rows_of" : Str), (8 : Nat), (["step"] : List Str)), (("names_behind" : Str), (9 : Nat), (["deeds", "known", "parameters"] : List Str)), (("are_steps" : Str), (10 : Nat), (["value", "parameters"] : List Str)), (("are_parameters" : Str), (11 : Nat), (["value"] : List Str)), (("is_pair" : Str), (12 : Nat), (["pair", "parameters"] : List Str)), (("are_unlike_kinds" : Str), (13 : Nat), (["value", "parameters", "most"] : List Str)), (("_law_pool" : Str), (18 : Nat), (["_law_script", "_law_k"] : List Str)), (("_law_draw" : Str), (19 : Nat), (["_law_pool_here", "_law_count"] : List Str)), (("_law_odd_steps" : Str), (20 : Nat), ([] : List Str)), (("_law_odd" : Str), (21 : Nat), (["_law_part"] : List Str)), (("_law_error" : Str), (22 : Nat), (["_law_parts"] : List Str)), (("_law_greatest_right" : Str), (23 : Nat), (["_law_pool_here"] : List Str)), (("law" : Str), (24 : Nat), (["_law_script"] : List Str))],
  [("RESERVED", .tup [.str [107, 105, 110, 100], .str [117, 110, 108, 105, 107, 101], .str [98, 97, 99, 107, 115], .str [97, 108, 111, 110, 101], .str [114, 101, 97, 100], .str [97, 100, 100], .str [114, 97, 105, 115, 101], .str [108, 111, 119, 101, 114], .str [112, 117, 116], .str [99, 104, 101, 99, 107], .str [99, 104, 111, 111, 115, 101], .str [111, 114], .str [101, 110, 100], .str [110, 111, 110, 101]]), ("MAX_LENGTH", .int 8), ("MAX_NUMBER", .int 10000000000000000000000000000000000000000000000000000000000000000000000000000000000000000000000000000), ("SUMMED", .tup [.str [97, 100, 100], .str [114, 97, 105, 115, 101], .str [108, 111, 119, 101, 114], .str [112, 117, 116]]), ("MAX_PARAMETERS", .int 4), ("MAX_STEPS", .int 8), ("MAX_CHOSEN", .int 3), ("MAX_DEEDS", .int 12), ("MAX_UNLIKE", .int 6)],
  ["abs", "all", "bool", "enumerate", "int", "isinstance", "len", "list", "max", "min", "range", "set", "str", "sum", "tuple", "zip"],
  [],
  [("InvalidKind", 14, 1953653104)],
  [(("CutError" : Str), (0 : Nat)), (("InvalidKind" : Str), (14 : Nat)), (("Kind" : Str), (40 : Nat))],
  [(14, 0, true), (14, 14, true)],
  [(14, "CutError", true)],
  [1953653104],
  [],
  [("Kind", 40, 14, 6, [.int 6]), ("Kind", 40, 14, 7, [])],
  [(40, 2129766444667608397679), (40, 2128609868334811215727), (40, 2129765616748237584239)],
  [],
  [(40, "deeds", 16), (40, "unlike", 15)],
  [(40, 17)]⟩
theorem pf : DS.map DD.fd = PF := by rfl
theorem ck : DS.all (ckD pg 60) = true := by decide +kernel
theorem hxc : pg.xc = XS.map fun x => (x.n, x.c, x.k) := by rfl
theorem sy : ∀ x ∈ XS, XSyn x := by
  intro x hx
  simp only [XS, List.mem_cons, List.not_mem_nil, or_false] at hx
  subst hx
  exact ⟨⟨_, _, rfl⟩, ⟨_, _, _, _, _, _, _, _, _, _, rfl, rfl⟩, fun _ _ _ _ _ _ _ _ _ => rfl, ⟨by decide +kernel, by decide +kernel⟩, rfl, rfl, rfl, rfl, rfl, rfl, rfl, by decide +kernel⟩
theorem bnd : Bnd pg DS where
  fns := fun _ _ _ h => by
    simp only [pg, List.mem_cons, Prod.mk.injEq, List.not_mem_nil, or_false] at h
    rcases h with ⟨rfl, rfl, rfl⟩ | ⟨rfl, rfl, rfl⟩ | ⟨rfl, rfl, rfl⟩ | ⟨rfl, rfl, rfl⟩ | ⟨rfl, rfl, rfl⟩ | ⟨rfl, rfl, rfl⟩ | ⟨rfl, rfl, rfl⟩ | ⟨rfl, rfl, rfl⟩ | ⟨rfl, rfl, rfl⟩ | ⟨rfl, rfl, rfl⟩ | ⟨rfl, rfl, rfl⟩ | ⟨rfl, rfl, rfl⟩ | ⟨rfl, rfl, rfl⟩ | ⟨rfl, rfl, rfl⟩ | ⟨rfl, rfl, rfl⟩ | ⟨rfl, rfl, rfl⟩ | ⟨rfl, rfl, rfl⟩ | ⟨rfl, rfl, rfl⟩ | ⟨rfl, rfl, rfl⟩ | ⟨rfl, rfl, rfl⟩ | ⟨rfl, rfl, rfl⟩
    · exact ⟨d_is_integer, rfl, rfl, .inl ⟨rfl, rfl, rfl, fun _ _ _ _ _ _ us hl => match us, hl with | [_], _ => rfl⟩⟩
    · exact ⟨d_is_short, rfl, rfl, .inl ⟨rfl, rfl, rfl, fun _ _ _ _ _ _ us hl => match us, hl with | [_], _ => rfl⟩⟩
    · exact ⟨d_is_name, rfl, rfl, .inl ⟨rfl, rfl, rfl, fun _ _ _ _ _ _ us hl => match us, hl with | [_], _ => rfl⟩⟩
    · exact ⟨d_is_sum, rfl, rfl, .inl ⟨rfl, rfl, rfl, fun _ _ _ _ _ _ us hl => match us, hl with | [_], _ => rfl⟩⟩
    · exact ⟨d_is_place, rfl, rfl, .inl ⟨rfl, rfl, rfl, fun _ _ _ _ _ _ us hl => match us, hl with | [_], _ => rfl⟩⟩
    · exact ⟨d_is_deed, rfl, rfl, .inl ⟨rfl, rfl, rfl, fun _ _ _ _ _ _ us hl => match us, hl with | [_], _ => rfl⟩⟩
    · exact ⟨d_are_chosen, rfl, rfl, .inl ⟨rfl, rfl, rfl, fun _ _ _ _ _ _ us hl => match us, hl with | [_], _ => rfl⟩⟩
    · exact ⟨d_is_step, rfl, rfl, .inl ⟨rfl, rfl, rfl, fun _ _ _ _ _ _ us hl => match us, hl with | [_], _ => rfl⟩⟩
    · exact ⟨d_rows_of, rfl, rfl, .inl ⟨rfl, rfl, rfl, fun _ _ _ _ _ _ us hl => match us, hl with | [_], _ => rfl⟩⟩
    · exact ⟨d_names_behind, rfl, rfl, .inl ⟨rfl, rfl, rfl, fun _ _ _ _ _ _ us hl => match us, hl with | [_, _, _], _ => rfl⟩⟩
    · exact ⟨d_are_steps, rfl, rfl, .inl ⟨rfl, rfl, rfl, fun _ _ _ _ _ _ us hl => match us, hl with | [_, _], _ => rfl⟩⟩
    · exact ⟨d_are_parameters, rfl, rfl, .inl ⟨rfl, rfl, rfl, fun _ _ _ _ _ _ us hl => match us, hl with | [_], _ => rfl⟩⟩
    · exact ⟨d_is_pair, rfl, rfl, .inl ⟨rfl, rfl, rfl, fun _ _ _ _ _ _ us hl => match us, hl with | [_, _], _ => rfl⟩⟩
    · exact ⟨d_are_unlike, rfl, rfl, .inl ⟨rfl, rfl, rfl, fun _ _ _ _ _ _ us hl => match us, hl with | [_, _, _], _ => rfl⟩⟩
    · exact ⟨d__law_pool, rfl, rfl, .inl ⟨rfl, rfl, rfl, fun _ _ _ _ _ _ us hl => match us, hl with | [_, _], _ => rfl⟩⟩
    · exact ⟨d__law_draw, rfl, rfl, .inl ⟨rfl, rfl, rfl, fun _ _ _ _ _ _ us hl => match us, hl with | [_, _], _ => rfl⟩⟩
    · exact ⟨d__law_odd_steps, rfl, rfl, .inl ⟨rfl, rfl, rfl, fun _ _ _ _ _ _ us hl => match us, hl with | [], _ => rfl⟩⟩
    · exact ⟨d__law_odd, rfl, rfl, .inl ⟨rfl, rfl, rfl, fun _ _ _ _ _ _ us hl => match us, hl with | [_], _ => rfl⟩⟩
    · exact ⟨d__law_error, rfl, rfl, .inl ⟨rfl, rfl, rfl, fun _ _ _ _ _ _ us hl => match us, hl with | [_], _ => rfl⟩⟩
    · exact ⟨d__law_greatest_right, rfl, rfl, .inl ⟨rfl, rfl, rfl, fun _ _ _ _ _ _ us hl => match us, hl with | [_], _ => rfl⟩⟩
    · exact ⟨d_law, rfl, rfl, .inl ⟨rfl, rfl, rfl, fun _ _ _ _ _ _ us hl => match us, hl with | [_], _ => rfl⟩⟩

  dfl := fun _ _ _ _ h => by cases h
  mks := fun _ _ _ _ _ h => by
    simp only [pg, List.mem_cons, Prod.mk.injEq, List.not_mem_nil, or_false] at h
    rcases h with ⟨rfl, rfl, rfl, rfl, rfl⟩ | ⟨rfl, rfl, rfl, rfl, rfl⟩
    · exact ⟨d_Kind___init__, rfl, .inr ⟨3, by decide, rfl, rfl, fun _ _ _ _ _ _ _ us its hl hi => match us, its, hl, hi with | [_, _, _, _, _, _, _], [_, _, _, _], _, _ => ⟨_, rfl, rfl⟩⟩⟩
    · exact ⟨d_Kind___init__, rfl, .inr ⟨4, by decide, rfl, rfl, fun _ _ _ _ _ _ _ us its hl hi => match us, its, hl, hi with | [_, _, _, _, _, _, _, _], [_, _, _, _], _, _ => ⟨_, rfl, rfl⟩⟩⟩

  mts := fun _ _ _ _ _ h => by cases h
  prs := fun _ _ _ h => by
    simp only [pg, List.mem_cons, Prod.mk.injEq, List.not_mem_nil, or_false] at h
    rcases h with ⟨rfl, rfl, rfl⟩ | ⟨rfl, rfl, rfl⟩
    · exact ⟨d_Kind_deeds, rfl, rfl, .inl ⟨rfl, rfl, rfl, fun _ _ _ _ _ _ us hl => match us, hl with | [_], _ => rfl⟩⟩
    · exact ⟨d_Kind_unlike, rfl, rfl, .inl ⟨rfl, rfl, rfl, fun _ _ _ _ _ _ us hl => match us, hl with | [_], _ => rfl⟩⟩

  lns := fun _ _ h => by
    simp only [pg, List.mem_cons, Prod.mk.injEq, List.not_mem_nil, or_false] at h
    obtain ⟨rfl, rfl⟩ := h
    · exact ⟨d_Kind___len__, rfl, rfl, .inl ⟨rfl, rfl, rfl, fun _ _ _ _ _ _ us hl => match us, hl with | [_], _ => rfl⟩⟩

def loose : List Str := [("_wall" : Str), ("CutError" : Str), ("InvalidKind" : Str), ("RESERVED" : Str), ("MAX_LENGTH" : Str), ("MAX_NUMBER" : Str), ("is_integer" : Str), ("is_short" : Str), ("is_name" : Str), ("SUMMED" : Str), ("is_sum" : Str), ("is_place" : Str), ("is_deed" : Str), ("MAX_PARAMETERS" : Str), ("MAX_STEPS" : Str), ("MAX_CHOSEN" : Str), ("MAX_DEEDS" : Str), ("MAX_UNLIKE" : Str), ("are_chosen" : Str), ("is_step" : Str), ("rows_of" : Str), ("names_behind" : Str), ("are_steps" : Str), ("are_parameters" : Str), ("is_pair" : Str), ("are_unlike" : Str), ("are_unlike_kinds" : Str), ("Kind" : Str), ("_law_pool" : Str), ("_law_draw" : Str), ("_law_odd_steps" : Str), ("_law_odd" : Str), ("_law_error" : Str), ("_law_greatest_right" : Str)]
end K04


set_option Elab.async false
set_option linter.all false
set_option maxRecDepth 100000
set_option maxHeartbeats 0
namespace K04
open PySem PySem.Spec PyProof.Rows L2 FM
abbrev prg : Program := PySem.Challenge.pw_finestcuts_k04_kinds_that_are_refused
abbrev hk : PySem.W.Hook := hookV 7 prg.main.file pg DS XS
abbrev RR : PySem.W.OpenRow := PySem.W.OpenLaw.row PySem.Challenge.rw_finestcuts_k04_kinds_that_are_refused
def ob (s : PySem.W.SharedT) : ObF := obsVG 7 prg.main.file pg DS XS (HandSHeadRun.getT s)
theorem ob_eq (s : PySem.W.SharedT) : ob s = hk.obs s.abs := obsVG_eq (HandSHeadRun.getT_eq s)
theorem run (w : World) : HandSHeadRun.RunEq RR (PySem.W.view RR.prog [39]) hk ob 4000 loose w := by
  intro os
  kernel_rfl
end K04


set_option Elab.async false
set_option linter.all false
set_option maxRecDepth 100000
set_option maxHeartbeats 0
namespace K04
open PySem PySem.Spec PyProof.Rows L2 FM
theorem facts {w : World} {K : PySem.W.Frag} {h : Heap} {mg : Str → Option Value} {f : Addr} (X : K.In h) (G : h.Ns mainGlobals mg) (hfa : mg ("law" : Str) = some (.ref f)) (c : SaysV prg.main.file pg DS XS K) :
    ∃ (fd : FuncData) (ca : Nat → Addr), (∀ (s : Shared) (v : Value), BindsTo s fd ⟨[v], []⟩ [("_law_script", v)]) ∧ ∀ base : Heap, FnOk prg w K mg base (CXs prg) 20 f fd ["_law_script"] (spOf ⟨K, ca⟩ (callF PF 60 10) 24 1) := by
  obtain ⟨fa, fd, dv, B⟩ := defs_of X G c ck bnd rfl sy hxc
  obtain ⟨d, hd, hp, hm, bd⟩ := B.fns "law" 24 ["_law_script"] rfl
  cases hd
  have e := hfa.symm.trans hm
  cases e
  refine ⟨fd 24, caOf pg K, fun s v => ?_, fun base => ?_⟩
  · have F := B.fn 24 d_law rfl
    rw [B.dn 24 d_law rfl rfl] at F
    exact F.bindsA (ps := ["_law_script"]) (fun _ _ _ _ _ _ us hl => match us, hl with | [_], _ => rfl) s [v] rfl
  · have z := B.ok (Pr := prg) (wo := w) (base := base) (F := 60) 10 24 d_law rfl
    rw [pf] at z
    exact FnOk.cx z fun outer H s E u s' q => ⟨w, q⟩
theorem law_plain (ns : List Int) : callF PF 60 10 24 [.m (.d (.scr (ns.map W.int)))] = .ok (.d (.bl true)) [] := law_y (d := 0) ns
end K04
open PySem PySem.W PySem.Calls PyProof.Rows
theorem PySem.Challenge.cw_finestcuts_k04_kinds_that_are_refused_holds : PySem.Challenge.rw_finestcuts_k04_kinds_that_are_refused.Holds := by
  w_on; o_law
  refine HandSHeadRun.head_any (r := K04.RR) (q := view K04.RR.prog [39]) (H := K04.hk) (ob := K04.ob) (M := 4000) (loose := K04.loose) (d := HandSHeadRun.topDef K04.RR.prog 39) (kwd := []) K04.ob_eq
    (by kernel_rfl) (fun s => by kernel_rfl) K04.run (by kernel_rfl) (by kernel_rfl) (by kernel_rfl) (by rfl) (by first | assumption | decide +kernel) (by decide +kernel) ⟨rfl, rfl, rfl, rfl, rfl, by decide +kernel⟩ ?hw ?hc
  case hw => w_witness2
  case hc =>
    refine L2.walk_ofE (l := PySem.Challenge.rw_finestcuts_k04_kinds_that_are_refused) (n := 63) (k := 20) (x := "_law_script") (CX := FM.CXs K04.prg) rfl (by decide) (by kernel_rfl) ⟨rfl, by decide, by decide⟩ ?F (fun _ _ _ _ z => FM.cxs_no z)
    intro w mg fa h Y G hmg0
    obtain ⟨K, KX, c⟩ := Y
    have hmg : mg ("law" : PySem.Str) = some (.ref fa) := by
      have e : (HandSHeadRun.topDef K04.RR.prog 39).name = ("law" : PySem.Str) := by kernel_rfl
      rw [← e]
      exact hmg0
    obtain ⟨fd, ca, hb, hF⟩ := K04.facts (w := w) KX G hmg c
    exact ⟨K, fd, FM.spOf ⟨K, ca⟩ (FM.callF K04.PF 60 10) 24 1, KX, hb, fun H a ns hl ho hS => FM.sp_law ho hS (K04.law_plain ns), fun base _ _ => hF base⟩

