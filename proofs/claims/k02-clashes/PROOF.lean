import PyProof.Rows.All
import Wide.All
import OpenK.AllK
import Wide.FinOn
import HandS.ForMost
import HandS.ForExc
import HandS.ExcOwn
import HandS.IsInst
import HandS.Wide
import HandS.Style
import HandS.More
import KE.DataEq
import HandS.Text
import KE.IntTextLaws
import HandS.TupAny
import HandS.TupMul
import HandS.TryOnly
import KE.KExcSuper
import KE.KExcInit
import KE.KSuper
import HandS.Ends
import HandS.Exc
import HandS.ExcIs
import PyProof.RulesMatch
import KE.KStateDown
import HandS.Words
import HandS.WordsExc
import HandS.Defaults
import HandS.Head0
import HandS.Head1
import HandS.Head2
import HandS.HeadEnd
import HandS.HeadHook1
import HandS.HeadHook2
import HandS.Base
import PySem.Challenge.RW_finestcuts_k02_whole_clashes_of_deeds
set_option linter.all false
/-! The evaluator without a heap: data are plain values; what a name owns (a list, a dict, an object that may change) is a
    tree beside its name; a def may be lent what its caller owns, and hands it back changed. -/
namespace FM

/-! ### values -/
inductive W where
  | non | bl (b : Bool) | int (i : Int) | str (s : List Nat) | tup (ws : List W) | lis (ws : List W) | dic (ks vs : List W) | obj (c : Nat) (ks : List Nat) (ws : List W) | scr (ws : List W)
/-- what a name owns: data, or a thing that it may change -/
inductive U where
  | d (w : W) | l (us : List U) | c (ks : List W) (us : List U) | o (c : Nat) (ks : List Nat) (us : List U)
/-- a name: nothing, one's own, lent by the caller, a caught exception -/
inductive En where
  | no | m (u : U) | t (u : U) | x (c : Nat) (ks : List Nat) (ws : List W)
abbrev Env := List En

mutual
def fz : U → W
  | .d w => w
  | .l us => .lis (fzs us)
  | .c ks us => .dic ks (fzs us)
  | .o c ks us => .obj c ks (fzs us)
def fzs : List U → List W
  | [] => []
  | u :: us => fz u :: fzs us
end
/-- items that are data -/
def dats : List U → Option (List W)
  | [] => some []
  | .d w :: us => (dats us).map (w :: ·)
  | _ :: _ => none
/-- a thing as it is read -/
def vwU : U → Option W
  | .d w => some w
  | .l us => (dats us).map W.lis
  | .c ks us => (dats us).map (W.dic ks)
  | .o c ks us => (dats us).map (W.obj c ks)

def nth {α : Type} : List α → Nat → Option α
  | [], _ => none
  | a :: _, 0 => some a
  | _ :: as, n + 1 => nth as n

/-- equality of texts -/
def eqS : List Nat → List Nat → Bool
  | [], [] => true
  | a :: as, b :: bs => Nat.beq a b && eqS as bs
  | _, _ => false
theorem eqS_iff : ∀ {a b : List Nat}, eqS a b = true ↔ a = b
  | [], [] => by simp [eqS]
  | [], _ :: _ => by simp [eqS]
  | _ :: _, [] => by simp [eqS]
  | a :: as, b :: bs => by simp only [eqS, Bool.and_eq_true, Nat.beq_eq, List.cons.injEq]; rw [eqS_iff (a := as) (b := bs)]
/-- the order of texts -/
def ltS : List Nat → List Nat → Bool
  | _, [] => false
  | [], _ :: _ => true
  | a :: as, b :: bs => if Nat.blt a b then true else if Nat.beq a b then ltS as bs else false

/-! the very same value -/
mutual
def beqW : W → W → Bool
  | .non, .non => true
  | .bl a, .bl b => a == b
  | .int a, .int b => decide (a = b)
  | .str a, .str b => eqS a b
  | .tup a, .tup b => beqWs a b
  | .lis a, .lis b => beqWs a b
  | .dic a b, .dic c d => beqWs a c && beqWs b d
  | .obj c k a, .obj d l b => Nat.beq c d && eqS k l && beqWs a b
  | .scr a, .scr b => beqWs a b
  | _, _ => false
def beqWs : List W → List W → Bool
  | [], [] => true
  | a :: as, b :: bs => beqW a b && beqWs as bs
  | _, _ => false
end
mutual
theorem beqW_iff : ∀ {a b : W}, beqW a b = true → a = b
  | .non, b, h => by cases b <;> first | rfl | cases h
  | .bl a, b, h => by
    cases b <;> first | cases h | (simp only [beqW, beq_iff_eq] at h; rw [h])
  | .int a, b, h => by
    cases b <;> first | cases h | (simp only [beqW, decide_eq_true_eq] at h; rw [h])
  | .str a, b, h => by
    cases b <;> first | cases h | (simp only [beqW] at h; rw [eqS_iff.mp h])
  | .tup a, b, h => by
    cases b <;> first | cases h | (simp only [beqW] at h; rw [beqWs_iff h])
  | .lis a, b, h => by
    cases b <;> first | cases h | (simp only [beqW] at h; rw [beqWs_iff h])
  | .scr a, b, h => by
    cases b <;> first | cases h | (simp only [beqW] at h; rw [beqWs_iff h])
  | .dic a b, c, h => by
    cases c <;> first | cases h | (simp only [beqW, Bool.and_eq_true] at h; rw [beqWs_iff h.1, beqWs_iff h.2])
  | .obj a b d, c, h => by
    cases c <;> first | cases h | (simp only [beqW, Bool.and_eq_true, Nat.beq_eq] at h; rw [h.1.1, eqS_iff.mp h.1.2, beqWs_iff h.2])
theorem beqWs_iff : ∀ {a b : List W}, beqWs a b = true → a = b
  | [], b, h => by cases b <;> first | rfl | cases h
  | a :: as, b, h => by
    cases b with
    | nil => cases h
    | cons b bs =>
      simp only [beqWs, Bool.and_eq_true] at h
      rw [beqW_iff h.1, beqWs_iff h.2]
end
mutual
theorem beqW_self : ∀ a : W, beqW a a = true
  | .non => rfl
  | .bl a => by simp [beqW]
  | .int a => by simp [beqW]
  | .str a => by simp [beqW, eqS_iff]
  | .tup a => by simp only [beqW]; exact beqWs_self a
  | .lis a => by simp only [beqW]; exact beqWs_self a
  | .scr a => by simp only [beqW]; exact beqWs_self a
  | .dic a b => by simp only [beqW, Bool.and_eq_true]; exact ⟨beqWs_self a, beqWs_self b⟩
  | .obj a b c => by simp only [beqW, Bool.and_eq_true, Nat.beq_eq, eqS_iff]; exact ⟨⟨trivial, trivial⟩, beqWs_self c⟩
theorem beqWs_self : ∀ a : List W, beqWs a a = true
  | [] => rfl
  | a :: as => by simp only [beqWs, Bool.and_eq_true]; exact ⟨beqW_self a, beqWs_self as⟩
end

/-! data that are compared by parts: no dict, no object, nested at most n deep -/
mutual
def okW : Nat → W → Bool
  | _, .dic _ _ => false
  | _, .obj _ _ _ => false
  | _, .scr _ => false
  | 0, .tup _ => false
  | n + 1, .tup ws => okWs n ws
  | 0, .lis _ => false
  | n + 1, .lis ws => okWs n ws
  | _, _ => true
def okWs : Nat → List W → Bool
  | _, [] => true
  | n, w :: ws => okW n w && okWs n ws
end
/-! Python's == of data -/
mutual
def eqP : W → W → Bool
  | .non, .non => true
  | .bl a, .bl b => a == b
  | .int a, .int b => decide (a = b)
  | .bl a, .int b => decide ((if a then 1 else 0 : Int) = b)
  | .int a, .bl b => decide (a = (if b then 1 else 0 : Int))
  | .str a, .str b => eqS a b
  | .tup a, .tup b => eqPs a b
  | .lis a, .lis b => eqPs a b
  | _, _ => false
def eqPs : List W → List W → Bool
  | [], [] => true
  | a :: as, b :: bs => eqP a b && eqPs as bs
  | _, _ => false
end
def eqW (a b : W) : Option Bool := if okW 60 a && okW 60 b then some (eqP a b) else none

/-! ### results -/
/-- an exception: its class, its fields -/
structure Xn where
  c : Nat
  ks : List Nat
  ws : List W
inductive Res (α : Type) where
  | ok (a : α) (r : Env) | ex (x : Xn) (r : Env) | bad
def Res.bind {α β : Type} (m : Res α) (f : α → Env → Res β) : Res β := match m with
  | .ok a r => f a r
  | .ex x r => .ex x r
  | .bad => .bad
def Res.of {α : Type} (o : Option α) (r : Env) : Res α := match o with
  | some a => .ok a r
  | none => .bad
inductive SRes where
  | nx (r : Env) | rt (u : U) (r : Env) | bk (r : Env) | ct (r : Env) | ex (x : Xn) (r : Env) | bad
/-- what a call gives: its value, and what was lent, as it is then -/
inductive CRes where
  | ok (u : U) (os : List U) | ex (x : Xn) (os : List U) | bad

/-- an operand: a value, a thing just made, a name -/
inductive Arg where
  | w (w : W) | fr (u : U) | sl (i : Nat)
def cont : En → Option U
  | .m u => some u
  | .t u => some u
  | _ => none
def lookU (r : Env) (i : Nat) : Option U := (nth r i).bind cont
def vw (r : Env) : Arg → Option W
  | .w w => some w
  | .fr u => vwU u
  | .sl i => (lookU r i).bind vwU
def vws (r : Env) : List Arg → Option (List W)
  | [] => some []
  | a :: as => (vw r a).bind fun w => (vws r as).map (w :: ·)
/-- the items of a list or a tuple -/
def seqW : W → Option (List W)
  | .tup ws => some ws
  | .lis ws => some ws
  | .scr ws => some ws
  | _ => none
def extW : W → Option (List W)
  | .tup ws => some ws
  | .lis ws => some ws
  | _ => none
def lstW : W → Option (List W)
  | .lis ws => some ws
  | _ => none

/-! ### the form of programs -/
inductive B2 where
  | add | sub | mul | fdiv | mod | pow
  deriving DecidableEq
inductive C2 where
  | eq | ne | lt | le | gt | ge | is | isn | inn | nin
  deriving DecidableEq
inductive Ty where
  | int | bool | str | tuple | list | dict
  deriving DecidableEq
inductive Bt where
  | len | abs | int | max | min | all | any | sum | tuple
  deriving DecidableEq

inductive IG where
  | nm (i : Nat) | tp (gs : List IG)
mutual
/-- data -/
inductive IE where
  | var (i : Nat)
  | cst (w : W)
  | tup (es : List IE)
  | frz (u : IU)
  | bin (op : B2) (a b : IV)
  | neg (a : IE)
  | cmp (op : C2) (a b : IV)
  | chn (op op' : C2) (a b c : IV)
  | and (es : List IE)
  | or (es : List IE)
  | not (a : IE)
  | ite (t : IT) (a b : IE)
  | idx (a : IV) (i : IE)
  | slc (a : IV) (lo hi : Option IE)
  | didx (a : IV) (i : IE)
  | dget (i : Nat) (k x : IE)
  | isi (e : IV) (t : Ty)
  | blt (f : Bt) (vs : List IV)
  | app (i : Nat) (e : IE)
  | ext (i : Nat) (e : IV)
  | xfl (i : Nat) (k : Nat)
  | xis (i : Nat) (cs no : List Nat)
  | unk
/-- an operand -/
inductive IV where
  | e (e : IE)
  | s (i : Nat)
  | u (x : IU)
inductive IT where
  | val (e : IE)
  | cmp (op : C2) (a b : IV)
  | chn (op op' : C2) (a b c : IV)
  | and (ts : List IT)
  | or (ts : List IT)
  | not (t : IT)
/-- a thing just made -/
inductive IU where
  | d (e : IE)
  | mv (i : Nat)
  | lst (es : List IE)
  | comp (elt : IE) (g : IG) (own : List Nat) (it : II) (t : Option IT)
  | cat (a b : IV)
  | rep (a : IV) (n : IE)
  | slc (a : IV) (lo hi : Option IE)
  | lof (a : IV)
  | srt (a : IV)
  | ndic
  | dlt (ps : List (IE × IE))
  | call (f : Nat) (as : List IA)
  | callK (f : Nat) (as : List IA)
inductive II where
  | v (a : IV)
  | rng (a : IE)
  | rng2 (a b : IE)
  | zip (a b : IV)
  | enm (a : IV)
/-- an argument: data, lent, given away -/
inductive IA where
  | d (e : IE)
  | r (i : Nat)
  | u (x : IU)
end
inductive IS where
  | exp (e : IE)
  | asg (g : IG) (e : IE)
  | own (i : Nat) (u : IU)
  | par (i j : Nat) (a b : IE)
  | sub (i : Nat) (k e : IE)
  | dsub (i : Nat) (k e : IE)
  | ret (e : IU)
  | ifs (t : IT) (a b : List IS)
  | for (g : IG) (it : II) (body : List IS)
  | whl (t : IT) (body : List IS)
  | lc (b : Bool) (i : Nat) (elt : IE) (g : IG) (own : List Nat) (it : II) (t : Option IT)
  | rse (c : Nat) (k : Option Nat) (e : Option IE)
  | try (body : List IS) (cs no : List Nat) (i : Nat) (h : List IS)
  | mat (e : IE) (cs : List (W × List IS))
  | pass | brk | cont | unk

/-! ### operations -/
/-- below a million bits together, or one of them small -/
def mulOk (i j : Int) : Bool := Nat.blt (i.natAbs.log2 + j.natAbs.log2) 1000000 || Nat.blt i.natAbs (2 ^ 64) || Nat.blt j.natAbs (2 ^ 64)
def size : Nat := 1000000
def reps {α : Type} (a : List α) : Nat → List α
  | 0 => []
  | n + 1 => a ++ reps a n
def arith : B2 → W → W → Option W
  | .add, .int i, .int j => some (.int (i + j))
  | .add, .str a, .str b => if Nat.ble (a.length + b.length) size then some (.str (a ++ b)) else none
  | .add, .tup a, .tup b => if Nat.ble (a.length + b.length) size then some (.tup (a ++ b)) else none
  | .mul, .str a, .int j => if decide (0 ≤ j) && Nat.ble (a.length * j.toNat) size && decide (j ≤ 1000000) then some (.str (reps a j.toNat)) else none
  | .mul, .tup a, .int j => if decide (2 ≤ j) && decide (j ≤ 1000) && Nat.blt 0 a.length && Nat.ble a.length 1000 then some (.tup (reps a j.toNat)) else none
  | .sub, .int i, .int j => some (.int (i - j))
  | .mul, .int i, .int j => if mulOk i j then some (.int (i * j)) else none
  | .fdiv, .int i, .int j => if decide (0 < j) && Nat.blt j.natAbs.log2 9000 then some (.int (i / j)) else none
  | .mod, .int i, .int j => if decide (0 < j) then some (.int (i % j)) else none
  | .pow, .int i, .int j => if decide (0 ≤ j) && decide (j ≤ 1000) && Nat.blt i.natAbs (2 ^ 64) then some (.int (i ^ j.toNat)) else none
  | _, _, _ => none

def inW (x : W) (ws : List W) : Bool := ws.any fun y => eqP y x
/-- keys of dicts -/
def keyOk : W → Bool
  | .int _ => true
  | .str _ => true
  | _ => false
def dfind (k : W) : List W → List W → Option W
  | l :: ks, v :: vs => if beqW l k then some v else dfind k ks vs
  | _, _ => none
def dhas (k : W) : List W → Bool
  | l :: ks => beqW l k || dhas k ks
  | _ => false
def dset {α : Type} (k : W) (v : α) : List W → List α → List α
  | l :: ks, u :: vs => (if beqW l k then v else u) :: dset k v ks vs
  | _, _ => []
def dput {α : Type} (k : W) (v : α) (ks : List W) (vs : List α) : List W × List α := if dhas k ks then (ks, dset k v ks vs) else (ks ++ [k], vs ++ [v])
/-- pairs put in, one after another -/
def dall (ks vs : List W) : List (W × W) → List W × List W
  | [] => (ks, vs)
  | q :: qs => dall (dput q.1 q.2 ks vs).1 (dput q.1 q.2 ks vs).2 qs
def inV (x b : W) : Option Bool := match b with
  | .dic ks _ => if keyOk x then some (dhas x ks) else none
  | b => if okW 60 x then (seqW b).bind fun ws => if okWs 60 ws then some (inW x ws) else none else none
def cmpW : C2 → W → W → Option Bool
  | .eq, a, b => eqW a b
  | .ne, a, b => (eqW a b).map (!·)
  | .lt, .int i, .int j => some (decide (i < j))
  | .le, .int i, .int j => some (decide (i ≤ j))
  | .gt, .int i, .int j => some (decide (j < i))
  | .ge, .int i, .int j => some (decide (j ≤ i))
  | .lt, .str a, .str b => some (ltS a b)
  | .le, .str a, .str b => some (!ltS b a)
  | .gt, .str a, .str b => some (ltS b a)
  | .ge, .str a, .str b => some (!ltS a b)
  | .is, a, .non => some (match a with | .non => true | _ => false)
  | .isn, a, .non => some (match a with | .non => false | _ => true)
  | .is, .bl a, .bl b => some (a == b)
  | .isn, .bl a, .bl b => some (!(a == b))
  | .inn, x, b => inV x b
  | .nin, x, b => (inV x b).map (!·)
  | _, _, _ => none

/-- a place of a sequence -/
def ix (n : Nat) (i : Int) : Option Nat := match i with
  | .ofNat k => if Nat.blt k n then some k else none
  | .negSucc k => if Nat.blt k n then some (n - (k + 1)) else none
def idxW (a : W) (i : W) : Option W := match i with
  | .int k => (match a with
    | .str s => if Nat.ble s.length size then (ix s.length k).bind fun j => (nth s j).map fun c => .str [c] else none
    | a => (seqW a).bind fun ws => (ix ws.length k).bind fun j => nth ws j)
  | _ => none
/-- the bound of a slice -/
def bnd (n d : Nat) : Option Int → Nat
  | none => d
  | some (.ofNat k) => min k n
  | some (.negSucc k) => n - (k + 1)
def cut {α : Type} (ws : List α) (lo hi : Option Int) : List α := (ws.drop (bnd ws.length 0 lo)).take (bnd ws.length ws.length hi - bnd ws.length 0 lo)
/-- a slice that is data: of a text, of a tuple -/
def cutD (a : W) (lo hi : Option Int) : Option W := match a with
  | .str s => if Nat.ble s.length size then some (.str (cut s lo hi)) else none
  | .tup ws => some (.tup (cut ws lo hi))
  | _ => none

def tyIs : Ty → W → Bool
  | .int, .int _ => true
  | .int, .bl _ => true
  | .bool, .bl _ => true
  | .str, .str _ => true
  | .tuple, .tup _ => true
  | .list, .lis _ => true
  | .list, .scr _ => true
  | .dict, .dic _ _ => true
  | _, _ => false

def tyIsO (t : Ty) (w : W) : Option W := match w with
  | .obj _ _ _ => none
  | w => some (.bl (tyIs t w))

def bls : List W → Option (List Bool)
  | [] => some []
  | .bl b :: r => (bls r).map (b :: ·)
  | _ => none
def nums : List W → Option (List Int)
  | [] => some []
  | .int b :: r => (nums r).map (b :: ·)
  | _ => none
def txts : List W → Option (List (List Nat))
  | [] => some []
  | .str b :: r => (txts r).map (b :: ·)
  | _ => none
def digs (s : List Nat) : Bool := s.all fun c => Nat.ble 48 c && Nat.ble c 57
def dval (s : List Nat) : Nat := s.foldl (fun acc c => acc * 10 + (c - 48)) 0
def bltF : Bt → List W → Option W
  | .len, [.str s] => if Nat.ble s.length size then some (.int s.length) else none
  | .len, [.dic ks _] => some (.int ks.length)
  | .len, [a] => (seqW a).map fun ws => .int ws.length
  | .abs, [.int i] => some (.int (if i < 0 then -i else i))
  | .int, [.int i] => some (.int i)
  | .int, [.bl b] => some (.int (if b then 1 else 0))
  | .int, [.str s] => if digs s && Nat.blt 0 s.length && Nat.ble s.length 640 then some (.int (dval s : Nat)) else none
  | .max, [.int i, .int j] => some (.int (if j > i then j else i))
  | .min, [.int i, .int j] => some (.int (if j < i then j else i))
  | .all, [a] => (lstW a).bind fun ws => (bls ws).map fun bs => .bl (bs.all id)
  | .any, [a] => (lstW a).bind fun ws => (bls ws).map fun bs => .bl (bs.any id)
  | .sum, [a] => (lstW a).bind fun ws => (nums ws).map fun ns => .int ns.sum
  | .tuple, [a] => (seqW a).map fun ws => .tup ws
  | _, _ => none

def insS (a : List Nat) : List (List Nat) → List (List Nat)
  | [] => [a]
  | b :: r => if ltS b a then b :: insS a r else a :: b :: r
def sortS : List (List Nat) → List (List Nat)
  | [] => []
  | a :: r => insS a (sortS r)
/-- sorted: of texts -/
def sortF (a : W) : Option (List W) := match a with
  | .dic ks _ => (txts ks).bind fun ss => if Nat.blt ss.length 64 then some ((sortS ss).map W.str) else none
  | a => (lstW a).bind fun ws => (txts ws).bind fun ss => if Nat.blt ss.length 64 then some ((sortS ss).map W.str) else none

/-! ### names -/
/-- the value of a name; what it owned is data from then on -/
def rdV (r : Env) (i : Nat) : Option (W × Env) := match nth r i with
  | some (.m (.d w)) => some (w, r)
  | some (.m u) => some (fz u, r.set i (.m (.d (fz u))))
  | some (.t (.d w)) => some (w, r)
  | _ => none
def mvV (r : Env) (i : Nat) : Option (U × Env) := match nth r i with
  | some (.m u) => some (u, r.set i .no)
  | _ => none
/-- a name is bound anew -/
def setV (r : Env) (i : Nat) (u : U) : Option Env := match nth r i with
  | some (.t _) => none
  | some (.x _ _ _) => none
  | some _ => some (r.set i (.m u))
  | none => none
/-- what a name has is changed -/
def putV (r : Env) (i : Nat) (u : U) : Option Env := match nth r i with
  | some (.t _) => some (r.set i (.t u))
  | some (.m _) => some (r.set i (.m u))
  | _ => none
mutual
def bindG : IG → W → Env → Option Env
  | .nm i, w, r => setV r i (.d w)
  | .tp gs, .tup ws, r => bindGs gs ws r
  | .tp gs, .lis ws, r => bindGs gs ws r
  | _, _, _ => none
def bindGs : List IG → List W → Env → Option Env
  | [], [], r => some r
  | g :: gs, w :: ws, r => (bindG g w r).bind fun r1 => bindGs gs ws r1
  | _, _, _ => none
end
def wipe (r : Env) : List Nat → Env
  | [] => r
  | v :: vs => (wipe r vs).set v .no
/-- names of a comprehension: nothing or data stand there outside -/
def plainE : En → Bool
  | .no => true
  | .m (.d _) => true
  | _ => false
def ownOk (r : Env) : List Nat → Bool
  | [] => true
  | v :: vs => (match nth r v with | some e => plainE e | none => false) && ownOk r vs
def back (r r1 : Env) : List Nat → Env
  | [] => r1
  | v :: vs => (match nth r v with | some e => (back r r1 vs).set v e | none => back r r1 vs)

/-! ### evaluation, one level over another -/
structure SF where
  E : IE → Env → Res W
  V : IV → Env → Res Arg
  T : IT → Env → Res Bool
  U : IU → Env → Res U
  S : List IS → Env → SRes
  Wh : IT → List IS → Env → SRes
def SF.bot : SF := ⟨fun _ _ => .bad, fun _ _ => .bad, fun _ _ => .bad, fun _ _ => .bad, fun _ _ => .bad, fun _ _ _ => .bad⟩

def evs {α β : Type} (f : α → Env → Res β) : List α → Env → Res (List β)
  | [], r => .ok [] r
  | e :: es, r => (f e r).bind fun w r1 => (evs f es r1).bind fun ws r2 => .ok (w :: ws) r2

def iota (lo : Int) : Nat → List W
  | 0 => []
  | n + 1 => .int lo :: iota (lo + 1) n
def zipW : List W → List W → List W
  | a :: as, b :: bs => .tup [a, b] :: zipW as bs
  | _, _ => []
def enmW (k : Int) : List W → List W
  | [] => []
  | a :: as => .tup [.int k, a] :: enmW (k + 1) as
/-- what is walked: the items, and the operands that must stay as they are -/
structure Wk where
  ws : List W
  ks : List (Nat × W)
def stillI (w : W) (r : Env) (i : Nat) : Bool := match vw r (.sl i) with
  | some u => beqW u w
  | none => false
def Wk.still (k : Wk) (r : Env) : Bool := k.ks.all fun q => stillI q.2 r q.1
def keep (a : Arg) (w : W) : List (Nat × W) := match a with
  | .sl i => [(i, w)]
  | _ => []
def walkA (r : Env) (a : Arg) : Option Wk := match vw r a with
  | some (.str s) => (match a with
    | .w _ => some ⟨s.map fun c => .str [c], []⟩
    | _ => none)
  | some w => (seqW w).map fun ws => ⟨ws, keep a w⟩
  | none => none

def stepI (s : SF) : II → Env → Res Wk
  | .v a, r => (s.V a r).bind fun x r1 => Res.of (walkA r1 x) r1
  | .rng a, r => (s.E a r).bind fun x r1 => match x with
    | .int n => if decide (n ≤ 1000000) && decide (-1000000 ≤ n) then .ok ⟨iota 0 n.toNat, []⟩ r1 else .bad
    | _ => .bad
  | .rng2 a b, r => (s.E a r).bind fun x r1 => (s.E b r1).bind fun y r2 => match x, y with
    | .int m, .int n => if decide (n ≤ 1000000) && decide (-1000000 ≤ n) && decide (m ≤ 1000000) && decide (-1000000 ≤ m) then .ok ⟨iota m (n - m).toNat, []⟩ r2 else .bad
    | _, _ => .bad
  | .zip a b, r => (s.V a r).bind fun x r1 => (s.V b r1).bind fun y r2 => Res.of ((vw r2 x).bind fun u => (lstW u).bind fun us => (vw r2 y).bind fun w => (lstW w).map fun ws => ⟨zipW us ws, keep x u ++ keep y w⟩) r2
  | .enm a, r => (s.V a r).bind fun x r1 => Res.of ((vw r1 x).bind fun u => (lstW u).map fun ws => ⟨enmW 0 ws, keep x u⟩) r1

def compL (k : Wk) (own : List Nat) (f : W → Env → Res (Option W)) : List W → Env → Res (List W)
  | [], r => if k.still r then .ok [] r else .bad
  | w :: ws, r => if k.still r then (match f w r with
    | .ok o r1 => (match compL k own f ws (wipe r1 own) with
      | .ok us r2 => (match o with
        | some u => .ok (u :: us) r2
        | none => .ok us r2)
      | _ => .bad)
    | _ => .bad)
    else .bad
def optE (s : SF) (e : Option IE) (r : Env) : Res (Option Int) := match e with
  | none => .ok none r
  | some e => (s.E e r).bind fun x r1 => match x with
    | .int i => .ok (some i) r1
    | _ => .bad
def turnL (s : SF) (elt : IE) (g : IG) (t : Option IT) (w : W) (r : Env) : Res (Option W) := match bindG g w r with
  | none => .bad
  | some r1 => match t with
    | none => (s.E elt r1).bind fun u r2 => .ok (some u) r2
    | some t => (s.T t r1).bind fun b r2 => if b then (s.E elt r2).bind fun u r3 => .ok (some u) r3 else .ok none r2
def compM (s : SF) (elt : IE) (g : IG) (own : List Nat) (it : II) (t : Option IT) (r : Env) : Res (List W) := (stepI s it r).bind fun k r1 => if Nat.ble k.ws.length size && ownOk r1 own && k.ks.all (fun q => !own.any (Nat.beq q.1)) then (match compL k own (turnL s elt g t) k.ws (wipe r1 own) with
    | .ok ws r2 => .ok ws (back r1 r2 own)
    | _ => .bad) else .bad
/-- the arguments of a call -/
inductive AV where
  | d (w : W) | r (i : Nat) | u (u : U)
def stepA (s : SF) : IA → Env → Res AV
  | .d e, r => (s.E e r).bind fun w r1 => .ok (.d w) r1
  | .r i, r => (match lookU r i with
    | some _ => .ok (.r i) r
    | none => .bad)
  | .u x, r => (s.U x r).bind fun u r1 => .ok (.u u) r1
/-- what the callee's names are bound to; where what is lent stands -/
def args (r : Env) : List AV → Option (List En × List Nat)
  | [] => some ([], [])
  | .d w :: as => (args r as).map fun q => (.m (.d w) :: q.1, q.2)
  | .u u :: as => (args r as).map fun q => (.m u :: q.1, q.2)
  | .r i :: as => (lookU r i).bind fun u => (args r as).bind fun q => if q.2.any (Nat.beq i) then none else some (.t u :: q.1, i :: q.2)
/-- what was lent comes back -/
def puts (r : Env) : List Nat → List U → Option Env
  | [], [] => some r
  | i :: is, u :: us => (putV r i u).bind fun r1 => puts r1 is us
  | _, _ => none
abbrev CF := Nat → List En → CRes
def runC (c : CF) (f : Nat) (as : List AV) (r : Env) : Res U := match args r as with
  | none => .bad
  | some (es, is) => match c f es with
    | .ok u os => (match puts r is os with
      | some r1 => .ok u r1
      | none => .bad)
    | .ex x os => (match puts r is os with
      | some r1 => .ex x r1
      | none => .bad)
    | .bad => .bad

def stepU (c : CF) (s : SF) : IU → Env → Res U
  | .d e, r => (s.E e r).bind fun w r1 => .ok (.d w) r1
  | .mv i, r => (match mvV r i with
    | some (u, r1) => .ok u r1
    | none => .bad)
  | .lst es, r => (evs s.E es r).bind fun ws r1 => .ok (.l (ws.map U.d)) r1
  | .comp elt g own it t, r => (compM s elt g own it t r).bind fun ws r1 => .ok (.l (ws.map U.d)) r1
  | .cat a b, r => (s.V a r).bind fun x r1 => (s.V b r1).bind fun y r2 => Res.of ((vw r2 x).bind fun u => (lstW u).bind fun us => (vw r2 y).bind fun w => (lstW w).bind fun ws => if Nat.ble (us.length + ws.length) size then some (.l ((us ++ ws).map U.d)) else none) r2
  | .rep a n, r => (s.V a r).bind fun x r1 => (s.E n r1).bind fun y r2 => match y with
    | .int j => Res.of ((vw r2 x).bind fun u => (lstW u).bind fun us => if decide (-1000000 ≤ j) && Nat.ble (us.length * j.toNat) size && decide (j ≤ 1000000) then some (.l ((reps us j.toNat).map U.d)) else none) r2
    | _ => .bad
  | .slc a lo hi, r => (s.V a r).bind fun x r1 => (optE s lo r1).bind fun l r2 => (optE s hi r2).bind fun h r3 => Res.of ((vw r3 x).bind fun u => (lstW u).map fun ws => .l ((cut ws l h).map U.d)) r3
  | .lof a, r => (s.V a r).bind fun x r1 => Res.of ((vw r1 x).bind fun u => (seqW u).map fun ws => .l (ws.map U.d)) r1
  | .srt a, r => (s.V a r).bind fun x r1 => Res.of ((vw r1 x).bind fun u => (sortF u).map fun ws => .l (ws.map U.d)) r1
  | .ndic, r => .ok (.c [] []) r
  | .dlt ps, r => (evs (fun p r => (s.E p.1 r).bind fun k r1 => (s.E p.2 r1).bind fun v r2 => .ok (k, v) r2) ps r).bind fun qs r1 => if (qs.all fun q => keyOk q.1) && Nat.ble qs.length 15 && Nat.blt 0 qs.length then .ok (.c (dall [] [] qs).1 ((dall [] [] qs).2.map U.d)) r1 else .bad
  | .call f as, r => (evs (stepA s) as r).bind fun vs r1 => runC c f vs r1
  | .callK f as, r => (evs (stepA s) as r).bind fun vs r1 => runC c f vs r1
def stepV (s : SF) : IV → Env → Res Arg
  | .e e, r => (s.E e r).bind fun w r1 => .ok (.w w) r1
  | .s i, r => (match lookU r i with
    | some _ => .ok (.sl i) r
    | none => .bad)
  | .u x, r => (s.U x r).bind fun u r1 => .ok (.fr u) r1
def andE (s : SF) : List IE → Env → Res W
  | [], _ => .bad
  | [e], r => s.E e r
  | e :: es, r => (s.E e r).bind fun w r1 => match w with
    | .bl true => andE s es r1
    | .bl false => .ok (.bl false) r1
    | _ => .bad
def orE (s : SF) : List IE → Env → Res W
  | [], _ => .bad
  | [e], r => s.E e r
  | e :: es, r => (s.E e r).bind fun w r1 => match w with
    | .bl true => .ok (.bl true) r1
    | .bl false => orE s es r1
    | _ => .bad
def andT (s : SF) : List IT → Env → Res Bool
  | [], _ => .bad
  | [e], r => s.T e r
  | e :: es, r => (s.T e r).bind fun b r1 => if b then andT s es r1 else .ok false r1
def orT (s : SF) : List IT → Env → Res Bool
  | [], _ => .bad
  | [e], r => s.T e r
  | e :: es, r => (s.T e r).bind fun b r1 => if b then .ok true r1 else orT s es r1
def cmp2 (op : C2) (x y : Arg) (r : Env) : Option Bool := (vw r x).bind fun a => (vw r y).bind fun b => cmpW op a b
def cmpS (s : SF) (op : C2) (a b : IV) (r : Env) : Res Bool := (s.V a r).bind fun x r1 => (s.V b r1).bind fun y r2 => Res.of (cmp2 op x y r2) r2
def chnS (s : SF) (op op' : C2) (a b d : IV) (r : Env) : Res Bool := (s.V a r).bind fun x r1 => (s.V b r1).bind fun y r2 => match cmp2 op x y r2 with
    | some true => (s.V d r2).bind fun z r3 => Res.of (cmp2 op' y z r3) r3
    | some false => .ok false r2
    | none => .bad
def stepT (s : SF) : IT → Env → Res Bool
  | .val e, r => (s.E e r).bind fun w r1 => match w with
    | .bl b => .ok b r1
    | _ => .bad
  | .cmp op a b, r => cmpS s op a b r
  | .chn op op' a b d, r => chnS s op op' a b d r
  | .and ts, r => andT s ts r
  | .or ts, r => orT s ts r
  | .not t, r => (s.T t r).bind fun b r1 => .ok (!b) r1

def appS (i : Nat) (y : W) (r : Env) : Res W := match lookU r i with
  | some (.l us) => if Nat.blt us.length size then (match putV r i (.l (us ++ [.d y])) with
    | some r2 => .ok .non r2
    | none => .bad) else .bad
  | _ => .bad
def extS (i : Nat) (x : Arg) (r : Env) : Res W := match lookU r i, (vw r x).bind extW with
  | some (.l us), some ws => if Nat.ble (us.length + ws.length) size then (match putV r i (.l (us ++ ws.map U.d)) with
    | some r2 => .ok .non r2
    | none => .bad) else .bad
  | _, _ => .bad
def dgetV (i : Nat) (k d : W) (r : Env) : Option W := (vw r (.sl i)).bind fun u => match u with
  | .dic ks vs => if keyOk k then some ((dfind k ks vs).getD d) else none
  | _ => none
def stepE (s : SF) : IE → Env → Res W
  | .var i, r => (match rdV r i with
    | some (w, r1) => .ok w r1
    | none => .bad)
  | .cst w, r => .ok w r
  | .tup es, r => (evs s.E es r).bind fun ws r1 => .ok (.tup ws) r1
  | .frz x, r => (s.U x r).bind fun u r1 => .ok (fz u) r1
  | .bin op a b, r => (s.V a r).bind fun x r1 => (s.V b r1).bind fun y r2 => Res.of ((vw r2 x).bind fun u => (vw r2 y).bind fun w => arith op u w) r2
  | .neg a, r => (s.E a r).bind fun x r1 => match x with
    | .int i => .ok (.int (-i)) r1
    | _ => .bad
  | .cmp op a b, r => (cmpS s op a b r).bind fun c r1 => .ok (.bl c) r1
  | .chn op op' a b d, r => (chnS s op op' a b d r).bind fun c r1 => .ok (.bl c) r1
  | .and es, r => andE s es r
  | .or es, r => orE s es r
  | .not a, r => (s.E a r).bind fun x r1 => match x with
    | .bl b => .ok (.bl (!b)) r1
    | _ => .bad
  | .ite t a b, r => (s.T t r).bind fun x r1 => if x then s.E a r1 else s.E b r1
  | .idx a i, r => (s.V a r).bind fun x r1 => (s.E i r1).bind fun k r2 => Res.of ((vw r2 x).bind fun u => idxW u k) r2
  | .slc a lo hi, r => (s.V a r).bind fun x r1 => (optE s lo r1).bind fun l r2 => (optE s hi r2).bind fun h r3 => Res.of ((vw r3 x).bind fun u => cutD u l h) r3
  | .didx a i, r => (s.V a r).bind fun x r1 => (s.E i r1).bind fun k r2 => Res.of ((vw r2 x).bind fun u => match u with
    | .dic ks vs => if keyOk k then dfind k ks vs else none
    | _ => none) r2
  | .dget i k d, r => (match lookU r i with
    | some (.c _ _) => (s.E k r).bind fun k r1 => (s.E d r1).bind fun d r2 => Res.of (dgetV i k d r2) r2
    | _ => .bad)
  | .isi e t, r => (s.V e r).bind fun x r1 => Res.of ((vw r1 x).bind fun w => tyIsO t w) r1
  | .blt f vs, r => (evs s.V vs r).bind fun xs r1 => Res.of ((vws r1 xs).bind fun ws => bltF f ws) r1
  | .app i e, r => (match lookU r i with
    | some (.l _) => (s.E e r).bind fun y r1 => appS i y r1
    | _ => .bad)
  | .ext i e, r => (match lookU r i with
    | some (.l _) => (s.V e r).bind fun x r1 => extS i x r1
    | _ => .bad)
  | .xfl i k, r => (match nth r i with
    | some (.x _ [l] [w]) => if Nat.beq l k then .ok w r else .bad
    | _ => .bad)
  | .xis i cs no, r => (match nth r i with
    | some (.x c [_] [_]) => if cs.any (Nat.beq c) then .ok (.bl true) r else if no.any (Nat.beq c) then .ok (.bl false) r else .bad
    | _ => .bad)
  | .unk, _ => .bad

def forL (f : W → Env → SRes) : List W → Env → SRes
  | [], r => .nx r
  | w :: ws, r => match f w r with
    | .nx r1 => forL f ws r1
    | .ct r1 => forL f ws r1
    | .bk r1 => .nx r1
    | x => x
def Res.toS {α : Type} (m : Res α) (f : α → Env → SRes) : SRes := match m with
  | .ok w r => f w r
  | .ex x r => .ex x r
  | .bad => .bad
/-- behind a suite the exception's name is gone -/
def unX (i : Nat) : SRes → SRes
  | .nx r => .nx (r.set i .no)
  | .bk r => .bk (r.set i .no)
  | .ct r => .ct (r.set i .no)
  | .rt u r => .rt u (r.set i .no)
  | _ => .bad
def handle (s : SF) (x : Xn) (r : Env) (cs no : List Nat) (i : Nat) (h : List IS) : SRes := if cs.any (Nat.beq x.c) then (match nth r i with
    | some e => if plainE e then unX i (s.S h (r.set i (.x x.c x.ks x.ws))) else .bad
    | none => .bad) else if no.any (Nat.beq x.c) then .ex x r else .bad
def pick (s : SF) (w : W) (r : Env) : List (W × List IS) → SRes
  | [] => .nx r
  | (k, b) :: cs => match eqW w k with
    | some true => s.S b r
    | some false => pick s w r cs
    | none => .bad
def putS (i : Nat) (v n : W) (r : Env) : SRes := match lookU r i, n with
  | some (.l us), .int n => (match ix us.length n, dats us with
    | some j, some _ => (match putV r i (.l (us.set j (.d v))) with
      | some r3 => .nx r3
      | none => .bad)
    | _, _ => .bad)
  | _, _ => .bad
def dputS (i : Nat) (v n : W) (r : Env) : SRes := match lookU r i with
  | some (.c ks us) => (match dats us with
    | some ws => if keyOk n && Nat.blt ks.length size then (match putV r i (.c (dput n v ks ws).1 ((dput n v ks ws).2.map U.d)) with
      | some r3 => .nx r3
      | none => .bad) else .bad
    | none => .bad)
  | _ => .bad
def stepS (s : SF) : IS → Env → SRes
  | .exp e, r => (s.E e r).toS fun _ r1 => .nx r1
  | .asg g e, r => (s.E e r).toS fun w r1 => match bindG g w r1 with
    | some r2 => .nx r2
    | none => .bad
  | .own i x, r => (s.U x r).toS fun u r1 => match setV r1 i u with
    | some r2 => .nx r2
    | none => .bad
  | .par i j a b, r => (s.E a r).toS fun x r1 => (s.E b r1).toS fun y r2 => match (setV r2 i (.d x)).bind fun r3 => setV r3 j (.d y) with
    | some r4 => .nx r4
    | none => .bad
  | .sub i k e, r => (s.E e r).toS fun v r1 => (match lookU r1 i with
    | some (.l _) => (s.E k r1).toS fun n r2 => putS i v n r2
    | _ => .bad)
  | .dsub i k e, r => (s.E e r).toS fun v r1 => (match lookU r1 i with
    | some (.c _ _) => (s.E k r1).toS fun n r2 => dputS i v n r2
    | _ => .bad)
  | .ret x, r => (s.U x r).toS fun u r1 => .rt u r1
  | .ifs t a b, r => (s.T t r).toS fun c r1 => if c then s.S a r1 else s.S b r1
  | .for g it body, r => (stepI s it r).toS fun k r1 => if k.ks.isEmpty then forL (fun w r2 => match bindG g w r2 with
      | some r3 => s.S body r3
      | none => .bad) k.ws r1 else .bad
  | .whl t body, r => s.Wh t body r
  | .lc b i elt g own it t, r => (compM s elt g own it t r).toS fun ws r1 => match setV r1 i (if b then .l (ws.map U.d) else .d (.lis ws)) with
    | some r2 => .nx r2
    | none => .bad
  | .rse c k e, r => (match k, e with
    | some k, some e => (s.E e r).toS fun w r1 => .ex ⟨c, [k], [w]⟩ r1
    | none, none => .ex ⟨c, [], []⟩ r
    | _, _ => .bad)
  | .try body cs no i h, r => (match s.S body r with
    | .ex x r1 => handle s x r1 cs no i h
    | y => y)
  | .mat e cs, r => (s.E e r).toS fun w r1 => pick s w r1 cs
  | .pass, r => .nx r
  | .brk, r => .bk r
  | .cont, r => .ct r
  | .unk, _ => .bad
def stepSs (s : SF) : List IS → Env → SRes
  | [], r => .nx r
  | st :: sts, r => match stepS s st r with
    | .nx r1 => stepSs s sts r1
    | x => x
def stepWh (s : SF) (t : IT) (body : List IS) (r : Env) : SRes := (s.T t r).toS fun b r1 => if b then (match s.S body r1 with
    | .nx r2 => s.Wh t body r2
    | .ct r2 => s.Wh t body r2
    | .bk r2 => .nx r2
    | x => x) else .nx r1
def lvl (c : CF) : Nat → SF
  | 0 => SF.bot
  | n + 1 => ⟨stepE (lvl c n), stepV (lvl c n), stepT (lvl c n), stepU c (lvl c n), stepSs (lvl c n), stepWh (lvl c n)⟩

/-- a def: how many parameters, how many names in all, its body -/
structure FD where
  ar : Nat
  sl : Nat
  body : List IS
def pad : Nat → Env
  | 0 => []
  | n + 1 => .no :: pad n
/-- what was lent, as it is at the end -/
def outs : List En → Env → Option (List U)
  | [], _ => some []
  | .t _ :: es, .t u :: r => (outs es r).map (u :: ·)
  | .t _ :: _, _ => none
  | _ :: es, _ :: r => outs es r
  | _ :: _, [] => none
def SRes.val (es : List En) : SRes → CRes
  | .nx r => (match outs es r with
    | some os => .ok (.d .non) os
    | none => .bad)
  | .rt u r => (match outs es r with
    | some os => .ok u os
    | none => .bad)
  | .ex x r => (match outs es r with
    | some os => .ex x os
    | none => .bad)
  | _ => .bad
/-- a def called, d calls deep at most; F the fuel of a body -/
def callF (P : List FD) (F : Nat) : Nat → CF
  | 0 => fun _ _ => .bad
  | d + 1 => fun f es => match nth P f with
    | none => .bad
    | some fd => if Nat.beq es.length fd.ar then ((lvl (callF P F d) F).S fd.body (es ++ pad (fd.sl - fd.ar))).val es else .bad
end FM


set_option Elab.async false
set_option linter.all false
set_option maxRecDepth 100000
set_option maxHeartbeats 2000000
/-! What values and names stand for in the layer's heap, and how both go on together. -/
namespace FM
open PySem L2

def sv (s : List Nat) : Str := ⟨s.toArray⟩
theorem sv_list (s : List Nat) : (sv s).cps.toList = s := by simp [sv]
theorem sv_inj {a b : List Nat} (h : sv a = sv b) : a = b := by
  have := congrArg (fun x : Str => x.cps.toList) h
  simpa [sv] using this
theorem sv_len (s : List Nat) : (sv s).length = s.length := by simp [sv, Str.length]
theorem sv_of (x : Str) : x = sv x.cps.toList := by
  obtain ⟨c⟩ := x
  simp [sv]
/-! names of fields as numbers: their codes, by 256, the first one the least -/
def digF : Nat → Nat → List Nat
  | 0, _ => []
  | f + 1, n => if Nat.beq n 0 then [] else n % 256 :: digF f (n / 256)
def nmS (n : Nat) : Str := sv (digF 64 n)

/-- the layer's heap; the addresses whose things nobody changes any more -/
structure Sg where
  H : Hp
  L : Addr → Prop
/-- the written part; where the classes stand -/
structure Kx where
  K : PySem.W.Frag
  ca : Nat → Addr
def KLst (K : PySem.W.Frag) (a : Addr) (xs : List V) : Prop := ∃ (o : Obj) (its : Array Value) (n : Nat), K.lookup a = some o ∧ o.cls = .type "list" ∧ o.dict = none ∧ o.data = .seq its n ∧ its.size ≤ sizeLine ∧ Vals xs its.toList
def keyR : W → Key → Prop
  | .int i, k => k = Sum.inl i
  | .str s, k => k = Sum.inr (sv s)
  | _, _ => False
def KeysR : List W → List Key → Prop
  | [], ks => ks = []
  | w :: ws, ks => ∃ k r, ks = k :: r ∧ keyR w k ∧ KeysR ws r
section
variable (Z : Kx) (g : Sg)
/-- a list of items at a, as it is -/
def DicR (a : Addr) (ks : List W) (xs : List V) : Prop := ∃ ys : List (Key × V), g.H a = some (.dK ys) ∧ KeysR ks (ys.map (·.1)) ∧ ys.map (·.2) = xs
def ObjR (a : Addr) (c : Nat) (ks : List Nat) (xs : List V) : Prop := ∃ dx fs, g.H a = some (.ins (Z.ca c) dx fs) ∧ fs.map (·.1) = ks.map nmS ∧ fs.map (·.2) = xs
/-- a list from outside -/
def ScrR (a : Addr) (xs : List V) : Prop := (∃ o, g.H a = some (.frz o (.lst xs))) ∨ KLst Z.K a xs
mutual
def RW : W → V → Prop
  | .non, v => v = .non
  | .bl b, v => v = .bl b
  | .int i, v => v = .int i
  | .str s, v => v = .str (sv s)
  | .tup ws, v => ∃ a xs, v = .ref a ∧ SqT Z.K g.H a xs ∧ RWs ws xs
  | .lis ws, v => ∃ a xs, v = .ref a ∧ g.L a ∧ g.H a = some (.lst xs) ∧ RWs ws xs
  | .dic ks ws, v => ∃ a xs, v = .ref a ∧ g.L a ∧ DicR g a ks xs ∧ RWs ws xs
  | .obj c ks ws, v => ∃ a xs, v = .ref a ∧ g.L a ∧ ObjR Z g a c ks xs ∧ RWs ws xs
  | .scr ws, v => ∃ a xs, v = .ref a ∧ ScrR Z g a xs ∧ RWs ws xs
def RWs : List W → List V → Prop
  | [], xs => xs = []
  | w :: ws, xs => ∃ x r, xs = x :: r ∧ RW w x ∧ RWs ws r
end
mutual
/-- a thing that is owned, and all its addresses -/
def OU : U → V → List Addr → Prop
  | .d w, v, fp => fp = [] ∧ RW Z g w v
  | .l us, v, fp => ∃ a xs fs, v = .ref a ∧ g.H a = some (.lst xs) ∧ OUs us xs fs ∧ fp = a :: fs
  | .c ks us, v, fp => ∃ a xs fs, v = .ref a ∧ DicR g a ks xs ∧ OUs us xs fs ∧ fp = a :: fs
  | .o c ks us, v, fp => ∃ a xs fs, v = .ref a ∧ ObjR Z g a c ks xs ∧ OUs us xs fs ∧ fp = a :: fs
def OUs : List U → List V → List Addr → Prop
  | [], xs, fp => xs = [] ∧ fp = []
  | u :: us, xs, fp => ∃ x r f1 f2, xs = x :: r ∧ OU u x f1 ∧ OUs us r f2 ∧ fp = f1 ++ f2
end
end
abbrev Fp := Nat → List Addr
/-- from g, where the names own F, to g', where they own F' -/
structure Go (g : Sg) (F : Fp) (g' : Sg) (F' : Fp) : Prop where
  l : ∀ a, g.L a → g'.L a
  k : ∀ b o, g.H b = some o → (∀ i, b ∉ F i) → g'.H b = some o
  a : ∀ b, g'.H b = none → g.H b = none
  n : ∀ b, g'.L b → g.L b ∨ g.H b = none ∨ ∃ i, b ∈ F i
  s : ∀ i b, b ∈ F' i → g.H b = none ∨ ∃ j, b ∈ F j
theorem Go.refl (g : Sg) (F : Fp) : Go g F g F := ⟨fun _ h => h, fun _ _ h _ => h, fun _ h => h, fun _ h => .inl h, fun i b h => .inr ⟨i, h⟩⟩
theorem Go.trans {g g1 g2 : Sg} {F F1 F2 : Fp} (x : Go g F g1 F1) (y : Go g1 F1 g2 F2) : Go g F g2 F2 where
  l := fun a h => y.l a (x.l a h)
  k := fun b o h n => y.k b o (x.k b o h n) fun i hi => by
    rcases x.s i b hi with e | ⟨j, hj⟩
    · rw [h] at e; cases e
    · exact n j hj
  a := fun b h => x.a b (y.a b h)
  n := fun b h => by
    rcases y.n b h with h | h | ⟨i, h⟩
    · exact x.n b h
    · exact .inr (.inl (x.a b h))
    · rcases x.s i b h with e | e
      · exact .inr (.inl e)
      · exact .inr (.inr e)
  s := fun i b h => by
    rcases y.s i b h with h | ⟨j, h⟩
    · exact .inl (x.a b h)
    · exact x.s j b h

/-- data stay -/
structure Kp (Z : Kx) (g g' : Sg) : Prop where
  tup : ∀ {a xs}, SqT Z.K g.H a xs → SqT Z.K g'.H a xs
  li : ∀ a o, g.L a → g.H a = some o → g'.L a ∧ g'.H a = some o
  fr : ∀ a o u, g.H a = some (.frz o u) → g'.H a = some (.frz o u)
theorem Kp.refl {Z : Kx} {g : Sg} : Kp Z g g := ⟨fun h => h, fun _ _ h e => ⟨h, e⟩, fun _ _ _ e => e⟩
theorem Kp.trans {Z : Kx} {g g1 g2 : Sg} (a : Kp Z g g1) (b : Kp Z g1 g2) : Kp Z g g2 := ⟨fun h => b.tup (a.tup h), fun c o l e => let ⟨l1, e1⟩ := a.li c o l e; b.li c o l1 e1, fun c o u e => b.fr c o u (a.fr c o u e)⟩
section
variable {Z : Kx} {g g' : Sg}
theorem ScrR.kp (t : Kp Z g g') {a : Addr} {xs : List V} (h : ScrR Z g a xs) : ScrR Z g' a xs := by
  rcases h with ⟨o, h⟩ | h
  · exact .inl ⟨o, t.fr a _ _ h⟩
  · exact .inr h
mutual
theorem RW.kp (t : Kp Z g g') : ∀ {w : W} {v : V}, RW Z g w v → RW Z g' w v
  | .non, _, h => h
  | .bl _, _, h => h
  | .int _, _, h => h
  | .str _, _, h => h
  | .tup ws, _, h => by
    obtain ⟨a, xs, e, h1, h2⟩ := h
    exact ⟨a, xs, e, t.tup h1, RWs.kp t h2⟩
  | .lis ws, _, h => by
    obtain ⟨a, xs, e, l, h1, h2⟩ := h
    obtain ⟨l1, h1⟩ := t.li a _ l h1
    exact ⟨a, xs, e, l1, h1, RWs.kp t h2⟩
  | .scr ws, _, h => by
    obtain ⟨a, xs, e, h1, h2⟩ := h
    exact ⟨a, xs, e, h1.kp t, RWs.kp t h2⟩
  | .dic ks ws, _, h => by
    obtain ⟨a, xs, e, l, ⟨ys, h1, h3, h4⟩, h2⟩ := h
    obtain ⟨l1, h1⟩ := t.li a _ l h1
    exact ⟨a, xs, e, l1, ⟨ys, h1, h3, h4⟩, RWs.kp t h2⟩
  | .obj c ks ws, _, h => by
    obtain ⟨a, xs, e, l, ⟨dx, fs, h1, h3, h4⟩, h2⟩ := h
    obtain ⟨l1, h1⟩ := t.li a _ l h1
    exact ⟨a, xs, e, l1, ⟨dx, fs, h1, h3, h4⟩, RWs.kp t h2⟩
theorem RWs.kp (t : Kp Z g g') : ∀ {ws : List W} {vs : List V}, RWs Z g ws vs → RWs Z g' ws vs
  | [], _, h => h
  | w :: ws, _, h => by
    obtain ⟨x, r, e, h1, h2⟩ := h
    exact ⟨x, r, e, RW.kp t h1, RWs.kp t h2⟩
end
/-- a thing that may change -/
def mutO : HO → Bool
  | .lst _ => true
  | .dK _ => true
  | .ins _ _ _ => true
  | _ => false
mutual
theorem OU.mu : ∀ {u : U} {v : V} {fp : List Addr} {a : Addr}, OU Z g u v fp → a ∈ fp → ∃ o, g.H a = some o ∧ mutO o = true
  | .d w, _, _, _, h, m => by rw [h.1] at m; cases m
  | .l us, _, _, a, h, m => by
    obtain ⟨b, xs, fs, _, h1, h2, rfl⟩ := h
    rcases List.mem_cons.mp m with rfl | m
    · exact ⟨_, h1, rfl⟩
    · exact OUs.mu h2 m
  | .c ks us, _, _, a, h, m => by
    obtain ⟨b, xs, fs, _, ⟨ys, h1, _⟩, h2, rfl⟩ := h
    rcases List.mem_cons.mp m with rfl | m
    · exact ⟨_, h1, rfl⟩
    · exact OUs.mu h2 m
  | .o c ks us, _, _, a, h, m => by
    obtain ⟨b, xs, fs, _, ⟨dx, gs, h1, _⟩, h2, rfl⟩ := h
    rcases List.mem_cons.mp m with rfl | m
    · exact ⟨_, h1, rfl⟩
    · exact OUs.mu h2 m
theorem OUs.mu : ∀ {u : List U} {v : List V} {fp : List Addr} {a : Addr}, OUs Z g u v fp → a ∈ fp → ∃ o, g.H a = some o ∧ mutO o = true
  | [], _, _, _, h, m => by rw [h.2] at m; cases m
  | u :: us, _, _, a, h, m => by
    obtain ⟨x, r, f1, f2, _, h1, h2, rfl⟩ := h
    rcases List.mem_append.mp m with m | m
    · exact OU.mu h1 m
    · exact OUs.mu h2 m
end
mutual
theorem OU.kp (t : Kp Z g g') : ∀ {u : U} {v : V} {fp : List Addr}, (∀ a ∈ fp, g'.H a = g.H a) → OU Z g u v fp → OU Z g' u v fp
  | .d w, _, _, _, h => ⟨h.1, h.2.kp t⟩
  | .l us, _, _, k, h => by
    obtain ⟨b, xs, fs, e, h1, h2, rfl⟩ := h
    exact ⟨b, xs, fs, e, (k b List.mem_cons_self).trans h1, OUs.kp t (fun a m => k a (List.mem_cons_of_mem _ m)) h2, rfl⟩
  | .c ks us, _, _, k, h => by
    obtain ⟨b, xs, fs, e, ⟨ys, h1, h3⟩, h2, rfl⟩ := h
    exact ⟨b, xs, fs, e, ⟨ys, (k b List.mem_cons_self).trans h1, h3⟩, OUs.kp t (fun a m => k a (List.mem_cons_of_mem _ m)) h2, rfl⟩
  | .o c ks us, _, _, k, h => by
    obtain ⟨b, xs, fs, e, ⟨dx, gs, h1, h3⟩, h2, rfl⟩ := h
    exact ⟨b, xs, fs, e, ⟨dx, gs, (k b List.mem_cons_self).trans h1, h3⟩, OUs.kp t (fun a m => k a (List.mem_cons_of_mem _ m)) h2, rfl⟩
theorem OUs.kp (t : Kp Z g g') : ∀ {u : List U} {v : List V} {fp : List Addr}, (∀ a ∈ fp, g'.H a = g.H a) → OUs Z g u v fp → OUs Z g' u v fp
  | [], _, _, _, h => h
  | u :: us, _, _, k, h => by
    obtain ⟨x, r, f1, f2, e, h1, h2, rfl⟩ := h
    exact ⟨x, r, f1, f2, e, OU.kp t (fun a m => k a (List.mem_append_left _ m)) h1, OUs.kp t (fun a m => k a (List.mem_append_right _ m)) h2, rfl⟩
end
/-! what is owned becomes data -/
mutual
theorem OU.fz (t : Kp Z g g') : ∀ {u : U} {v : V} {fp : List Addr}, (∀ a ∈ fp, g'.L a ∧ g'.H a = g.H a) → OU Z g u v fp → RW Z g' (FM.fz u) v
  | .d w, _, _, _, h => h.2.kp t
  | .l us, _, _, k, h => by
    obtain ⟨b, xs, fs, e, h1, h2, rfl⟩ := h
    obtain ⟨l, q⟩ := k b List.mem_cons_self
    exact ⟨b, xs, e, l, q.trans h1, OUs.fz t (fun a m => k a (List.mem_cons_of_mem _ m)) h2⟩
  | .c ks us, _, _, k, h => by
    obtain ⟨b, xs, fs, e, ⟨ys, h1, h3⟩, h2, rfl⟩ := h
    obtain ⟨l, q⟩ := k b List.mem_cons_self
    exact ⟨b, xs, e, l, ⟨ys, q.trans h1, h3⟩, OUs.fz t (fun a m => k a (List.mem_cons_of_mem _ m)) h2⟩
  | .o c ks us, _, _, k, h => by
    obtain ⟨b, xs, fs, e, ⟨dx, gs, h1, h3⟩, h2, rfl⟩ := h
    obtain ⟨l, q⟩ := k b List.mem_cons_self
    exact ⟨b, xs, e, l, ⟨dx, gs, q.trans h1, h3⟩, OUs.fz t (fun a m => k a (List.mem_cons_of_mem _ m)) h2⟩
theorem OUs.fz (t : Kp Z g g') : ∀ {u : List U} {v : List V} {fp : List Addr}, (∀ a ∈ fp, g'.L a ∧ g'.H a = g.H a) → OUs Z g u v fp → RWs Z g' (FM.fzs u) v
  | [], _, _, _, h => h.1
  | u :: us, _, _, k, h => by
    obtain ⟨x, r, f1, f2, e, h1, h2, rfl⟩ := h
    exact ⟨x, r, e, OU.fz t (fun a m => k a (List.mem_append_left _ m)) h1, OUs.fz t (fun a m => k a (List.mem_append_right _ m)) h2⟩
end

/-! ### names -/
theorem nth_iff {α : Type} : ∀ {l : List α} {i : Nat}, nth l i = l[i]?
  | [], i => by simp [nth]
  | o :: r, 0 => by simp [nth]
  | o :: r, i + 1 => by simp only [nth, List.getElem?_cons_succ]; exact nth_iff

/-- an exception's dict: its fields -/
def XD (g : Sg) (ks : List Nat) (xs : List V) (d : Addr) : Prop := ∃ fs, g.H d = some (.xd fs) ∧ fs.map (·.1) = ks.map nmS ∧ fs.map (·.2) = xs
/-- what is known of a caught exception: where its name is, its address, its class, its dict -/
structure Ct where
  i : Nat
  a : Addr
  c : Nat
  d : Addr
/-- a name and what it stands for. B: the lent things; T: the exception that is handled -/
def RN (Z : Kx) (g : Sg) (B : Nat → Option V) (T : Option Ct) (i : Nat) (o : Option V) (fp : List Addr) : En → Prop
  | .no => fp = []
  | .m u => ∃ v, o = some v ∧ OU Z g u v fp
  | .t u => ∃ v, B i = some v ∧ o = some v ∧ OU Z g u v fp
  | .x c ks ws => fp = [] ∧ ∃ t, T = some t ∧ t.i = i ∧ t.c = c ∧ o = some (.ref t.a) ∧ ∃ xs, XD g ks xs t.d ∧ g.L t.d ∧ RWs Z g ws xs
structure RE (Z : Kx) (B : Nat → Option V) (T : Option Ct) (g : Sg) (r : Env) (σ : L2.St) (F : Fp) : Prop where
  len : r.length = σ.length
  at_ : ∀ i e, r[i]? = some e → ∃ o, σ[i]? = some o ∧ RN Z g B T i o (F i) e
  out : ∀ i, r.length ≤ i → F i = []
  nod : ∀ i, (F i).Nodup
  dis : ∀ i j a, a ∈ F i → a ∈ F j → i = j
  nl : ∀ i a, a ∈ F i → ¬ g.L a
  la : ∀ a, g.L a → ∃ o, g.H a = some o
variable {B : Nat → Option V} {T : Option Ct} {r : Env} {σ : L2.St} {F F' : Fp}
theorem RE.mu (e : RE Z B T g r σ F) {i : Nat} {a : Addr} (m : a ∈ F i) : ∃ o, g.H a = some o ∧ mutO o = true := by
  cases h : r[i]? with
  | none =>
    rw [e.out i (List.getElem?_eq_none_iff.mp h)] at m
    cases m
  | some x =>
    obtain ⟨o, _, h⟩ := e.at_ i x h
    cases x with
    | no => rw [show F i = [] from h] at m; cases m
    | m u => obtain ⟨v, _, h⟩ := h; exact h.mu m
    | t u => obtain ⟨v, _, _, h⟩ := h; exact h.mu m
    | x c ks ws => rw [h.1] at m; cases m
theorem Go.kp (e : RE Z B T g r σ F) (t : Go g F g' F') : Kp Z g g' where
  tup := fun {a xs} h => by
    rcases h with (h | ⟨o, h⟩) | h
    · refine .inl (.inl (t.k a _ h fun i m => ?_))
      obtain ⟨o, q, z⟩ := e.mu m
      rw [h] at q; cases q; cases z
    · refine .inl (.inr ⟨o, t.k a _ h fun i m => ?_⟩)
      obtain ⟨o, q, z⟩ := e.mu m
      rw [h] at q; cases q; cases z
    · exact .inr h
  li := fun a o l h => ⟨t.l a l, t.k a o h fun i m => e.nl i a m l⟩
  fr := fun a o u h => t.k a _ h fun i m => by
    obtain ⟨o, q, z⟩ := e.mu m
    rw [h] at q; cases q; cases z
/-- addresses that no name owns, and that may still change -/
structure Tmp (g : Sg) (F : Fp) (fp : List Addr) : Prop where
  nod : fp.Nodup
  nl : ∀ a ∈ fp, ¬ g.L a
  nf : ∀ a ∈ fp, ∀ i, a ∉ F i
theorem OU.go {u : U} {v : V} {fp : List Addr} (e : RE Z B T g r σ F) (t : Go g F g' F') (x : Tmp g F fp) (h : OU Z g u v fp) : OU Z g' u v fp ∧ Tmp g' F' fp := by
  have al : ∀ a ∈ fp, ∃ o, g.H a = some o := fun a m => let ⟨o, q, _⟩ := h.mu m; ⟨o, q⟩
  refine ⟨h.kp (t.kp e) fun a m => ?_, x.nod, fun a m l => ?_, fun a m i hi => ?_⟩
  · obtain ⟨o, q⟩ := al a m
    rw [q]
    exact t.k a o q (x.nf a m)
  · obtain ⟨o, q⟩ := al a m
    rcases t.n a l with l | l | ⟨i, l⟩
    · exact x.nl a m l
    · rw [q] at l; cases l
    · exact x.nf a m i l
  · obtain ⟨o, q⟩ := al a m
    rcases t.s i a hi with l | ⟨j, l⟩
    · rw [q] at l; cases l
    · exact x.nf a m j l
theorem RWs.length : ∀ {ws : List W} {vs : List V}, RWs Z g ws vs → ws.length = vs.length
  | [], _, h => by cases h; rfl
  | w :: ws, _, h => by
    obtain ⟨x, r, rfl, _, h2⟩ := h
    simp [RWs.length h2]
theorem OUs.length : ∀ {ws : List U} {vs : List V} {fp : List Addr}, OUs Z g ws vs fp → ws.length = vs.length
  | [], _, _, h => by rw [h.1]; rfl
  | w :: ws, _, _, h => by
    obtain ⟨x, r, _, _, rfl, _, h2, _⟩ := h
    simp [OUs.length h2]
theorem RWs.get : ∀ {ws : List W} {vs : List V} {i : Nat} {w : W}, RWs Z g ws vs → ws[i]? = some w → ∃ v, vs[i]? = some v ∧ RW Z g w v
  | [], _, _, _, _, e => by simp at e
  | w :: ws, _, 0, _, h, e => by
    obtain ⟨x, r, rfl, h1, h2⟩ := h
    simp at e
    subst e
    exact ⟨x, by simp, h1⟩
  | w :: ws, _, i + 1, _, h, e => by
    obtain ⟨x, r, rfl, h1, h2⟩ := h
    simp at e
    obtain ⟨v, a, b⟩ := RWs.get h2 e
    exact ⟨v, by simpa using a, b⟩
theorem RWs.append : ∀ {ws us : List W} {vs xs : List V}, RWs Z g ws vs → RWs Z g us xs → RWs Z g (ws ++ us) (vs ++ xs)
  | [], _, _, _, h, h' => by cases h; exact h'
  | w :: ws, _, _, _, h, h' => by
    obtain ⟨x, r, rfl, h1, h2⟩ := h
    exact ⟨x, _, rfl, h1, RWs.append h2 h'⟩
theorem RWs.drop : ∀ {ws : List W} {vs : List V} (n : Nat), RWs Z g ws vs → RWs Z g (ws.drop n) (vs.drop n)
  | _, _, 0, h => h
  | [], _, n + 1, h => by cases h; rfl
  | w :: ws, _, n + 1, h => by
    obtain ⟨x, r, rfl, h1, h2⟩ := h
    exact RWs.drop n h2
theorem RWs.take : ∀ {ws : List W} {vs : List V} (n : Nat), RWs Z g ws vs → RWs Z g (ws.take n) (vs.take n)
  | _, _, 0, h => rfl
  | [], _, n + 1, h => by cases h; rfl
  | w :: ws, _, n + 1, h => by
    obtain ⟨x, r, rfl, h1, h2⟩ := h
    exact ⟨x, _, rfl, h1, RWs.take n h2⟩
theorem OUs.append : ∀ {a b : List U} {x y : List V} {f h : List Addr}, OUs Z g a x f → OUs Z g b y h → OUs Z g (a ++ b) (x ++ y) (f ++ h)
  | [], _, _, _, _, _, p, q => by
    obtain ⟨rfl, rfl⟩ := p
    exact q
  | u :: us, _, _, _, _, _, p, q => by
    obtain ⟨x, r, f1, f2, rfl, h1, h2, rfl⟩ := p
    exact ⟨x, _, f1, _, rfl, h1, OUs.append h2 q, by rw [List.append_assoc]⟩
/-- data as a thing that is owned -/
theorem OUs.dat : ∀ {ws : List W} {xs : List V}, RWs Z g ws xs → OUs Z g (ws.map U.d) xs []
  | [], _, h => ⟨h, rfl⟩
  | w :: ws, _, h => by
    obtain ⟨x, r, rfl, h1, h2⟩ := h
    exact ⟨x, r, [], [], rfl, ⟨rfl, h1⟩, OUs.dat h2, rfl⟩
theorem OUs.of_dats : ∀ {us : List U} {ws : List W} {xs : List V} {fp : List Addr}, dats us = some ws → OUs Z g us xs fp → fp = [] ∧ RWs Z g ws xs
  | [], _, _, _, e, h => by cases e; exact ⟨h.2, h.1⟩
  | .d w :: us, _, _, _, e, h => by
    obtain ⟨vs, e2, rfl⟩ := Option.map_eq_some_iff.mp e
    obtain ⟨x, r, f1, f2, rfl, ⟨rfl, h1⟩, h2, rfl⟩ := h
    obtain ⟨rfl, h3⟩ := OUs.of_dats e2 h2
    exact ⟨rfl, x, r, rfl, h1, h3⟩
  | .l _ :: _, _, _, _, e, _ => by cases e
  | .c _ _ :: _, _, _, _, e, _ => by cases e
  | .o _ _ _ :: _, _, _, _, e, _ => by cases e
end

/-! ### steps of names -/
section
variable {Z : Kx} {g g' : Sg} {B : Nat → Option V} {T : Option Ct} {r : Env} {σ : L2.St} {F F' : Fp}
theorem RN.kp (t : Kp Z g g') {i : Nat} {o : Option V} {fp : List Addr} {e : En} (k : ∀ a ∈ fp, g'.H a = g.H a) (h : RN Z g B T i o fp e) : RN Z g' B T i o fp e := by
  cases e with
  | no => exact h
  | m u => obtain ⟨v, e, h⟩ := h; exact ⟨v, e, h.kp t k⟩
  | t u => obtain ⟨v, b, e, h⟩ := h; exact ⟨v, b, e, h.kp t k⟩
  | x c ks ws =>
    obtain ⟨z, q, h1, h2, h3, h4, xs, ⟨fs, h5, h6⟩, h7, h8⟩ := h
    obtain ⟨l, h5⟩ := t.li _ _ h7 h5
    exact ⟨z, q, h1, h2, h3, h4, xs, ⟨fs, h5, h6⟩, l, h8.kp t⟩
def Fp.set (F : Fp) (i : Nat) (fp : List Addr) : Fp := fun j => if j = i then fp else F j
theorem Fp.set_same {F : Fp} {i : Nat} {fp : List Addr} : F.set i fp i = fp := if_pos rfl
theorem Fp.set_ne {F : Fp} {i j : Nat} {fp : List Addr} (h : j ≠ i) : F.set i fp j = F j := if_neg h
/-- one name gets another thing; the others stay. fp: its addresses -/
theorem RE.put (e : RE Z B T g r σ F) {i : Nat} {o : Option V} {fp : List Addr} {x : En} (t : Kp Z g g') (hk : ∀ j, j ≠ i → ∀ a ∈ F j, g'.H a = g.H a) (hi : i < r.length) (h : RN Z g' B T i o fp x)
    (nod : fp.Nodup) (nl : ∀ a ∈ fp, ¬ g'.L a) (nf : ∀ j, j ≠ i → ∀ a ∈ fp, a ∉ F j) (lk : ∀ j, j ≠ i → ∀ a ∈ F j, ¬ g'.L a) (la : ∀ a, g'.L a → ∃ o, g'.H a = some o) :
    RE Z B T g' (r.set i x) (σ.set i o) (F.set i fp) where
  len := by simp [e.len]
  at_ := fun j y hj => by
    by_cases hji : i = j
    · subst hji
      rw [List.getElem?_set_self hi] at hj
      cases hj
      exact ⟨o, by rw [List.getElem?_set_self (by rw [← e.len]; exact hi)], by rw [Fp.set_same]; exact h⟩
    · rw [List.getElem?_set_ne hji] at hj
      obtain ⟨p, h1, h2⟩ := e.at_ j y hj
      exact ⟨p, by rw [List.getElem?_set_ne hji]; exact h1, by rw [Fp.set_ne (Ne.symm hji)]; exact h2.kp t (hk j (Ne.symm hji))⟩
  out := fun j hj => by
    rw [List.length_set] at hj
    rw [Fp.set_ne (by omega)]
    exact e.out j hj
  nod := fun j => by
    by_cases hj : j = i
    · subst hj; rw [Fp.set_same]; exact nod
    · rw [Fp.set_ne hj]; exact e.nod j
  dis := fun j k a hj hk' => by
    by_cases h1 : j = i
    · by_cases h2 : k = i
      · rw [h1, h2]
      · subst h1
        rw [Fp.set_same] at hj
        rw [Fp.set_ne h2] at hk'
        exact absurd hk' (nf k h2 a hj)
    · rw [Fp.set_ne h1] at hj
      by_cases h2 : k = i
      · subst h2
        rw [Fp.set_same] at hk'
        exact absurd hj (nf j h1 a hk')
      · rw [Fp.set_ne h2] at hk'
        exact e.dis j k a hj hk'
  nl := fun j a hj => by
    by_cases h1 : j = i
    · subst h1; rw [Fp.set_same] at hj; exact nl a hj
    · rw [Fp.set_ne h1] at hj; exact lk j h1 a hj
  la := la
theorem set_self {α : Type} {l : List α} {i : Nat} {o : α} (h : l[i]? = some o) : l.set i o = l := by
  apply List.ext_getElem?
  intro j
  by_cases e : i = j
  · subst e
    rw [List.getElem?_set_self (by
      rcases Nat.lt_or_ge i l.length with h' | h'
      · exact h'
      · rw [List.getElem?_eq_none h'] at h; cases h), h]
  · rw [List.getElem?_set_ne e]
theorem lt_of_get {α : Type} {l : List α} {i : Nat} {o : α} (h : l[i]? = some o) : i < l.length := by
  rcases Nat.lt_or_ge i l.length with h' | h'
  · exact h'
  · rw [List.getElem?_eq_none h'] at h; cases h
/-- what a name owned is dropped, it gets data -/
theorem RE.bind (e : RE Z B T g r σ F) {i : Nat} {u : U} {v : V} {fp : List Addr} (hi : i < r.length) (h : OU Z g u v fp) (x : Tmp g F fp) : RE Z B T g (r.set i (.m u)) (σ.set i (some v)) (F.set i fp) :=
  e.put .refl (fun _ _ _ _ => rfl) hi ⟨v, rfl, h⟩ x.nod x.nl (fun j _ a m => x.nf a m j) (fun j _ a m => e.nl j a m) e.la
theorem Go.bind (e : RE Z B T g r σ F) {g0 : Sg} {F0 : Fp} (t : Go g0 F0 g F) {i : Nat} {fp : List Addr} (hs : ∀ a ∈ fp, g0.H a = none ∨ ∃ j, a ∈ F0 j) : Go g0 F0 g (F.set i fp) :=
  ⟨t.l, t.k, t.a, t.n, fun j b h => by
    by_cases hj : j = i
    · subst hj; rw [Fp.set_same] at h; exact hs b h
    · rw [Fp.set_ne hj] at h; exact t.s j b h⟩
theorem tmp_nil : Tmp g F [] := ⟨List.nodup_nil, fun _ h => (nomatch h), fun _ h => (nomatch h)⟩
/-- a name is emptied -/
theorem RE.drop (e : RE Z B T g r σ F) {i : Nat} {o : Option V} (hi : i < r.length) : RE Z B T g (r.set i .no) (σ.set i o) (F.set i []) :=
  e.put .refl (fun _ _ _ _ => rfl) hi rfl List.nodup_nil (fun _ h => (nomatch h)) (fun _ _ _ h => (nomatch h)) (fun j _ a m => e.nl j a m) e.la
/-- a new thing is laid that is nobody's -/
theorem lay_kp {a : Addr} {o : HO} (n : g.H a = none) : Kp Z g { g with H := upd g.H a o } := by
  have keep : ∀ b u, g.H b = some u → (upd g.H a o) b = some u := fun b u e => by rw [upd_ne (ne_of_none e n)]; exact e
  refine ⟨fun {b xs} h => ?_, fun b u l e => ⟨l, keep b u e⟩, fun b u w e => keep b _ e⟩
  rcases h with (h | ⟨ob, h⟩) | h
  · exact .inl (.inl (keep _ _ h))
  · exact .inl (.inr ⟨ob, keep _ _ h⟩)
  · exact .inr h
theorem RE.lay (e : RE Z B T g r σ F) {a : Addr} {o : HO} (n : g.H a = none) : RE Z B T { g with H := upd g.H a o } r σ F ∧ Go g F { g with H := upd g.H a o } F := by
  have keep : ∀ b u, g.H b = some u → (upd g.H a o) b = some u := fun b u q => by rw [upd_ne (ne_of_none q n)]; exact q
  have ks : ∀ j, ∀ b ∈ F j, (upd g.H a o) b = g.H b := fun j b m => by
    obtain ⟨u, q, _⟩ := e.mu m
    rw [keep b u q, q]
  refine ⟨⟨e.len, fun i x h => ?_, e.out, e.nod, e.dis, e.nl, fun b l => ?_⟩, ⟨fun _ l => l, fun b u q _ => keep b u q, fun b q => ?_, fun b l => .inl l, fun i b m => .inr ⟨i, m⟩⟩⟩
  · obtain ⟨p, h1, h2⟩ := e.at_ i x h
    exact ⟨p, h1, h2.kp (lay_kp n) (ks i)⟩
  · obtain ⟨u, q⟩ := e.la b l
    exact ⟨u, keep b u q⟩
  · cases h : g.H b with
    | none => rfl
    | some u =>
      have q : (upd g.H a o) b = none := q
      rw [keep b u h] at q
      cases q
theorem tmp_new (e : RE Z B T g r σ F) {a : Addr} (n : g.H a = none) : Tmp g F [a] := by
  refine ⟨by simp, fun b m l => ?_, fun b m i hi => ?_⟩
  · rw [List.mem_singleton.mp m] at l
    obtain ⟨u, q⟩ := e.la a l
    rw [n] at q; cases q
  · rw [List.mem_singleton.mp m] at hi
    obtain ⟨u, q, _⟩ := e.mu hi
    rw [n] at q; cases q
/-- what nobody owns becomes data -/
theorem RE.frz (e : RE Z B T g r σ F) {fp : List Addr} (x : Tmp g F fp) (al : ∀ a ∈ fp, ∃ o, g.H a = some o) :
    RE Z B T ⟨g.H, fun a => g.L a ∨ a ∈ fp⟩ r σ F ∧ Kp Z g ⟨g.H, fun a => g.L a ∨ a ∈ fp⟩ := by
  have k : Kp Z g ⟨g.H, fun a => g.L a ∨ a ∈ fp⟩ := ⟨fun h => h, fun a o l e => ⟨.inl l, e⟩, fun _ _ _ e => e⟩
  refine ⟨⟨e.len, fun i y h => ?_, e.out, e.nod, e.dis, fun i a m l => ?_, fun a l => ?_⟩, k⟩
  · obtain ⟨p, h1, h2⟩ := e.at_ i y h
    exact ⟨p, h1, h2.kp k fun _ _ => rfl⟩
  · rcases l with l | l
    · exact e.nl i a m l
    · exact x.nf a l i m
  · rcases l with l | l
    · exact e.la a l
    · exact al a l
theorem Go.frz {g0 : Sg} {F0 : Fp} (t : Go g0 F0 g F) {fp : List Addr} (hs : ∀ a ∈ fp, g0.H a = none ∨ ∃ j, a ∈ F0 j) : Go g0 F0 ⟨g.H, fun a => g.L a ∨ a ∈ fp⟩ F :=
  ⟨fun a l => .inl (t.l a l), t.k, t.a, fun b l => by
    rcases l with l | l
    · exact t.n b l
    · rcases hs b l with h | h
      · exact .inr (.inl h)
      · exact .inr (.inr h), t.s⟩
/-- a thing of a name's own is changed at its root address -/
theorem RE.chg (e : RE Z B T g r σ F) {i : Nat} {a : Addr} {o : HO} {fs : List Addr} (hF : F i = a :: fs) : Kp Z g { g with H := upd g.H a o } ∧ (∀ j, j ≠ i → ∀ b ∈ F j, upd g.H a o b = g.H b) ∧ (∀ b ∈ fs, upd g.H a o b = g.H b) := by
  have am : a ∈ F i := by rw [hF]; exact List.mem_cons_self
  obtain ⟨u, hu, mu⟩ := e.mu am
  have nd := e.nod i
  rw [hF, List.nodup_cons] at nd
  refine ⟨⟨fun {b xs} h => ?_, fun b o' l q => ⟨l, ?_⟩, fun b ob w h => (upd_ne (fun z => by rw [z, hu] at h; cases h; cases mu)).trans h⟩, fun j hj b m => upd_ne fun z => hj (e.dis j i b m (z ▸ am)), fun b m => upd_ne fun z => nd.1 (z ▸ m)⟩
  · rcases h with (h | ⟨ob, h⟩) | h
    · exact .inl (.inl ((upd_ne (fun z => by rw [z, hu] at h; cases h; cases mu)).trans h))
    · exact .inl (.inr ⟨ob, (upd_ne (fun z => by rw [z, hu] at h; cases h; cases mu)).trans h⟩)
    · exact .inr h
  · exact (upd_ne (fun z => e.nl i a am (by rw [← z]; exact l))).trans q
end
end FM


set_option Elab.async false
set_option linter.all false
set_option maxRecDepth 100000
set_option maxHeartbeats 2000000
/-! The judgements: a piece of the text and its evaluation. -/
namespace FM
open PySem L2

/-- the context: the layer's, the classes, what is wanted of an exception, what is lent, what is handled -/
structure Cz where
  X : Cx
  ca : Nat → Addr
  W : WX
  B : Nat → Option V
  T : Option Ct
abbrev Cz.Z (C : Cz) : Kx := ⟨C.X.K, C.ca⟩
section
variable (C : Cz)
/-- what is wanted of an exception -/
def XOk (g : Sg) (F : Fp) (σ : L2.St) (x : Xn) (r : Env) : Prop := ∀ g' F' d xs, Go g F g' F' → RE C.Z C.B C.T g' r σ F' → XD g' x.ks xs d → g'.L d → RWs C.Z g' x.ws xs → C.W (.ref (C.ca x.c)) (some d) σ g'.H
def POk (g : Sg) (F : Fp) (σ : L2.St) {α : Type} (Q : α → Sg → Fp → Prop) : Res α → Prop
  | .ok a r => ∀ g' F', Go g F g' F' → RE C.Z C.B C.T g' r σ F' → Q a g' F'
  | .ex x r => XOk C g F σ x r
  | .bad => False
def Src (g : Sg) (F : Fp) (fp : List Addr) : Prop := ∀ a ∈ fp, g.H a = none ∨ ∃ j, a ∈ F j
/-- an operand -/
def ArgR (g : Sg) (F : Fp) (σ : L2.St) : Arg → V → Prop
  | .w w, v => RW C.Z g w v
  | .fr u, v => ∃ fp, OU C.Z g u v fp ∧ Tmp g F fp
  | .sl i, v => σ[i]? = some (some v)
def ArgsR (g : Sg) (F : Fp) (σ : L2.St) : List Arg → List V → Prop
  | [], vs => vs = []
  | a :: as, vs => ∃ v r, vs = v :: r ∧ ArgR C g F σ a v ∧ ArgsR g F σ as r
/-- data -/
def SE (e : Expr) (m : Env → Res W) : Prop := ∃ t : TE, PE C.X e t ∧ ∀ (g : Sg) (r : Env) (σ : L2.St) (F : Fp) (Q : VK), RE C.Z C.B C.T g r σ F →
  POk C g F σ (fun w g' _ => ∀ v, RW C.Z g' w v → Q v g'.H) (m r) → t σ g.H Q
/-- an operand -/
def SV (e : Expr) (m : Env → Res Arg) : Prop := ∃ t : TE, PE C.X e t ∧ ∀ (g : Sg) (r : Env) (σ : L2.St) (F : Fp) (Q : VK), RE C.Z C.B C.T g r σ F →
  POk C g F σ (fun a g' F' => ∀ v, ArgR C g' F' σ a v → Q v g'.H) (m r) → t σ g.H Q
/-- a thing just made -/
def SU (e : Expr) (m : Env → Res U) : Prop := ∃ t : TE, PE C.X e t ∧ ∀ (g : Sg) (r : Env) (σ : L2.St) (F : Fp) (Q : VK), RE C.Z C.B C.T g r σ F →
  POk C g F σ (fun u g' F' => ∀ v fp, OU C.Z g' u v fp → Tmp g' F' fp → Src g F fp → Q v g'.H) (m r) → t σ g.H Q
/-- a test -/
def STt (e : Expr) (m : Env → Res Bool) : Prop := ∃ t : TT, PT C.X e t ∧ ∀ (g : Sg) (r : Env) (σ : L2.St) (F : Fp) (Q : Bool → Hp → Prop), RE C.Z C.B C.T g r σ F →
  POk C g F σ (fun b g' _ => Q b g'.H) (m r) → t σ g.H Q
/-- values; operands -/
def SA (es : List Expr) (m : Env → Res (List W)) : Prop := ∃ t : TA, PA C.X es t ∧ ∀ (g : Sg) (r : Env) (σ : L2.St) (F : Fp) (Q : List V → Hp → Prop), RE C.Z C.B C.T g r σ F →
  POk C g F σ (fun ws g' _ => ∀ vs, RWs C.Z g' ws vs → Q vs g'.H) (m r) → t σ g.H Q
def SAV (es : List Expr) (m : Env → Res (List Arg)) : Prop := ∃ t : TA, PA C.X es t ∧ ∀ (g : Sg) (r : Env) (σ : L2.St) (F : Fp) (Q : List V → Hp → Prop), RE C.Z C.B C.T g r σ F →
  POk C g F σ (fun as g' F' => ∀ vs, ArgsR C g' F' σ as vs → Q vs g'.H) (m r) → t σ g.H Q
/-- what is wanted behind a statement -/
def DOk (D : Ends) (g : Sg) (F : Fp) : SRes → Prop
  | .nx r => ∀ g' F' σ, Go g F g' F' → RE C.Z C.B C.T g' r σ F' → D.nx σ g'.H
  | .rt u r => ∀ g' F' σ v fp, Go g F g' F' → RE C.Z C.B C.T g' r σ F' → OU C.Z g' u v fp → Tmp g' F' fp → Src g F fp → D.rt v g'.H
  | .bk r => ∀ g' F' σ, Go g F g' F' → RE C.Z C.B C.T g' r σ F' → D.bk σ g'.H
  | .ct r => ∀ g' F' σ, Go g F g' F' → RE C.Z C.B C.T g' r σ F' → D.ct σ g'.H
  | .ex x r => ∀ σ, XOk C g F σ x r
  | .bad => False
def SS (st : Stmt) (m : Env → SRes) : Prop := ∃ t : TS, PS C.X st t ∧ ∀ (g : Sg) (r : Env) (σ : L2.St) (F : Fp) (D : Ends), RE C.Z C.B C.T g r σ F → DOk C D g F (m r) → t D σ g.H
def SSs (sts : List Stmt) (m : Env → SRes) : Prop := ∃ t : TS, PSs C.X sts t ∧ ∀ (g : Sg) (r : Env) (σ : L2.St) (F : Fp) (D : Ends), RE C.Z C.B C.T g r σ F → DOk C D g F (m r) → t D σ g.H
end

section
variable {C : Cz} {g g1 : Sg} {F F1 : Fp} {σ : L2.St} {r : Env}
theorem Src.mono {fp : List Addr} (t : Go g F g1 F1) (h : Src g1 F1 fp) : Src g F fp := fun a m => by
  rcases h a m with h | ⟨j, h⟩
  · exact .inl (t.a a h)
  · exact t.s j a h
theorem XOk.mono {x : Xn} (t : Go g F g1 F1) (h : XOk C g F σ x r) : XOk C g1 F1 σ x r := fun g' F' d xs t' => h g' F' d xs (t.trans t')
theorem POk.mono {α : Type} {Q : α → Sg → Fp → Prop} (t : Go g F g1 F1) : ∀ {x : Res α}, POk C g F σ Q x → POk C g1 F1 σ Q x
  | .ok a r, h => fun g' F' t' => h g' F' (t.trans t')
  | .ex x r, h => XOk.mono t h
  | .bad, h => h
theorem POk.imp {α : Type} {Q P : α → Sg → Fp → Prop} (hk : ∀ a g1 F1, Go g F g1 F1 → Q a g1 F1 → P a g1 F1) : ∀ {x : Res α}, POk C g F σ Q x → POk C g F σ P x
  | .ok a r, h => fun g' F' t' e => hk a g' F' t' (h g' F' t' e)
  | .ex x r, h => h
  | .bad, h => h
theorem POk.seq {α β : Type} {Q : β → Sg → Fp → Prop} {P : α → Sg → Fp → Prop} {f : α → Env → Res β} : ∀ {x : Res α}, POk C g F σ Q (x.bind f) →
    (∀ a r1 g1 F1, Go g F g1 F1 → RE C.Z C.B C.T g1 r1 σ F1 → POk C g1 F1 σ Q (f a r1) → P a g1 F1) → POk C g F σ P x
  | .ok a r, h, hk => fun g' F' t' e => hk a r g' F' t' e (POk.mono (x := f a r) t' h)
  | .ex x r, h, _ => h
  | .bad, h, _ => h
theorem POk.of {α : Type} {Q : α → Sg → Fp → Prop} {o : Option α} (e : RE C.Z C.B C.T g r σ F) (h : POk C g F σ Q (Res.of o r)) : ∃ a, o = some a ∧ Q a g F := by
  cases o with
  | none => exact False.elim h
  | some a => exact ⟨a, rfl, h g F (.refl g F) e⟩
theorem POk.now {α : Type} {Q : α → Sg → Fp → Prop} {a : α} (e : RE C.Z C.B C.T g r σ F) (h : POk C g F σ Q (.ok a r)) : Q a g F := h g F (.refl g F) e
theorem DOk.mono {D : Ends} (t : Go g F g1 F1) : ∀ {x : SRes}, DOk C D g F x → DOk C D g1 F1 x
  | .nx r, h => fun g' F' σ t' => h g' F' σ (t.trans t')
  | .rt u r, h => fun g' F' σ v fp t' e o x s => h g' F' σ v fp (t.trans t') e o x (s.mono t)
  | .bk r, h => fun g' F' σ t' => h g' F' σ (t.trans t')
  | .ct r, h => fun g' F' σ t' => h g' F' σ (t.trans t')
  | .ex x r, h => fun σ => XOk.mono t (h σ)
  | .bad, h => h
theorem DOk.seq {α : Type} {D : Ends} {P : α → Sg → Fp → Prop} {f : α → Env → SRes} : ∀ {x : Res α}, DOk C D g F (x.toS f) →
    (∀ a r1 g1 F1, Go g F g1 F1 → RE C.Z C.B C.T g1 r1 σ F1 → DOk C D g1 F1 (f a r1) → P a g1 F1) → POk C g F σ P x
  | .ok a r, h, hk => fun g' F' t' e => hk a r g' F' t' e (DOk.mono (x := f a r) t' h)
  | .ex x r, h, _ => h σ
  | .bad, h, _ => h
theorem ArgR.go (e : RE C.Z C.B C.T g r σ F) (t : Go g F g1 F1) : ∀ {a : Arg} {v : V}, ArgR C g F σ a v → ArgR C g1 F1 σ a v
  | .w w, v, h => RW.kp (t.kp e) h
  | .fr u, v, h => by
    obtain ⟨fp, h1, h2⟩ := h
    obtain ⟨h3, h4⟩ := h1.go e t h2
    exact ⟨fp, h3, h4⟩
  | .sl i, v, h => h
theorem ArgsR.go (e : RE C.Z C.B C.T g r σ F) (t : Go g F g1 F1) : ∀ {as : List Arg} {vs : List V}, ArgsR C g F σ as vs → ArgsR C g1 F1 σ as vs
  | [], _, h => h
  | a :: as, _, h => by
    obtain ⟨v, r, q, h1, h2⟩ := h
    exact ⟨v, r, q, h1.go e t, ArgsR.go e t h2⟩
/-- a thing as it is read -/
def BR (Z : Kx) (g : Sg) : W → V → Prop
  | .lis ws, v => ∃ a xs, v = .ref a ∧ g.H a = some (.lst xs) ∧ RWs Z g ws xs
  | .dic ks ws, v => ∃ a xs, v = .ref a ∧ DicR g a ks xs ∧ RWs Z g ws xs
  | .obj c ks ws, v => ∃ a xs, v = .ref a ∧ ObjR Z g a c ks xs ∧ RWs Z g ws xs
  | w, v => RW Z g w v
theorem RW.br {Z : Kx} {g : Sg} {w : W} {v : V} (h : RW Z g w v) : BR Z g w v := by
  cases w with
  | lis ws => obtain ⟨a, xs, e, _, h1, h2⟩ := h; exact ⟨a, xs, e, h1, h2⟩
  | dic ks ws => obtain ⟨a, xs, e, _, h1, h2⟩ := h; exact ⟨a, xs, e, h1, h2⟩
  | obj c ks ws => obtain ⟨a, xs, e, _, h1, h2⟩ := h; exact ⟨a, xs, e, h1, h2⟩
  | _ => exact h
theorem OU.br {Z : Kx} {g : Sg} {u : U} {w : W} {v : V} {fp : List Addr} (h : OU Z g u v fp) (e : vwU u = some w) : BR Z g w v := by
  cases u with
  | d x => cases e; exact h.2.br
  | l us =>
    obtain ⟨ws, e1, rfl⟩ := Option.map_eq_some_iff.mp e
    obtain ⟨a, xs, fs, e2, h1, h2, _⟩ := h
    exact ⟨a, xs, e2, h1, (OUs.of_dats e1 h2).2⟩
  | c ks us =>
    obtain ⟨ws, e1, rfl⟩ := Option.map_eq_some_iff.mp e
    obtain ⟨a, xs, fs, e2, h1, h2, _⟩ := h
    exact ⟨a, xs, e2, h1, (OUs.of_dats e1 h2).2⟩
  | o c ks us =>
    obtain ⟨ws, e1, rfl⟩ := Option.map_eq_some_iff.mp e
    obtain ⟨a, xs, fs, e2, h1, h2, _⟩ := h
    exact ⟨a, xs, e2, h1, (OUs.of_dats e1 h2).2⟩
theorem RE.look {Z : Kx} {B : Nat → Option V} {T : Option Ct} (e : RE Z B T g r σ F) {i : Nat} {u : U} (h : lookU r i = some u) : ∃ v x, r[i]? = some x ∧ cont x = some u ∧ σ[i]? = some (some v) ∧ OU Z g u v (F i) := by
  unfold lookU at h
  rw [nth_iff] at h
  obtain ⟨x, h1, h2⟩ := Option.bind_eq_some_iff.mp h
  obtain ⟨o, h3, h4⟩ := e.at_ i x h1
  cases x with
  | no => cases h2
  | m w => cases h2; obtain ⟨v, rfl, h5⟩ := h4; exact ⟨v, _, h1, rfl, h3, h5⟩
  | t w => cases h2; obtain ⟨v, _, rfl, h5⟩ := h4; exact ⟨v, _, h1, rfl, h3, h5⟩
  | x c ks ws => cases h2
theorem ArgR.vw (e : RE C.Z C.B C.T g r σ F) {a : Arg} {v : V} {w : W} (h : ArgR C g F σ a v) (q : FM.vw r a = some w) : BR C.Z g w v := by
  cases a with
  | w x => cases q; exact RW.br h
  | fr u => obtain ⟨fp, h1, _⟩ := h; exact h1.br q
  | sl i =>
    obtain ⟨u, q1, q2⟩ := Option.bind_eq_some_iff.mp q
    obtain ⟨v', x, _, _, h3, h4⟩ := e.look q1
    have h : σ[i]? = some (some v) := h
    rw [h] at h3
    cases h3
    exact h4.br q2
/-- what is read as a sequence -/
theorem BR.seq {Z : Kx} {g : Sg} {w : W} {v : V} {ws : List W} (h : BR Z g w v) (q : seqW w = some ws) : ∃ p xs, v = .ref p ∧ (SqL Z.K g.H p xs ∨ SqT Z.K g.H p xs) ∧ RWs Z g ws xs := by
  cases w with
  | tup us => cases q; obtain ⟨a, xs, e, h1, h2⟩ := h; exact ⟨a, xs, e, .inr h1, h2⟩
  | lis us => cases q; obtain ⟨a, xs, e, h1, h2⟩ := h; exact ⟨a, xs, e, .inl (.inl (.inl h1)), h2⟩
  | scr us =>
    cases q
    obtain ⟨a, xs, e, h1, h2⟩ := h
    refine ⟨a, xs, e, .inl ?_, h2⟩
    rcases h1 with ⟨o, h1⟩ | h1
    · exact .inl (.inr ⟨o, h1⟩)
    · exact .inr h1
  | _ => cases q
theorem BR.lst {Z : Kx} {g : Sg} {w : W} {v : V} {ws : List W} (h : BR Z g w v) (q : lstW w = some ws) : ∃ p xs, v = .ref p ∧ g.H p = some (.lst xs) ∧ RWs Z g ws xs := by
  cases w with
  | lis us => cases q; exact h
  | _ => cases q

theorem PE.or {X : Cx} {e : Expr} {t u : TE} (a : PE X e t) (b : PE X e u) : PE X e (fun σ H Q => t σ H Q ∨ u σ H Q) := ⟨fun pins s σ H Q I h => by
  rcases h with h | h
  · exact a.run pins s σ H Q I h
  · exact b.run pins s σ H Q I h⟩
end

section
variable {C : Cz}
theorem SV.e {e : Expr} {m : Env → Res W} (h : SE C e m) : SV C e (fun r => (m r).bind fun w r1 => .ok (.w w) r1) := by
  obtain ⟨t, p, i⟩ := h
  refine ⟨t, p, fun g r σ F Q re k => i g r σ F Q re (k.seq fun w r1 g1 F1 t1 re1 k1 v rv => k1.now re1 v rv)⟩
theorem SV.u {e : Expr} {m : Env → Res U} (h : SU C e m) : SV C e (fun r => (m r).bind fun w r1 => .ok (.fr w) r1) := by
  obtain ⟨t, p, i⟩ := h
  refine ⟨t, p, fun g r σ F Q re k => i g r σ F Q re (k.seq fun w r1 g1 F1 t1 re1 k1 v fp o x _ => k1.now re1 v ⟨fp, o, x⟩)⟩
theorem SU.d {e : Expr} {m : Env → Res W} (h : SE C e m) : SU C e (fun r => (m r).bind fun w r1 => .ok (.d w) r1) := by
  obtain ⟨t, p, i⟩ := h
  refine ⟨t, p, fun g r σ F Q re k => i g r σ F Q re (k.seq fun w r1 g1 F1 t1 re1 k1 v rv => k1.now re1 v [] ⟨rfl, rv⟩ tmp_nil (fun _ m => nomatch m))⟩
/-- what was just made becomes data -/
theorem SE.frz {e : Expr} {m : Env → Res U} (h : SU C e m) : SE C e (fun r => (m r).bind fun u r1 => .ok (fz u) r1) := by
  obtain ⟨t, p, i⟩ := h
  refine ⟨t, p, fun g r σ F Q re k => ?_⟩
  dsimp only at k
  cases em : m r with
  | bad => rw [em] at k; exact False.elim k
  | ex x r1 =>
    rw [em] at k
    refine i g r σ F Q re ?_
    rw [em]
    exact k
  | ok u r1 =>
    rw [em] at k
    refine i g r σ F Q re ?_
    rw [em]
    intro g1 F1 t1 re1 v fp o x s
    have al : ∀ a ∈ fp, ∃ o, g1.H a = some o := fun a ma => let ⟨o, q, _⟩ := o.mu ma; ⟨o, q⟩
    obtain ⟨re2, kp⟩ := re1.frz x al
    exact k ⟨g1.H, fun a => g1.L a ∨ a ∈ fp⟩ F1 (t1.frz s) re2 v (o.fz kp fun a ma => ⟨.inr ma, rfl⟩)

/-! ### names, constants -/
theorem se_var {i : Nat} {x : Str} {pos : Pos} (hN : C.X.N[i]? = some x) (hv : Vis C.X.env.scope x) (hd : (x == ("__debug__" : Str)) = false) (hcd : (x == ("__classdict__" : Str)) = false) :
    SE C (.Name x pos) (fun r => match rdV r i with | some (w, r1) => .ok w r1 | none => .bad) := by
  refine ⟨_, pe_var hN hv hd hcd, fun g r σ F Q re k => ?_⟩
  dsimp only at k
  cases hr : rdV r i with
  | none => rw [hr] at k; exact False.elim k
  | some q =>
    obtain ⟨w, r1⟩ := q
    rw [hr] at k
    unfold rdV at hr
    rw [nth_iff] at hr
    cases he : r[i]? with
    | none => rw [he] at hr; cases hr
    | some e =>
      rw [he] at hr
      obtain ⟨o, h1, h2⟩ := re.at_ i e he
      cases e with
      | no => cases hr
      | x c ks ws => cases hr
      | t u =>
        cases u with
        | d w' =>
          cases hr
          obtain ⟨v, _, rfl, _, h3⟩ := h2
          exact ⟨v, h1, k g F (.refl g F) re v h3⟩
        | _ => cases hr
      | m u =>
        obtain ⟨v, rfl, h3⟩ := h2
        have own : r1 = r.set i (.m (.d (fz u))) → w = fz u → ∃ v, σ[i]? = some (some v) ∧ Q v g.H := by
          rintro rfl rfl
          refine ⟨v, h1, ?_⟩
          have hi := lt_of_get he
          have al : ∀ a ∈ F i, ∃ o, g.H a = some o := fun a ma => let ⟨o, q, _⟩ := h3.mu ma; ⟨o, q⟩
          have re1 := re.drop (i := i) (o := some v) hi
          rw [set_self h1] at re1
          have x : Tmp g (F.set i []) (F i) := ⟨re.nod i, re.nl i, fun a m j mj => by
            by_cases hj : j = i
            · subst hj; rw [Fp.set_same] at mj; cases mj
            · rw [Fp.set_ne hj] at mj; exact hj (re.dis j i a mj m)⟩
          obtain ⟨re2, kp⟩ := re1.frz x al
          have rw := h3.fz kp fun a ma => ⟨.inr ma, rfl⟩
          have re3 := re2.bind (i := i) (u := .d (fz u)) (v := v) (fp := []) (by simpa using hi) ⟨rfl, rw⟩ tmp_nil
          rw [List.set_set, set_self h1] at re3
          have go : Go g F ⟨g.H, fun a => g.L a ∨ a ∈ F i⟩ ((F.set i []).set i []) := ⟨fun _ l => .inl l, fun _ _ h _ => h, fun _ h => h, fun b l => by
            rcases l with l | l
            · exact .inl l
            · exact .inr (.inr ⟨i, l⟩), fun j b m => by
            by_cases hj : j = i
            · subst hj; rw [Fp.set_same] at m; cases m
            · rw [Fp.set_ne hj, Fp.set_ne hj] at m; exact .inr ⟨j, m⟩⟩
          exact k ⟨g.H, fun a => g.L a ∨ a ∈ F i⟩ _ go re3 v rw
        cases u with
        | d w' =>
          cases hr
          exact ⟨v, h1, k g F (.refl g F) re v h3.2⟩
        | l us => cases hr; exact own rfl rfl
        | c ks us => cases hr; exact own rfl rfl
        | o c ks us => cases hr; exact own rfl rfl
theorem sv_var {i : Nat} {x : Str} {pos : Pos} (hN : C.X.N[i]? = some x) (hv : Vis C.X.env.scope x) (hd : (x == ("__debug__" : Str)) = false) (hcd : (x == ("__classdict__" : Str)) = false) :
    SV C (.Name x pos) (fun r => match lookU r i with | some _ => .ok (.sl i) r | none => .bad) := by
  refine ⟨_, pe_var hN hv hd hcd, fun g r σ F Q re k => ?_⟩
  dsimp only at k
  cases hr : lookU r i with
  | none => rw [hr] at k; exact False.elim k
  | some u =>
    rw [hr] at k
    obtain ⟨v, x, _, _, h3, _⟩ := re.look hr
    exact ⟨v, h3, k g F (.refl g F) re v h3⟩
/-- a name's own thing is moved -/
theorem su_mv {i : Nat} {x : Str} {pos : Pos} (hN : C.X.N[i]? = some x) (hv : Vis C.X.env.scope x) (hd : (x == ("__debug__" : Str)) = false) (hcd : (x == ("__classdict__" : Str)) = false) :
    SU C (.Name x pos) (fun r => match mvV r i with | some (u, r1) => .ok u r1 | none => .bad) := by
  refine ⟨_, pe_var hN hv hd hcd, fun g r σ F Q re k => ?_⟩
  dsimp only at k
  cases hr : mvV r i with
  | none => rw [hr] at k; exact False.elim k
  | some q =>
    obtain ⟨u, r1⟩ := q
    rw [hr] at k
    unfold mvV at hr
    rw [nth_iff] at hr
    cases he : r[i]? with
    | none => rw [he] at hr; cases hr
    | some e =>
      rw [he] at hr
      cases e with
      | m w =>
        cases hr
        obtain ⟨o, h1, v, rfl, h3⟩ := re.at_ i _ he
        refine ⟨v, h1, ?_⟩
        have hi := lt_of_get he
        have re1 := re.drop (i := i) (o := some v) hi
        rw [set_self h1] at re1
        have x : Tmp g (F.set i []) (F i) := ⟨re.nod i, re.nl i, fun a m j mj => by
          by_cases hj : j = i
          · subst hj; rw [Fp.set_same] at mj; cases mj
          · rw [Fp.set_ne hj] at mj; exact hj (re.dis j i a mj m)⟩
        have go : Go g F g (F.set i []) := ⟨fun _ l => l, fun _ _ h _ => h, fun _ h => h, fun b l => .inl l, fun j b m => by
            by_cases hj : j = i
            · subst hj; rw [Fp.set_same] at m; cases m
            · rw [Fp.set_ne hj] at m; exact .inr ⟨j, m⟩⟩
        exact k g _ go re1 v (F i) h3 x (fun a m => .inr ⟨i, m⟩)
      | _ => cases hr
theorem se_const {e : Expr} {w : W} {v : V} (p : PE C.X e (tC v)) (h : ∀ g, RW C.Z g w v) : SE C e (fun r => .ok w r) :=
  ⟨_, p, fun g r σ F Q re k => k.now re v (h g)⟩
theorem se_unk {e : Expr} : SE C e (fun _ => .bad) := ⟨fun _ _ _ => False, ⟨fun _ _ _ _ _ _ h => h.elim⟩, fun g r σ F Q re k => k⟩

/-! ### arguments -/
def star_any_d : Unit := ()
def notStar : Expr → Bool
  | .Starred _ _ => false
  | _ => true
theorem star_ {e : Expr} {es : List Expr} {env : PySem.Env} (h : notStar e = true) : starEach (e :: es) env = (false, eval e env) :: starEach es env := by
  cases e <;> first | rfl | cases h
theorem star_any {pos : Pos} {env : PySem.Env} : ∀ {es : List Expr}, es.all notStar = true → (backTo pos (starEach es env)).any (·.1) = false
  | [], _ => rfl
  | e :: es, h => by
    rw [List.all_cons, Bool.and_eq_true] at h
    rw [star_ h.1]
    show (false || (backTo pos (starEach es env)).any (·.1)) = false
    rw [star_any h.2]; rfl
theorem sa_nil {f : IE → Env → Res W} : SA C [] (evs f []) := ⟨_, pa_nil, fun g r σ F Q re k => k.now re [] rfl⟩
theorem sa_cons {f : IE → Env → Res W} {e : Expr} {es : List Expr} {i : IE} {is : List IE} (hn : notStar e = true) (h1 : SE C e (f i)) (h2 : SA C es (evs f is)) : SA C (e :: es) (evs f (i :: is)) := by
  obtain ⟨ta, pa, ia⟩ := h1
  obtain ⟨tb, pb, ib⟩ := h2
  refine ⟨_, pa_cons pa pb (star_ hn), fun g r σ F Q re k => ?_⟩
  refine ia g r σ F _ re (k.seq fun w r1 g1 F1 t1 re1 k1 v rv => ?_)
  refine ib g1 r1 σ F1 _ re1 (k1.seq fun ws r2 g2 F2 t2 re2 k2 vs rvs => ?_)
  exact k2.now re2 (v :: vs) ⟨v, vs, rfl, rv.kp (t2.kp re1), rvs⟩
theorem sav_nil {f : IV → Env → Res Arg} : SAV C [] (evs f []) := ⟨_, pa_nil, fun g r σ F Q re k => k.now re [] rfl⟩
theorem sav_cons {f : IV → Env → Res Arg} {e : Expr} {es : List Expr} {i : IV} {is : List IV} (hn : notStar e = true) (h1 : SV C e (f i)) (h2 : SAV C es (evs f is)) : SAV C (e :: es) (evs f (i :: is)) := by
  obtain ⟨ta, pa, ia⟩ := h1
  obtain ⟨tb, pb, ib⟩ := h2
  refine ⟨_, pa_cons pa pb (star_ hn), fun g r σ F Q re k => ?_⟩
  refine ia g r σ F _ re (k.seq fun w r1 g1 F1 t1 re1 k1 v rv => ?_)
  refine ib g1 r1 σ F1 _ re1 (k1.seq fun ws r2 g2 F2 t2 re2 k2 vs rvs => ?_)
  exact k2.now re2 (v :: vs) ⟨v, vs, rfl, rv.go re1 t2, rvs⟩
end
end FM


set_option Elab.async false
set_option linter.all false
set_option maxRecDepth 100000
set_option maxHeartbeats 2000000
namespace FM
open PySem L2

/-! ### data -/
mutual
def datW : W → PyData
  | .non => .none
  | .bl b => .bool b
  | .int i => .int i
  | .str s => .str (sv s)
  | .tup ws => .tuple (datWs ws)
  | .lis ws => .list (datWs ws)
  | .dic _ _ => .none
  | .obj _ _ _ => .none
  | .scr _ => .none
def datWs : List W → List PyData
  | [] => []
  | w :: ws => datW w :: datWs ws
end
section
variable {Z : Kx} {g : Sg}
theorem sqL_of {K : PySem.W.Frag} {H : Hp} {p : Addr} {xs : List V} (h : H p = some (.lst xs)) : SqL K H p xs := .inl (.inl h)
mutual
theorem dp_of : ∀ {n : Nat} {w : W} {v : V}, okW n w = true → RW Z g w v → Dp Z.K g.H v (datW w)
  | _, .non, _, _, h => by cases h; exact .non
  | _, .bl b, _, _, h => by cases h; exact .bl b
  | _, .int b, _, _, h => by cases h; exact .int b
  | _, .str b, _, _, h => by cases h; exact .str _
  | 0, .tup ws, _, o, h => by cases o
  | n + 1, .tup ws, _, o, h => by
    obtain ⟨a, xs, rfl, h1, h2⟩ := h
    exact .tup h1 (dps_of (n := n) o h2)
  | 0, .lis ws, _, o, h => by cases o
  | n + 1, .lis ws, _, o, h => by
    obtain ⟨a, xs, rfl, _, h1, h2⟩ := h
    exact .lst (sqL_of h1) (dps_of (n := n) o h2)
  | _, .dic _ _, _, o, _ => by simp [okW] at o
  | _, .obj _ _ _, _, o, _ => by simp [okW] at o
  | _, .scr _, _, o, _ => by simp [okW] at o
theorem dps_of : ∀ {n : Nat} {ws : List W} {vs : List V}, okWs n ws = true → RWs Z g ws vs → DpAll Z.K g.H vs (datWs ws)
  | _, [], _, _, h => by cases h; exact .nil
  | n, w :: ws, _, o, h => by
    obtain ⟨x, r, rfl, h1, h2⟩ := h
    simp only [okWs, Bool.and_eq_true] at o
    exact .cons (dp_of o.1 h1) (dps_of o.2 h2)
end
theorem dp_br {n : Nat} {w : W} {v : V} (o : okW n w = true) (h : BR Z g w v) : Dp Z.K g.H v (datW w) := by
  cases w with
  | lis ws =>
    cases n with
    | zero => cases o
    | succ n =>
      obtain ⟨a, xs, rfl, h1, h2⟩ := h
      exact .lst (sqL_of h1) (dps_of (n := n) o h2)
  | dic _ _ => simp [okW] at o
  | obj _ _ _ => simp [okW] at o
  | _ => exact dp_of o h
end
mutual
theorem plain_dat : ∀ w : W, (datW w).plain = true
  | .non => rfl
  | .bl _ => rfl
  | .int _ => rfl
  | .str _ => rfl
  | .tup ws => plain_dats ws
  | .lis ws => plain_dats ws
  | .dic _ _ => rfl
  | .obj _ _ _ => rfl
  | .scr _ => rfl
theorem plain_dats : ∀ ws : List W, PyData.plainAll (datWs ws) = true
  | [] => rfl
  | w :: ws => by simp only [datWs, PyData.plainAll, plain_dat w, plain_dats ws, Bool.and_self]
end
mutual
theorem depth_dat : ∀ {n : Nat} {w : W}, okW n w = true → (datW w).depth ≤ n
  | _, .non, _ => by simp [datW, PyData.depth]
  | _, .bl _, _ => by simp [datW, PyData.depth]
  | _, .int _, _ => by simp [datW, PyData.depth]
  | _, .str _, _ => by simp [datW, PyData.depth]
  | 0, .tup ws, o => by cases o
  | n + 1, .tup ws, o => by
    have := depth_dats (n := n) (ws := ws) o
    simp only [datW, PyData.depth]
    omega
  | 0, .lis ws, o => by cases o
  | n + 1, .lis ws, o => by
    have := depth_dats (n := n) (ws := ws) o
    simp only [datW, PyData.depth]
    omega
  | _, .dic _ _, o => by simp [okW] at o
  | _, .obj _ _ _, o => by simp [okW] at o
  | _, .scr _, o => by simp [okW] at o
theorem depth_dats : ∀ {n : Nat} {ws : List W}, okWs n ws = true → PyData.depthAll (datWs ws) ≤ n
  | n, [], _ => by simp [datWs, PyData.depthAll]
  | n, w :: ws, o => by
    simp only [okWs, Bool.and_eq_true] at o
    have h1 := depth_dat o.1
    have h2 := depth_dats o.2
    simp only [datWs, PyData.depthAll]
    omega
end
theorem sv_beq (a b : List Nat) : (sv a == sv b) = eqS a b := by
  rw [Bool.eq_iff_iff, beq_iff_eq, eqS_iff]
  exact ⟨sv_inj, fun h => by rw [h]⟩
mutual
theorem eqv_dat : ∀ {n m : Nat} {a b : W}, okW n a = true → okW m b = true → PyData.eqv (datW a) (datW b) = eqP a b
  | _, _, .dic _ _, _, o, _ => by simp [okW] at o
  | _, _, .obj _ _ _, _, o, _ => by simp [okW] at o
  | _, _, .scr _, _, o, _ => by simp [okW] at o
  | _, _, .non, b, _, o => by cases b <;> first | rfl | (simp [okW] at o)
  | _, _, .bl a, b, _, o => by cases b <;> first | rfl | (simp [okW] at o) | (simp [datW, PyData.eqv, eqP, Bool.beq_eq_decide_eq]; done)
  | _, _, .int a, b, _, o => by cases b <;> first | rfl | (simp [okW] at o) | (simp [datW, PyData.eqv, eqP, Bool.beq_eq_decide_eq]; done)
  | _, _, .str a, b, _, o => by
    cases b with
    | str t => simp only [datW, PyData.eqv, eqP]; exact sv_beq _ _
    | dic _ _ => simp [okW] at o
    | obj _ _ _ => simp [okW] at o
    | scr _ => simp [okW] at o
    | _ => rfl
  | n, m, .tup as, b, o1, o2 => by
    cases b with
    | tup bs =>
      cases n with
      | zero => cases o1
      | succ n =>
        cases m with
        | zero => cases o2
        | succ m =>
          simp only [datW, PyData.eqv, eqP]
          exact eqv_dats (n := n) (m := m) o1 o2
    | dic _ _ => simp [okW] at o2
    | obj _ _ _ => simp [okW] at o2
    | scr _ => simp [okW] at o2
    | _ => rfl
  | n, m, .lis as, b, o1, o2 => by
    cases b with
    | lis bs =>
      cases n with
      | zero => cases o1
      | succ n =>
        cases m with
        | zero => cases o2
        | succ m =>
          simp only [datW, PyData.eqv, eqP]
          exact eqv_dats (n := n) (m := m) o1 o2
    | dic _ _ => simp [okW] at o2
    | obj _ _ _ => simp [okW] at o2
    | scr _ => simp [okW] at o2
    | _ => rfl
theorem eqv_dats : ∀ {n m : Nat} {a b : List W}, okWs n a = true → okWs m b = true → PyData.eqvAll (datWs a) (datWs b) = eqPs a b
  | _, _, [], [], _, _ => rfl
  | _, _, [], _ :: _, _, _ => rfl
  | _, _, _ :: _, [], _, _ => rfl
  | n, m, a :: as, b :: bs, o1, o2 => by
    simp only [okWs, Bool.and_eq_true] at o1 o2
    simp only [datWs, PyData.eqvAll, eqPs]
    rw [eqv_dat o1.1 o2.1, eqv_dats o1.2 o2.2]
end

/-! ### rules by data -/
section
variable {X : Cx}
def rEqP (K : PySem.W.Frag) (k : Bool) : R2 := fun x y H Q => ∃ d e, Dp K H x d ∧ Dp K H y e ∧ d.plain = true ∧ e.plain = true ∧ d.depth ≤ 61 ∧ Q (.bl (if k then PyData.eqv d e else !PyData.eqv d e)) H
theorem op_eqP (hu : X.A.units + 64 < cLine) : OpR X (compareOp .Eq) (rEqP X.K true) := by
  intro pins s σ H x y v u Q I rx ry h
  obtain ⟨d, e, hd, he, pd, pe, dd, q⟩ := h
  obtain ⟨as, r1⟩ := Dp.reads I d x v hd rx
  obtain ⟨bs, r2⟩ := Dp.reads I e y u he ry
  exact SeqAt.eq_plain r1 r2 pd pe (by omega) ⟨.bl _, H, I, rfl, q⟩
theorem op_neP (hu : X.A.units + 64 < cLine) : OpR X (compareOp .NotEq) (rEqP X.K false) := by
  intro pins s σ H x y v u Q I rx ry h
  obtain ⟨d, e, hd, he, pd, pe, dd, q⟩ := h
  obtain ⟨as, r1⟩ := Dp.reads I d x v hd rx
  obtain ⟨bs, r2⟩ := Dp.reads I e y u he ry
  exact SeqAt.ne_plain r1 r2 pd pe (by omega) ⟨.bl _, H, I, rfl, q⟩
def rInP (K : PySem.W.Frag) (k : Bool) : R2 := fun x y H Q => ∃ d ds, Dp K H x d ∧ (Dp K H y (.list ds) ∨ Dp K H y (.tuple ds)) ∧ d.plain = true ∧ PyData.plainAll ds = true ∧ d.depth ≤ 61 ∧ Q (.bl (if k then ds.any fun y => PyData.eqv y d else !ds.any fun y => PyData.eqv y d)) H
theorem op_inP (hu : X.A.units + 64 < cLine) : OpR X (compareOp .In) (rInP X.K true) := by
  intro pins s σ H x y v u Q I rx ry h
  obtain ⟨d, ds, hd, he, pd, pe, dd, q⟩ := h
  obtain ⟨as, r1⟩ := Dp.reads I d x v hd rx
  rcases he with he | he
  · obtain ⟨bs, r2⟩ := Dp.reads I _ y u he ry
    exact SeqAt.in_list_data r2 r1 pe pd (by omega) ⟨.bl _, H, I, rfl, q⟩
  · obtain ⟨bs, r2⟩ := Dp.reads I _ y u he ry
    exact SeqAt.in_tuple_data r2 r1 pe pd (by omega) ⟨.bl _, H, I, rfl, q⟩
theorem op_ninP (hu : X.A.units + 64 < cLine) : OpR X (compareOp .NotIn) (rInP X.K false) := by
  intro pins s σ H x y v u Q I rx ry h
  obtain ⟨d, ds, hd, he, pd, pe, dd, q⟩ := h
  obtain ⟨as, r1⟩ := Dp.reads I d x v hd rx
  rcases he with he | he
  · obtain ⟨bs, r2⟩ := Dp.reads I _ y u he ry
    exact SeqAt.notIn_list_data r2 r1 pe pd (by omega) ⟨.bl _, H, I, rfl, q⟩
  · obtain ⟨bs, r2⟩ := Dp.reads I _ y u he ry
    exact SeqAt.notIn_tuple_data r2 r1 pe pd (by omega) ⟨.bl _, H, I, rfl, q⟩

/-! ### comparisons by the evaluator -/
theorem any_dat {x : W} (ox : okW 60 x = true) : ∀ {n : Nat} {ws : List W}, okWs n ws = true → ((datWs ws).any fun y => PyData.eqv y (datW x)) = inW x ws
  | _, [], _ => rfl
  | n, w :: ws, o => by
    simp only [okWs, Bool.and_eq_true] at o
    have h := any_dat ox o.2
    simp only [datWs, List.any_cons, inW] at h ⊢
    rw [eqv_dat o.1 ox, h]
theorem ltS_iff : ∀ {a b : List Nat}, ltS a b = decide (a < b)
  | _, [] => by simp [ltS]
  | [], _ :: _ => by simp [ltS]
  | a :: as, b :: bs => by
    simp only [ltS]
    rw [ltS_iff (a := as) (b := bs)]
    by_cases h : a < b
    · simp [Nat.blt_eq, h, List.cons_lt_cons_iff]
    · by_cases e : a = b
      · subst e
        simp [List.cons_lt_cons_iff]
      · have : Nat.beq a b = false := by rw [← Bool.not_eq_true, Nat.beq_eq]; exact e
        simp [Nat.blt_eq, h, e, this, List.cons_lt_cons_iff]
/-- the operator's name -/
def C2.op : C2 → CmpOp
  | .eq => .Eq | .ne => .NotEq | .lt => .Lt | .le => .LtE | .gt => .Gt | .ge => .GtE | .is => .Is | .isn => .IsNot | .inn => .In | .nin => .NotIn
/-- what a comparison's rule must do -/
def CmpR (C : Cz) (op : C2) (r : R2) : Prop := OpR C.X (compareOp op.op) r ∧ ∀ (g : Sg) (x y : W) (b : Bool) (vx vy : V) (Q : VK), cmpW op x y = some b → BR C.Z g x vx → BR C.Z g y vy → Q (.bl b) g.H → r vx vy g.H Q
end
section
variable {C : Cz}
theorem eqW_dat {g : Sg} {x y : W} {b : Bool} {vx vy : V} (h : eqW x y = some b) (rx : BR C.Z g x vx) (ry : BR C.Z g y vy) :
    ∃ d e, Dp C.X.K g.H vx d ∧ Dp C.X.K g.H vy e ∧ d.plain = true ∧ e.plain = true ∧ d.depth ≤ 61 ∧ PyData.eqv d e = b := by
  unfold eqW at h
  split at h
  · rename_i o
    rw [Bool.and_eq_true] at o
    cases h
    exact ⟨_, _, dp_br (Z := C.Z) o.1 rx, dp_br (Z := C.Z) o.2 ry, plain_dat x, plain_dat y, Nat.le_trans (depth_dat o.1) (by decide), eqv_dat o.1 o.2⟩
  · cases h
theorem cmp_eq (hu : C.X.A.units + 64 < cLine) : CmpR C .eq (rEqP C.X.K true) := ⟨op_eqP hu, fun g x y b vx vy Q h rx ry q => by
  obtain ⟨d, e, h1, h2, h3, h4, h5, h6⟩ := eqW_dat (show eqW x y = some b from h) rx ry
  exact ⟨d, e, h1, h2, h3, h4, h5, by rw [if_pos rfl, h6]; exact q⟩⟩
theorem cmp_ne (hu : C.X.A.units + 64 < cLine) : CmpR C .ne (rEqP C.X.K false) := ⟨op_neP hu, fun g x y b vx vy Q h rx ry q => by
  obtain ⟨c, hc, rfl⟩ := Option.map_eq_some_iff.mp (show (eqW x y).map (!·) = some b from h)
  obtain ⟨d, e, h1, h2, h3, h4, h5, h6⟩ := eqW_dat hc rx ry
  exact ⟨d, e, h1, h2, h3, h4, h5, by rw [if_neg (by decide), h6]; exact q⟩⟩
/-! ### keys -/
theorem key_of {Z : Kx} {g : Sg} {w : W} {v : V} (hk : keyOk w = true) (r : RW Z g w v) : ∃ k : Key, v = kV k ∧ keyR w k := by
  cases w <;> cases hk
  · cases r; exact ⟨.inl _, rfl, rfl⟩
  · cases r; exact ⟨.inr _, rfl, rfl⟩
theorem keyR_beq {u w : W} {k l : Key} (h1 : keyR u k) (h2 : keyR w l) : beqW u w = decide (k = l) := by
  cases u <;> cases w <;> first | (cases h1; done) | (cases h2; done) | skip
  · cases h1; cases h2
    simp [beqW]
  · cases h1; cases h2
    simp [beqW]
  · cases h1; cases h2
    simp [beqW]
  · cases h1; cases h2
    rw [Bool.eq_iff_iff]
    simp only [beqW, eqS_iff, decide_eq_true_eq]
    exact ⟨fun h => by rw [h], fun h => sv_inj (Sum.inr.inj h)⟩
theorem KeysR.length : ∀ {ks : List W} {ys : List Key}, KeysR ks ys → ks.length = ys.length
  | [], _, h => by cases h; rfl
  | k :: ks, _, h => by
    obtain ⟨l, r, rfl, _, h2⟩ := h
    simp [KeysR.length h2]
theorem dhas_val {w : W} {k : Key} (hk : keyR w k) : ∀ {ks : List W} {ys : List (Key × V)}, KeysR ks (ys.map (·.1)) → dhas w ks = (valV ys k).isSome
  | [], ys, h => by
    have : ys = [] := List.map_eq_nil_iff.mp h
    subst this; rfl
  | l :: ks, ys, h => by
    obtain ⟨q, r, e, h1, h2⟩ := h
    cases ys with
    | nil => cases e
    | cons y ys =>
      cases e
      have ih := dhas_val hk h2
      have e2 := keyR_beq h1 hk
      unfold dhas valV
      rw [e2]
      by_cases hl : y.1 = k
      · simp [List.find?_cons, hl]
      · simp only [decide_eq_false hl, List.find?_cons, Bool.false_or]
        exact ih
theorem dfind_val {Z : Kx} {g : Sg} {w : W} {k : Key} (hk : keyR w k) : ∀ {ks ws : List W} {ys : List (Key × V)}, KeysR ks (ys.map (·.1)) → RWs Z g ws (ys.map (·.2)) → (∀ u, dfind w ks ws = some u → ∃ v, valV ys k = some v ∧ RW Z g u v) ∧ (dfind w ks ws = none → valV ys k = none)
  | [], ws, ys, h, _ => by
    have : ys = [] := List.map_eq_nil_iff.mp h
    subst this
    exact ⟨fun u e => (by cases ws <;> cases e), fun _ => rfl⟩
  | l :: ks, ws, ys, h, hw => by
    obtain ⟨q, r, e, h1, h2⟩ := h
    cases ys with
    | nil => cases e
    | cons y ys =>
      cases e
      cases ws with
      | nil => cases hw
      | cons z ws =>
        obtain ⟨x, t, et, hx, hw2⟩ := hw
        cases et
        have ih := dfind_val hk h2 hw2
        have e2 := keyR_beq h1 hk
        unfold dfind valV
        rw [e2]
        by_cases hl : y.1 = k
        · rw [if_pos (by simp [hl])]
          simp only [List.find?_cons, hl, decide_true, Option.map_some]
          exact ⟨fun u e => (by cases e; exact ⟨y.2, rfl, hx⟩), fun e => (by cases e)⟩
        · rw [if_neg (by simp [hl])]
          simp only [decide_eq_false hl, List.find?_cons]
          exact ih
theorem op_inK {X : Cx} (hu : X.A.units + 1 < cLine) : OpR X (compareOp .In) (fun x y H Q => ∃ a o, y = .ref a ∧ DGet H a x o ∧ Q (.bl o.isSome) H) := by
  intro pins s σ H x y v u Q I rx ry h
  obtain ⟨a, o, rfl, hg, q⟩ := h
  obtain rfl : u = Value.ref a := ry
  exact d_in hu I hg rx fun s3 I3 => ⟨.bl o.isSome, H, I3, rfl, q⟩
theorem op_ninK {X : Cx} (hu : X.A.units + 1 < cLine) : OpR X (compareOp .NotIn) (fun x y H Q => ∃ a o, y = .ref a ∧ DGet H a x o ∧ Q (.bl (!o.isSome)) H) := by
  intro pins s σ H x y v u Q I rx ry h
  obtain ⟨a, o, rfl, hg, q⟩ := h
  obtain rfl : u = Value.ref a := ry
  exact d_notIn hu I hg rx fun s3 I3 => ⟨.bl (!o.isSome), H, I3, rfl, q⟩
theorem OpR.or {X : Cx} {f : Value → Value → Sem Value} {r r' : R2} (a : OpR X f r) (b : OpR X f r') : OpR X f (fun x y H Q => r x y H Q ∨ r' x y H Q) := by
  intro pins s σ H x y v u Q I rx ry h
  rcases h with h | h
  · exact a pins s σ H x y v u Q I rx ry h
  · exact b pins s σ H x y v u Q I rx ry h
theorem keyOk_rw {Z : Kx} {g : Sg} {w : W} {v : V} (hk : keyOk w = true) (h : BR Z g w v) : RW Z g w v := by
  cases w <;> first | exact h | cases hk
theorem inV_dat {g : Sg} {x y : W} {b : Bool} {vx vy : V} (h : inV x y = some b) (rx : BR C.Z g x vx) (ry : BR C.Z g y vy) :
    (∃ d ds, Dp C.X.K g.H vx d ∧ (Dp C.X.K g.H vy (.list ds) ∨ Dp C.X.K g.H vy (.tuple ds)) ∧ d.plain = true ∧ PyData.plainAll ds = true ∧ d.depth ≤ 61 ∧ (ds.any fun y => PyData.eqv y d) = b) ∨
    ∃ a o, vy = .ref a ∧ DGet g.H a vx o ∧ o.isSome = b := by
  have seq : ∀ {ws : List W}, (∀ ks vs, y ≠ .dic ks vs) → (if okW 60 x then (seqW y).bind fun ws => if okWs 60 ws then some (inW x ws) else none else none) = some b →
      (∃ d ds, Dp C.X.K g.H vx d ∧ (Dp C.X.K g.H vy (.list ds) ∨ Dp C.X.K g.H vy (.tuple ds)) ∧ d.plain = true ∧ PyData.plainAll ds = true ∧ d.depth ≤ 61 ∧ (ds.any fun y => PyData.eqv y d) = b) := fun {_} _ h => by
    split at h
    · rename_i ox
      obtain ⟨ws, h1, h2⟩ := Option.bind_eq_some_iff.mp h
      split at h2
      · rename_i ow
        cases h2
        obtain ⟨p, xs, rfl, h3, h4⟩ := ry.seq h1
        refine ⟨_, datWs ws, dp_br (Z := C.Z) ox rx, ?_, plain_dat x, plain_dats ws, Nat.le_trans (depth_dat ox) (by decide), any_dat ox ow⟩
        rcases h3 with h3 | h3
        · exact .inl (.lst h3 (dps_of ow h4))
        · exact .inr (.tup h3 (dps_of ow h4))
      · cases h2
    · cases h
  cases y with
  | dic ks vs =>
    have h : (if keyOk x then some (dhas x ks) else none) = some b := h
    split at h
    · rename_i hk
      cases h
      obtain ⟨a, xs, rfl, ⟨ys, h1, h2, rfl⟩, _⟩ := ry
      obtain ⟨k, rfl, kr⟩ := key_of hk (keyOk_rw hk rx)
      exact .inr ⟨a, _, rfl, DGet.k h1, (dhas_val kr h2).symm⟩
    · cases h
  | _ => exact .inl (seq (ws := []) (fun _ _ e => nomatch e) h)
theorem cmp_in (hu : C.X.A.units + 64 < cLine) : CmpR C .inn (fun x y H Q => rInP C.X.K true x y H Q ∨ ∃ a o, y = .ref a ∧ DGet H a x o ∧ Q (.bl o.isSome) H) := ⟨OpR.or (op_inP hu) (op_inK (by omega)), fun g x y b vx vy Q h rx ry q => by
  rcases inV_dat (show inV x y = some b from h) rx ry with ⟨d, ds, h1, h2, h3, h4, h5, rfl⟩ | ⟨a, o, h1, h2, rfl⟩
  · exact .inl ⟨d, ds, h1, h2, h3, h4, h5, by rw [if_pos rfl]; exact q⟩
  · exact .inr ⟨a, o, h1, h2, q⟩⟩
theorem cmp_nin (hu : C.X.A.units + 64 < cLine) : CmpR C .nin (fun x y H Q => rInP C.X.K false x y H Q ∨ ∃ a o, y = .ref a ∧ DGet H a x o ∧ Q (.bl (!o.isSome)) H) := ⟨OpR.or (op_ninP hu) (op_ninK (by omega)), fun g x y b vx vy Q h rx ry q => by
  obtain ⟨c, hc, rfl⟩ := Option.map_eq_some_iff.mp (show (inV x y).map (!·) = some b from h)
  rcases inV_dat hc rx ry with ⟨d, ds, h1, h2, h3, h4, h5, rfl⟩ | ⟨a, o, h1, h2, rfl⟩
  · exact .inl ⟨d, ds, h1, h2, h3, h4, h5, by rw [if_neg (by decide)]; exact q⟩
  · exact .inr ⟨a, o, h1, h2, q⟩⟩
theorem cmp_lt : CmpR C .lt (fun x y H Q => (∃ i j, x = .int i ∧ y = .int j ∧ Q (.bl (decide (i < j))) H) ∨ ∃ i j, x = .str i ∧ y = .str j ∧ Q (.bl (decide (i.cps.toList < j.cps.toList))) H) := ⟨op_lt.or op_lt_str, fun g x y b vx vy Q h rx ry q => by
  cases x <;> cases y <;> cases h
  · cases rx; cases ry; exact .inl ⟨_, _, rfl, rfl, q⟩
  · cases rx; cases ry; exact .inr ⟨_, _, rfl, rfl, by rw [sv_list, sv_list, ← ltS_iff]; exact q⟩⟩
theorem cmp_le : CmpR C .le (fun x y H Q => (∃ i j, x = .int i ∧ y = .int j ∧ Q (.bl (decide (i ≤ j))) H) ∨ ∃ i j, x = .str i ∧ y = .str j ∧ Q (.bl (!decide (j.cps.toList < i.cps.toList))) H) := ⟨op_le.or op_le_str, fun g x y b vx vy Q h rx ry q => by
  cases x <;> cases y <;> cases h
  · cases rx; cases ry; exact .inl ⟨_, _, rfl, rfl, q⟩
  · cases rx; cases ry; exact .inr ⟨_, _, rfl, rfl, by rw [sv_list, sv_list, ← ltS_iff]; exact q⟩⟩
theorem cmp_gt : CmpR C .gt (fun x y H Q => (∃ i j, x = .int i ∧ y = .int j ∧ Q (.bl (decide (j < i))) H) ∨ ∃ i j, x = .str i ∧ y = .str j ∧ Q (.bl (decide (j.cps.toList < i.cps.toList))) H) := ⟨op_gt.or op_gt_str, fun g x y b vx vy Q h rx ry q => by
  cases x <;> cases y <;> cases h
  · cases rx; cases ry; exact .inl ⟨_, _, rfl, rfl, q⟩
  · cases rx; cases ry; exact .inr ⟨_, _, rfl, rfl, by rw [sv_list, sv_list, ← ltS_iff]; exact q⟩⟩
theorem cmp_ge : CmpR C .ge (fun x y H Q => (∃ i j, x = .int i ∧ y = .int j ∧ Q (.bl (decide (j ≤ i))) H) ∨ ∃ i j, x = .str i ∧ y = .str j ∧ Q (.bl (!decide (i.cps.toList < j.cps.toList))) H) := ⟨op_ge.or op_ge_str, fun g x y b vx vy Q h rx ry q => by
  cases x <;> cases y <;> cases h
  · cases rx; cases ry; exact .inl ⟨_, _, rfl, rfl, q⟩
  · cases rx; cases ry; exact .inr ⟨_, _, rfl, rfl, by rw [sv_list, sv_list, ← ltS_iff]; exact q⟩⟩
theorem BR.non {Z : Kx} {g : Sg} {w : W} {v : V} (h : BR Z g w v) : decide (v = V.non) = (match w with | .non => true | _ => false) := by
  cases w with
  | non => cases h; rfl
  | bl b => cases h; rfl
  | int b => cases h; rfl
  | str b => cases h; rfl
  | tup ws => obtain ⟨a, xs, rfl, _⟩ := h; rfl
  | lis ws => obtain ⟨a, xs, rfl, _⟩ := h; rfl
  | dic ks ws => obtain ⟨a, xs, rfl, _⟩ := h; rfl
  | obj c ks ws => obtain ⟨a, xs, rfl, _⟩ := h; rfl
  | scr ws => obtain ⟨a, xs, rfl, _⟩ := h; rfl
theorem cmp_is : CmpR C .is (fun x y H Q => (y = .non ∧ Q (.bl (decide (x = .non))) H) ∨ rIsB x y H Q) := ⟨op_isN.or op_isBl, fun g x y b vx vy Q h rx ry q => by
  cases y with
  | non =>
    cases ry
    refine .inl ⟨rfl, ?_⟩
    rw [rx.non]
    cases x <;> cases h <;> exact q
  | bl c =>
    cases x <;> cases h
    cases rx; cases ry
    exact .inr ⟨_, _, rfl, rfl, by rw [← Bool.beq_eq_decide_eq]; exact q⟩
  | _ => cases x <;> cases h⟩
theorem cmp_isn : CmpR C .isn (fun x y H Q => (y = .non ∧ Q (.bl (!decide (x = .non))) H) ∨ rNotB x y H Q) := ⟨op_notN.or op_notBl, fun g x y b vx vy Q h rx ry q => by
  cases y with
  | non =>
    cases ry
    refine .inl ⟨rfl, ?_⟩
    rw [rx.non]
    cases x <;> cases h <;> exact q
  | bl c =>
    cases x <;> cases h
    cases rx; cases ry
    exact .inr ⟨_, _, rfl, rfl, by rw [← Bool.beq_eq_decide_eq]; exact q⟩
  | _ => cases x <;> cases h⟩
theorem cmpR (hu : C.X.A.units + 64 < cLine) : ∀ op : C2, ∃ r, CmpR C op r
  | .eq => ⟨_, cmp_eq hu⟩
  | .ne => ⟨_, cmp_ne hu⟩
  | .lt => ⟨_, cmp_lt⟩
  | .le => ⟨_, cmp_le⟩
  | .gt => ⟨_, cmp_gt⟩
  | .ge => ⟨_, cmp_ge⟩
  | .is => ⟨_, cmp_is⟩
  | .isn => ⟨_, cmp_isn⟩
  | .inn => ⟨_, cmp_in hu⟩
  | .nin => ⟨_, cmp_nin hu⟩
end
end FM


set_option Elab.async false
set_option linter.all false
set_option maxRecDepth 100000
set_option maxHeartbeats 2000000
namespace FM
open PySem L2
theorem POk.of' {C : Cz} {g : Sg} {F : Fp} {σ : L2.St} {r : Env} {α : Type} {Q : α → Sg → Fp → Prop} {o : Option α} (h : POk C g F σ Q (Res.of o r)) : ∃ a, o = some a ∧ ∀ g' F', Go g F g' F' → RE C.Z C.B C.T g' r σ F' → Q a g' F' := by
  cases o with
  | none => exact False.elim h
  | some a => exact ⟨a, rfl, h⟩
section
variable {C : Cz} {a b d e : Expr} {es : List Expr} {pos : Pos} {ma mb md : Env → Res W} {va vb vd : Env → Res Arg} {mt mu : Env → Res Bool}

/-! ### comparisons -/
def cmpM (op : C2) (va vb : Env → Res Arg) : Env → Res Bool := fun r => (va r).bind fun x r1 => (vb r1).bind fun y r2 => Res.of (cmp2 op x y r2) r2
theorem cmp2_r {op : C2} {r : R2} {g : Sg} {ρ : Env} {σ : L2.St} {F : Fp} {x y : Arg} {c : Bool} {v1 v2 : V} {Q : VK} (re : RE C.Z C.B C.T g ρ σ F)
    (hr : ∀ (g : Sg) (x y : W) (b : Bool) (vx vy : V) (Q : VK), cmpW op x y = some b → BR C.Z g x vx → BR C.Z g y vy → Q (.bl b) g.H → r vx vy g.H Q)
    (e : cmp2 op x y ρ = some c) (r1 : ArgR C g F σ x v1) (r2 : ArgR C g F σ y v2) (q : Q (.bl c) g.H) : r v1 v2 g.H Q := by
  obtain ⟨w1, e1, e⟩ := Option.bind_eq_some_iff.mp e
  obtain ⟨w2, e2, e⟩ := Option.bind_eq_some_iff.mp e
  exact hr g w1 w2 c v1 v2 Q e (r1.vw re e1) (r2.vw re e2) q
def blM (m : Env → Res Bool) : Env → Res W := fun r => (m r).bind fun c r1 => .ok (.bl c) r1
theorem se_cmp (hu : C.X.A.units + 64 < cLine) {op : C2} (ha : SV C a va) (hb : SV C b vb) (hm : behindInMarks op.op b = false) : SE C (.Compare a [op.op] [b] pos) (blM (cmpM op va vb)) := by
  obtain ⟨ta, pa, ia⟩ := ha
  obtain ⟨tb, pb, ib⟩ := hb
  obtain ⟨r, ho, hr⟩ := cmpR hu op
  refine ⟨_, pe_cmpR ho pa pb hm, fun g ρ σ F Q re k => ?_⟩
  have k : POk C g F σ _ (cmpM op va vb ρ) := k.seq (P := fun c g1 F1 => Q (.bl c) g1.H) fun c r1 g1 F1 t1 re1 k1 => k1.now re1 _ rfl
  refine ia g ρ σ F _ re (k.seq fun x r1 g1 F1 t1 re1 k1 v1 rv1 => ?_)
  refine ib g1 r1 σ F1 _ re1 (k1.seq fun y r2 g2 F2 t2 re2 k2 v2 rv2 => ?_)
  obtain ⟨c, hc, q⟩ := k2.of re2
  exact cmp2_r re2 hr hc (rv1.go re1 t2) rv2 q
theorem stt_cmp (hu : C.X.A.units + 64 < cLine) {op : C2} (ha : SV C a va) (hb : SV C b vb) (hm : behindInMarks op.op b = false) : STt C (.Compare a [op.op] [b] pos) (cmpM op va vb) := by
  obtain ⟨ta, pa, ia⟩ := ha
  obtain ⟨tb, pb, ib⟩ := hb
  obtain ⟨r, ho, hr⟩ := cmpR hu op
  refine ⟨_, pt_cmpR ho pa pb hm, fun g ρ σ F Q re k => ?_⟩
  refine ia g ρ σ F _ re (POk.seq (show POk C g F σ _ ((va ρ).bind _) from k) fun x r1 g1 F1 t1 re1 k1 v1 rv1 => ?_)
  refine ib g1 r1 σ F1 _ re1 (k1.seq fun y r2 g2 F2 t2 re2 k2 v2 rv2 => ?_)
  obtain ⟨c, hc, q⟩ := k2.of re2
  exact cmp2_r re2 hr hc (rv1.go re1 t2) rv2 ⟨c, rfl, q⟩
def chnM (op op' : C2) (va vb vd : Env → Res Arg) : Env → Res Bool := fun r => (va r).bind fun x r1 => (vb r1).bind fun y r2 => match cmp2 op x y r2 with
    | some true => (vd r2).bind fun z r3 => Res.of (cmp2 op' y z r3) r3
    | some false => .ok false r2
    | none => .bad
theorem chn_core {r r' : R2} {op op' : C2} {ta tb td : TE} (hr : ∀ (g : Sg) (x y : W) (b : Bool) (vx vy : V) (Q : VK), cmpW op x y = some b → BR C.Z g x vx → BR C.Z g y vy → Q (.bl b) g.H → r vx vy g.H Q)
    (hr' : ∀ (g : Sg) (x y : W) (b : Bool) (vx vy : V) (Q : VK), cmpW op' x y = some b → BR C.Z g x vx → BR C.Z g y vy → Q (.bl b) g.H → r' vx vy g.H Q)
    (ia : ∀ (g : Sg) (r : Env) (σ : L2.St) (F : Fp) (Q : VK), RE C.Z C.B C.T g r σ F → POk C g F σ (fun a g' F' => ∀ v, ArgR C g' F' σ a v → Q v g'.H) (va r) → ta σ g.H Q)
    (ib : ∀ (g : Sg) (r : Env) (σ : L2.St) (F : Fp) (Q : VK), RE C.Z C.B C.T g r σ F → POk C g F σ (fun a g' F' => ∀ v, ArgR C g' F' σ a v → Q v g'.H) (vb r) → tb σ g.H Q)
    (id : ∀ (g : Sg) (r : Env) (σ : L2.St) (F : Fp) (Q : VK), RE C.Z C.B C.T g r σ F → POk C g F σ (fun a g' F' => ∀ v, ArgR C g' F' σ a v → Q v g'.H) (vd r) → td σ g.H Q)
    (g : Sg) (ρ : Env) (σ : L2.St) (F : Fp) (Q : VK) (re : RE C.Z C.B C.T g ρ σ F) (k : POk C g F σ (fun c g' _ => Q (.bl c) g'.H) (chnM op op' va vb vd ρ)) : tChain r r' ta tb td σ g.H Q := by
  refine ia g ρ σ F _ re (POk.seq (show POk C g F σ _ ((va ρ).bind _) from k) fun x r1 g1 F1 t1 re1 k1 v1 rv1 => ?_)
  refine ib g1 r1 σ F1 _ re1 (k1.seq fun y r2 g2 F2 t2 re2 k2 v2 rv2 => ?_)
  cases hc : cmp2 op x y r2 with
  | none => simp only [hc] at k2; exact False.elim k2
  | some c =>
    simp only [hc] at k2
    refine cmp2_r re2 hr hc (rv1.go re1 t2) rv2 ⟨c, rfl, ?_⟩
    cases c with
    | false => exact iteF (k2.now re2)
    | true =>
      refine iteT (id g2 r2 σ F2 _ re2 (k2.seq fun z r3 g3 F3 t3 re3 k3 v3 rv3 => ?_))
      obtain ⟨c, hc', q⟩ := k3.of re3
      exact cmp2_r re3 hr' hc' (rv2.go re2 t3) rv3 q
theorem se_chn (hu : C.X.A.units + 64 < cLine) {op op' : C2} (ha : SV C a va) (hb : SV C b vb) (hd : SV C d vd) (hm : lastMarks [op.op, op'.op] [b, d] = false) : SE C (.Compare a [op.op, op'.op] [b, d] pos) (blM (chnM op op' va vb vd)) := by
  obtain ⟨ta, pa, ia⟩ := ha
  obtain ⟨tb, pb, ib⟩ := hb
  obtain ⟨td, pd, id⟩ := hd
  obtain ⟨r, ho, hr⟩ := cmpR hu op
  obtain ⟨r', ho', hr'⟩ := cmpR hu op'
  exact ⟨_, pe_chain ho ho' pa pb pd hm, fun g ρ σ F Q re k => chn_core hr hr' ia ib id g ρ σ F Q re (k.seq fun c r1 g1 F1 t1 re1 k1 => k1.now re1 _ rfl)⟩
theorem stt_chn (hu : C.X.A.units + 64 < cLine) {op op' : C2} (ha : SV C a va) (hb : SV C b vb) (hd : SV C d vd) (hm : lastMarks [op.op, op'.op] [b, d] = false) : STt C (.Compare a [op.op, op'.op] [b, d] pos) (chnM op op' va vb vd) := by
  obtain ⟨ta, pa, ia⟩ := ha
  obtain ⟨tb, pb, ib⟩ := hb
  obtain ⟨td, pd, id⟩ := hd
  obtain ⟨r, ho, hr⟩ := cmpR hu op
  obtain ⟨r', ho', hr'⟩ := cmpR hu op'
  exact ⟨_, pt_chain ho ho' pa pb pd hm, fun g ρ σ F Q re k => chn_core hr hr' ia ib id g ρ σ F (fun v H => ∃ c, v = .bl c ∧ Q c H) re (k.imp fun c g1 F1 _ q => ⟨c, rfl, q⟩)⟩
def tvM (m : Env → Res W) : Env → Res Bool := fun r => (m r).bind fun w r1 => match w with
  | .bl b => .ok b r1
  | _ => .bad
/-- a value that is a truth value, as a test -/
theorem stt_of {m : Env → Res W} (h : SE C e m) (hp : ∀ t : TE, PE C.X e t → PT C.X e (tB t)) : STt C e (tvM m) := by
  obtain ⟨t, p, i⟩ := h
  refine ⟨_, hp t p, fun g ρ σ F Q re k => ?_⟩
  refine i g ρ σ F _ re (POk.seq (show POk C g F σ _ ((m ρ).bind _) from k) fun w r1 g1 F1 t1 re1 k1 v rv => ?_)
  cases w <;> first | exact False.elim k1 | skip
  cases rv
  exact ⟨_, rfl, k1.now re1⟩

/-! ### arithmetic -/
theorem sizeLine_le {n : Nat} (h : n ≤ size) : n ≤ sizeLine := Nat.le_trans h (by decide)
theorem sizeLine_lt {n : Nat} (h : n < size) : n < sizeLine := Nat.lt_of_lt_of_le h (by decide)
theorem sv_append (a b : List Nat) : sv a ++ sv b = sv (a ++ b) := by
  show (⟨(sv a).cps ++ (sv b).cps⟩ : Str) = _
  simp [sv]

def binM (op : B2) (va vb : Env → Res Arg) : Env → Res W := fun r => (va r).bind fun x r1 => (vb r1).bind fun y r2 => Res.of ((vw r2 x).bind fun u => (vw r2 y).bind fun w => arith op u w) r2
def B2.op : B2 → Operator
  | .add => .Add | .sub => .Sub | .mul => .Mult | .fdiv => .FloorDiv | .mod => .Mod | .pow => .Pow
/-- a result that stands there, or is laid anew -/
def Lay (Z : Kx) (g : Sg) (z : W) (Q : VK) : Prop := (∀ v, RW Z g z v → Q v g.H) ∧ ∀ p o v, g.H p = none → RW Z ⟨upd g.H p o, g.L⟩ z v → Q v (upd g.H p o)
def BinR (C : Cz) (op : B2) (r : R2) : Prop := OpR C.X (binaryOp op.op) r ∧ ∀ (g : Sg) (x y z : W) (vx vy : V) (Q : VK), arith op x y = some z → BR C.Z g x vx → BR C.Z g y vy → Lay C.Z g z Q → r vx vy g.H Q
theorem lay_tup {Z : Kx} {g : Sg} {ws : List W} {xs : List V} {Q : VK} {p : Addr} (h : RWs Z g ws xs) (hp : g.H p = none) (k : Lay Z g (.tup ws) Q) : Q (.ref p) (upd g.H p (.tup xs)) :=
  k.2 p (.tup xs) _ hp ⟨p, xs, rfl, .inl (.inl upd_same), h.kp (lay_kp (Z := Z) (o := .tup xs) hp)⟩
theorem bin_add : BinR C .add (fun x y H Q => ((∃ i j, x = .int i ∧ y = .int j ∧ Q (.int (i + j)) H) ∨ ∃ i j, x = .str i ∧ y = .str j ∧ i.length + j.length ≤ sizeLine ∧ Q (.str (i ++ j)) H) ∨ rCatA C.X.K x y H Q) := ⟨(op_add.or op_add_str).or op_catA, fun g x y z vx vy Q h rx ry q => by
  cases x <;> cases y <;> first | (cases h; done) | skip
  · cases h; cases rx; cases ry; exact .inl (.inl ⟨_, _, rfl, rfl, q.1 _ rfl⟩)
  · simp only [arith] at h
    split at h
    · rename_i hl
      cases h
      cases rx
      cases ry
      refine .inl (.inr ⟨_, _, rfl, rfl, ?_, by rw [sv_append]; exact q.1 _ rfl⟩)
      rw [sv_len, sv_len]
      exact sizeLine_le (Nat.le_of_ble_eq_true hl)
    · cases h
  · simp only [arith] at h
    split at h
    · rename_i hl
      cases h
      obtain ⟨p, xs, rfl, h1, h2⟩ := rx
      obtain ⟨p', ys, rfl, h3, h4⟩ := ry
      refine .inr ⟨p, p', xs, ys, rfl, rfl, h1, h3, by rw [← h2.length, ← h4.length]; exact sizeLine_le (Nat.le_of_ble_eq_true hl), fun e => ?_, fun _ e => ?_, fun _ _ n hn => lay_tup (h2.append h4) hn q⟩
      · subst e
        refine q.1 _ ⟨p', ys, rfl, h3, ?_⟩
        have := h2.append h4
        rw [List.nil_append] at this
        exact this
      · subst e
        refine q.1 _ ⟨p, xs, rfl, h1, ?_⟩
        have := h2.append h4
        rw [List.append_nil] at this
        exact this
    · cases h⟩
theorem bin_sub : BinR C .sub (rI0 fun i j => .int (i - j)) := ⟨op_sub, fun g x y z vx vy Q h rx ry q => by
  cases x <;> cases y <;> first | (cases h; done) | skip
  cases h; cases rx; cases ry; exact ⟨_, _, rfl, rfl, q.1 _ rfl⟩⟩
theorem foldl_reps (z : Array Nat) : ∀ (n : Nat) (acc : List Nat), ((List.replicate n z).foldl (· ++ ·) acc.toArray) = (acc ++ reps z.toList n).toArray
  | 0, acc => by simp [reps]
  | n + 1, acc => by
    rw [List.replicate_succ, List.foldl_cons]
    have e : acc.toArray ++ z = (acc ++ z.toList).toArray := by simp
    rw [e, foldl_reps z n (acc ++ z.toList)]
    simp [reps]
theorem reps_nil {α : Type} : ∀ n : Nat, reps ([] : List α) n = []
  | 0 => rfl
  | n + 1 => by simp [reps, reps_nil n]
theorem mul_sv {a : List Nat} {j : Int} (h : 0 ≤ j) : Txt.mul (sv a) j = sv (reps a j.toNat) := by
  unfold Txt.mul
  by_cases h1 : j < 1
  · have : j = 0 := by omega
    subst this
    rfl
  · rw [if_neg h1]
    split
    · rename_i hc
      simp only [Bool.or_eq_true, beq_iff_eq, sv_len] at hc
      rcases hc with hc | hc
      · subst hc
        simp [reps, sv]
      · have : a = [] := List.length_eq_zero_iff.mp hc
        subst this
        rw [reps_nil]
    · have := foldl_reps (sv a).cps j.toNat []
      simp only [List.nil_append, sv_list] at this
      show (⟨_⟩ : Str) = ⟨_⟩
      rw [← this]
theorem op_mulS {X : Cx} : OpR X (binaryOp .Mult) (fun x y H Q => ∃ i j, x = .str i ∧ y = .int j ∧ MulOk i j ∧ Q (.str (Txt.mul i j)) H) := by
  intro pins s σ H x y v u Q I rx ry h
  obtain ⟨i, j, rfl, rfl, hk, q⟩ := h
  obtain ⟨t, rfl⟩ := rx
  obtain ⟨t', rfl⟩ := ry
  exact SB.mul hk fun t' k => ⟨.str _, H, I.tok _, ⟨_, rfl⟩, q⟩

theorem RWs.reps {Z : Kx} {g : Sg} {ws : List W} {xs : List V} (h : RWs Z g ws xs) : ∀ n : Nat, RWs Z g (FM.reps ws n) (List.replicate n xs).flatten
  | 0 => rfl
  | n + 1 => by
    rw [List.replicate_succ, List.flatten_cons]
    exact h.append (RWs.reps h n)
theorem bin_mul : BinR C .mul (fun x y H Q => ((rI CMul (fun i j => .int (i * j)) x y H Q ∨ rI CMulW (fun i j => .int (i * j)) x y H Q) ∨ ∃ i j, x = .str i ∧ y = .int j ∧ MulOk i j ∧ Q (.str (Txt.mul i j)) H) ∨ rRepT C.X.K x y H Q) := ⟨((op_mul.or op_mulW).or op_mulS).or op_repT, fun g x y z vx vy Q h rx ry q => by
  cases x <;> cases y <;> first | (cases h; done) | skip
  · rename_i i j
    simp only [arith] at h
    split at h
    · rename_i hm
      cases h
      cases rx
      cases ry
      simp only [mulOk, Bool.or_eq_true, Nat.blt_eq] at hm
      rcases hm with (hm | hm) | hm
      · exact .inl (.inl (.inr ⟨_, _, rfl, rfl, hm, q.1 _ rfl⟩))
      · exact .inl (.inl (.inl ⟨_, _, rfl, rfl, .inl ⟨by omega, by omega⟩, q.1 _ rfl⟩))
      · exact .inl (.inl (.inl ⟨_, _, rfl, rfl, .inr ⟨by omega, by omega⟩, q.1 _ rfl⟩))
    · cases h
  · rename_i a j
    simp only [arith] at h
    split at h
    · rename_i hm
      cases h
      cases rx
      cases ry
      simp only [Bool.and_eq_true, decide_eq_true_eq] at hm
      obtain ⟨⟨h0, h1⟩, h2⟩ := hm
      have h1 : a.length * j.toNat ≤ 1000000 := Nat.le_of_ble_eq_true h1
      refine .inl (.inr ⟨_, _, rfl, rfl, ⟨?_, fun hj _ => ?_, fun hj _ => ?_⟩, by rw [mul_sv h0]; exact q.1 _ rfl⟩)
      · simp only [Bool.or_eq_false_iff, decide_eq_false_iff_not]
        omega
      · rw [sv_len]
        have hz : (a.length : Int) * j ≤ 1000000 := by
          have : ((a.length * j.toNat : Nat) : Int) ≤ 1000000 := by omega
          rw [Int.natCast_mul, Int.toNat_of_nonneg h0] at this
          exact this
        have : (a.length : Int) ≤ (2 ^ 63 - 1) / j := by
          rw [Int.le_ediv_iff_mul_le (by omega)]
          omega
        omega
      · rw [sv_len]
        unfold Builtin.Str.tooLong
        have : sizeLine = 16777216 := sizeLine_eq
        simp only [decide_eq_false_iff_not]
        omega
    · cases h
  · rename_i a j
    simp only [arith] at h
    split at h
    · rename_i hm
      cases h
      obtain ⟨p, xs, rfl, h1, h2⟩ := rx
      cases ry
      simp only [Bool.and_eq_true, decide_eq_true_eq, Nat.blt_eq] at hm
      obtain ⟨⟨⟨m1, m2⟩, m3⟩, m4⟩ := hm
      have m4 : a.length ≤ 1000 := Nat.le_of_ble_eq_true m4
      refine .inr ⟨p, j, xs, rfl, rfl, h1, fun e => ?_, m1, m2, by rw [← h2.length]; exact m4, fun n hn => lay_tup (h2.reps _) hn q⟩
      rw [h2.length, e] at m3
      exact absurd m3 (by decide)
    · cases h⟩
theorem bin_fdiv : BinR C .fdiv (rI CDivW fun i j => .int (i / j)) := ⟨op_fdivW, fun g x y z vx vy Q h rx ry q => by
  cases x <;> cases y <;> first | (cases h; done) | skip
  simp only [arith] at h
  split at h
  · rename_i hm
    cases h
    cases rx
    cases ry
    simp only [Bool.and_eq_true, decide_eq_true_eq, Nat.blt_eq] at hm
    exact ⟨_, _, rfl, rfl, hm, q.1 _ rfl⟩
  · cases h⟩
theorem bin_mod : BinR C .mod (rI (fun _ j => 0 < j) fun i j => .int (i % j)) := ⟨op_mod, fun g x y z vx vy Q h rx ry q => by
  cases x <;> cases y <;> first | (cases h; done) | skip
  simp only [arith] at h
  split at h
  · rename_i hm
    cases h
    cases rx
    cases ry
    exact ⟨_, _, rfl, rfl, of_decide_eq_true hm, q.1 _ rfl⟩
  · cases h⟩
theorem bin_pow : BinR C .pow (rI CPow fun i j => .int (i ^ j.toNat)) := ⟨op_pow, fun g x y z vx vy Q h rx ry q => by
  cases x <;> cases y <;> first | (cases h; done) | skip
  simp only [arith] at h
  split at h
  · rename_i hm
    cases h
    cases rx
    cases ry
    simp only [Bool.and_eq_true, decide_eq_true_eq, Nat.blt_eq] at hm
    exact ⟨_, _, rfl, rfl, ⟨hm.1.1, by omega, hm.2⟩, q.1 _ rfl⟩
  · cases h⟩
theorem binR : ∀ op : B2, ∃ r, BinR C op r
  | .add => ⟨_, bin_add⟩
  | .sub => ⟨_, bin_sub⟩
  | .mul => ⟨_, bin_mul⟩
  | .fdiv => ⟨_, bin_fdiv⟩
  | .mod => ⟨_, bin_mod⟩
  | .pow => ⟨_, bin_pow⟩
/-- a result that may be laid anew -/
theorem lay_now {g : Sg} {ρ : Env} {σ : L2.St} {F : Fp} {z : W} {Q : VK} (re : RE C.Z C.B C.T g ρ σ F) (q : ∀ g' F', Go g F g' F' → RE C.Z C.B C.T g' ρ σ F' → ∀ v, RW C.Z g' z v → Q v g'.H) : Lay C.Z g z Q :=
  ⟨fun v rv => q g F (.refl g F) re v rv, fun p o v hp rv => let ⟨re2, t2⟩ := re.lay (o := o) hp; q _ F t2 re2 v rv⟩
theorem se_bin {op : B2} (ha : SV C a va) (hb : SV C b vb) : SE C (.BinOp a op.op b pos) (binM op va vb) := by
  obtain ⟨ta, pa, ia⟩ := ha
  obtain ⟨tb, pb, ib⟩ := hb
  obtain ⟨r, ho, hr⟩ := binR (C := C) op
  refine ⟨_, pe_op ho pa pb, fun g ρ σ F Q re k => ?_⟩
  refine ia g ρ σ F _ re (POk.seq (show POk C g F σ _ ((va ρ).bind _) from k) fun x r1 g1 F1 t1 re1 k1 v1 rv1 => ?_)
  refine ib g1 r1 σ F1 _ re1 (k1.seq fun y r2 g2 F2 t2 re2 k2 v2 rv2 => ?_)
  obtain ⟨z, hz, q⟩ := k2.of'
  obtain ⟨w1, e1, hz⟩ := Option.bind_eq_some_iff.mp hz
  obtain ⟨w2, e2, hz⟩ := Option.bind_eq_some_iff.mp hz
  exact hr g2 w1 w2 z v1 v2 Q hz ((rv1.go re1 t2).vw re2 e1) (rv2.vw re2 e2) (lay_now re2 q)
def negM (ma : Env → Res W) : Env → Res W := fun r => (ma r).bind fun x r1 => match x with
    | .int i => .ok (.int (-i)) r1
    | _ => .bad
theorem se_neg (ha : SE C a ma) : SE C (.UnaryOp .USub a pos) (negM ma) := by
  obtain ⟨ta, pa, ia⟩ := ha
  refine ⟨_, pe_un un_neg pa, fun g ρ σ F Q re k => ?_⟩
  refine ia g ρ σ F _ re (POk.seq (show POk C g F σ _ ((ma ρ).bind _) from k) fun x r1 g1 F1 t1 re1 k1 v1 rv1 => ?_)
  cases x <;> first | exact False.elim k1 | skip
  cases rv1
  exact ⟨_, rfl, k1.now re1 _ rfl⟩

/-! ### tuples, lists -/
theorem evs_len {α β : Type} {f : α → Env → Res β} : ∀ {es : List α} {r r' : Env} {ws : List β}, evs f es r = .ok ws r' → ws.length = es.length
  | [], _, _, _, h => by cases h; rfl
  | e :: es, r, r', ws, h => by
    unfold evs at h
    cases h1 : f e r with
    | bad => rw [h1] at h; cases h
    | ex _ _ => rw [h1] at h; cases h
    | ok w r1 =>
      rw [h1] at h
      change ((evs f es r1).bind fun ws r2 => Res.ok (w :: ws) r2) = _ at h
      cases h2 : evs f es r1 with
      | bad => rw [h2] at h; cases h
      | ex _ _ => rw [h2] at h; cases h
      | ok us r2 =>
        rw [h2] at h
        cases h
        simp [evs_len h2]
/-- what a result has, whenever there is one -/
theorem POk.fact {g : Sg} {F : Fp} {σ : L2.St} {α : Type} {Q : α → Sg → Fp → Prop} {x : Res α} {P : α → Prop} (hp : ∀ a r, x = .ok a r → P a) (h : POk C g F σ Q x) : POk C g F σ (fun a g F => P a ∧ Q a g F) x := by
  cases x with
  | bad => exact h
  | ex y r => exact h
  | ok a r => exact fun g' F' t re => ⟨hp a r rfl, h g' F' t re⟩
theorem se_tup {f : IE → Env → Res W} {is : List IE} {x1} (h : SA C es (evs f is)) (hl : is.length ≤ size) : SE C (.Tuple es x1 pos) (fun r => (evs f is r).bind fun ws r1 => .ok (.tup ws) r1) := by
  obtain ⟨t, p, i⟩ := h
  refine ⟨_, pe_tup p, fun g ρ σ F Q re k => ?_⟩
  refine i g ρ σ F _ re ((POk.fact (P := fun ws => ws.length = is.length) (fun ws r e => evs_len e) (k.seq (P := fun ws g1 F1 => ∃ r1, RE C.Z C.B C.T g1 r1 σ F1 ∧ POk C g1 F1 σ (fun w g' _ => ∀ v, RW C.Z g' w v → Q v g'.H) (.ok (.tup ws) r1)) fun ws r1 g1 F1 t1 re1 k1 => ⟨r1, re1, k1⟩)).imp fun ws g1 F1 t1 q vs rvs => ?_)
  obtain ⟨hlen, r1, re1, k1⟩ := q
  refine ⟨?_, fun p hp => ?_⟩
  · rw [← rvs.length, hlen]
    exact sizeLine_le hl
  · obtain ⟨re2, t2⟩ := re1.lay (o := .tup vs) hp
    exact k1 _ F1 t2 re2 _ ⟨p, vs, rfl, .inl (.inl upd_same), rvs.kp (t2.kp re1)⟩
/-- a new list is laid -/
theorem lay_lst {g : Sg} {ρ : Env} {σ : L2.St} {F : Fp} {g0 : Sg} {F0 : Fp} {us : List U} {xs : List V} {Q : VK} {p : Addr} (t : Go g0 F0 g F) (re : RE C.Z C.B C.T g ρ σ F) (h : OUs C.Z g us xs []) (hp : g.H p = none)
    (k : ∀ g' F', Go g F g' F' → RE C.Z C.B C.T g' ρ σ F' → ∀ v fp, OU C.Z g' (.l us) v fp → Tmp g' F' fp → Src g0 F0 fp → Q v g'.H) : Q (.ref p) (upd g.H p (.lst xs)) := by
  obtain ⟨re2, t2⟩ := re.lay (o := .lst xs) hp
  refine k _ F t2 re2 _ [p] ⟨p, xs, [], rfl, upd_same, h.kp (t2.kp re) (fun _ m => nomatch m), rfl⟩ ?_ ?_
  · have x := tmp_new re hp
    exact ⟨x.nod, x.nl, x.nf⟩
  · intro a m
    rw [List.mem_singleton.mp m]
    exact .inl (t.a _ hp)
theorem su_lst {f : IE → Env → Res W} {is : List IE} (h : SA C es (evs f is)) (hl : is.length ≤ size) : SU C (.List es pos) (fun r => (evs f is r).bind fun ws r1 => .ok (.l (ws.map U.d)) r1) := by
  obtain ⟨t, p, i⟩ := h
  refine ⟨_, pe_lst p, fun g ρ σ F Q re k => ?_⟩
  refine i g ρ σ F _ re ((POk.fact (P := fun ws => ws.length = is.length) (fun ws r e => evs_len e) (k.seq (P := fun ws g1 F1 => ∃ r1, RE C.Z C.B C.T g1 r1 σ F1 ∧ POk C g1 F1 σ (fun u g' F' => ∀ v fp, OU C.Z g' u v fp → Tmp g' F' fp → Src g F fp → Q v g'.H) (.ok (.l (ws.map U.d)) r1)) fun ws r1 g1 F1 t1 re1 k1 => ⟨r1, re1, k1⟩)).imp fun ws g1 F1 t1 q vs rvs => ?_)
  obtain ⟨hlen, r1, re1, k1⟩ := q
  refine ⟨?_, fun p hp => ?_⟩
  · rw [← rvs.length, hlen]
    exact sizeLine_le hl
  · exact lay_lst t1 re1 (OUs.dat rvs) hp k1

/-! ### and, or, not, if -/
theorem se_one {op : PySem.BoolOp} (h : SE C a ma) : SE C (.BoolOp op [a] pos) ma := by
  obtain ⟨t, p, i⟩ := h
  exact ⟨_, pe_one p, i⟩
def andM (ma mb : Env → Res W) : Env → Res W := fun r => (ma r).bind fun w r1 => match w with
    | .bl true => mb r1
    | .bl false => .ok (.bl false) r1
    | _ => .bad
def orM (ma mb : Env → Res W) : Env → Res W := fun r => (ma r).bind fun w r1 => match w with
    | .bl true => .ok (.bl true) r1
    | .bl false => mb r1
    | _ => .bad
theorem se_and (ha : SE C a ma) (hb : SE C (.BoolOp .And (b :: es) pos) mb) : SE C (.BoolOp .And (a :: b :: es) pos) (andM ma mb) := by
  obtain ⟨ta, pa, ia⟩ := ha
  obtain ⟨tb, pb, ib⟩ := hb
  refine ⟨_, pe_and pa pb, fun g ρ σ F Q re k => ?_⟩
  refine ia g ρ σ F _ re (POk.seq (show POk C g F σ _ ((ma ρ).bind _) from k) fun x r1 g1 F1 t1 re1 k1 v1 rv1 => ?_)
  cases x <;> first | exact False.elim k1 | skip
  rename_i c
  cases rv1
  refine ⟨c, rfl, ?_⟩
  cases c with
  | false => exact iteF (POk.now (C := C) (a := W.bl false) (Q := fun w g' _ => ∀ v, RW C.Z g' w v → Q v g'.H) re1 k1 _ rfl)
  | true => exact iteT (ib g1 r1 σ F1 _ re1 k1)
theorem se_or (ha : SE C a ma) (hb : SE C (.BoolOp .Or (b :: es) pos) mb) : SE C (.BoolOp .Or (a :: b :: es) pos) (orM ma mb) := by
  obtain ⟨ta, pa, ia⟩ := ha
  obtain ⟨tb, pb, ib⟩ := hb
  refine ⟨_, pe_or pa pb, fun g ρ σ F Q re k => ?_⟩
  refine ia g ρ σ F _ re (POk.seq (show POk C g F σ _ ((ma ρ).bind _) from k) fun x r1 g1 F1 t1 re1 k1 v1 rv1 => ?_)
  cases x <;> first | exact False.elim k1 | skip
  rename_i c
  cases rv1
  refine ⟨c, rfl, ?_⟩
  cases c with
  | true => exact iteT (POk.now (C := C) (a := W.bl true) (Q := fun w g' _ => ∀ v, RW C.Z g' w v → Q v g'.H) re1 k1 _ rfl)
  | false => exact iteF (ib g1 r1 σ F1 _ re1 k1)
def notM (ma : Env → Res W) : Env → Res W := fun r => (ma r).bind fun x r1 => match x with
    | .bl b => .ok (.bl (!b)) r1
    | _ => .bad
theorem se_not (ha : SE C a ma) : SE C (.UnaryOp .Not a pos) (notM ma) := by
  obtain ⟨ta, pa, ia⟩ := ha
  refine ⟨_, pe_not pa, fun g ρ σ F Q re k => ?_⟩
  refine ia g ρ σ F _ re (POk.seq (show POk C g F σ _ ((ma ρ).bind _) from k) fun x r1 g1 F1 t1 re1 k1 v1 rv1 => ?_)
  cases x <;> first | exact False.elim k1 | skip
  cases rv1
  exact ⟨_, rfl, k1.now re1 _ rfl⟩
theorem se_ite (ht : STt C d mt) (ha : SE C a ma) (hb : SE C b mb) : SE C (.IfExp d a b pos) (fun r => (mt r).bind fun x r1 => if x then ma r1 else mb r1) := by
  obtain ⟨tt, pt, it⟩ := ht
  obtain ⟨ta, pa, ia⟩ := ha
  obtain ⟨tb, pb, ib⟩ := hb
  refine ⟨_, pe_ifExp pt pa pb, fun g ρ σ F Q re k => ?_⟩
  refine it g ρ σ F _ re (k.seq fun x r1 g1 F1 t1 re1 k1 => ?_)
  cases x with
  | true => exact iteT (ia g1 r1 σ F1 _ re1 k1)
  | false => exact iteF (ib g1 r1 σ F1 _ re1 k1)
/-- tests -/
def SW (C : Cz) (e : Expr) (m : Env → Res Bool) : Prop := ∃ t : TT, PW C.X e t ∧ ∀ (g : Sg) (r : Env) (σ : L2.St) (F : Fp) (Q : Bool → Hp → Prop), RE C.Z C.B C.T g r σ F →
  POk C g F σ (fun b g' _ => Q b g'.H) (m r) → t σ g.H Q
theorem SW.stt (h : SW C e mt) : STt C e mt := let ⟨t, p, i⟩ := h; ⟨t, p.pt, i⟩
theorem sw_and1 (h : STt C a mt) : SW C (.BoolOp .And [a] pos) mt := let ⟨t, p, i⟩ := h; ⟨t, pw_and1 p, i⟩
theorem sw_or1 (h : STt C a mt) : SW C (.BoolOp .Or [a] pos) mt := let ⟨t, p, i⟩ := h; ⟨t, pw_or1 p, i⟩
theorem sw_and (ha : STt C a mt) (hb : SW C (.BoolOp .And (b :: es) pos) mu) : SW C (.BoolOp .And (a :: b :: es) pos) (fun r => (mt r).bind fun b r1 => if b then mu r1 else .ok false r1) := by
  obtain ⟨ta, pa, ia⟩ := ha
  obtain ⟨tb, pb, ib⟩ := hb
  refine ⟨_, pw_and pa pb, fun g ρ σ F Q re k => ?_⟩
  refine ia g ρ σ F _ re (k.seq fun x r1 g1 F1 t1 re1 k1 => ?_)
  cases x with
  | true => exact iteT (ib g1 r1 σ F1 _ re1 k1)
  | false => exact iteF (POk.now re1 (show POk C g1 F1 σ _ (.ok false r1) from k1))
theorem sw_or (ha : STt C a mt) (hb : SW C (.BoolOp .Or (b :: es) pos) mu) : SW C (.BoolOp .Or (a :: b :: es) pos) (fun r => (mt r).bind fun b r1 => if b then .ok true r1 else mu r1) := by
  obtain ⟨ta, pa, ia⟩ := ha
  obtain ⟨tb, pb, ib⟩ := hb
  refine ⟨_, pw_or pa pb, fun g ρ σ F Q re k => ?_⟩
  refine ia g ρ σ F _ re (k.seq fun x r1 g1 F1 t1 re1 k1 => ?_)
  cases x with
  | true => exact iteT (POk.now re1 (show POk C g1 F1 σ _ (.ok true r1) from k1))
  | false => exact iteF (ib g1 r1 σ F1 _ re1 k1)
theorem stt_not (ha : STt C a mt) : STt C (.UnaryOp .Not a pos) (fun r => (mt r).bind fun b r1 => .ok (!b) r1) := by
  obtain ⟨ta, pa, ia⟩ := ha
  refine ⟨_, pt_not pa, fun g ρ σ F Q re k => ?_⟩
  exact ia g ρ σ F _ re (k.seq fun x r1 g1 F1 t1 re1 k1 => k1.now re1)
end
end FM


set_option Elab.async false
set_option linter.all false
set_option maxRecDepth 100000
set_option maxHeartbeats 2000000
namespace FM
open PySem L2

section
variable {C : Cz} {a b d e : Expr} {es : List Expr} {pos : Pos} {ma mb md : Env → Res W} {va vb vd : Env → Res Arg} {mt mu : Env → Res Bool}
/-! ### a[i] -/
theorem ix_N {n : Nat} {i : Int} {j : Nat} (h : ix n i = some j) : ixN n i = some j ∧ j < n := by
  unfold ix at h
  unfold ixN
  cases i with
  | ofNat k =>
    simp only at h
    split at h
    · rename_i hk
      cases h
      have hk : j < n := by simpa [Nat.blt_eq] using hk
      rw [if_pos (by simp), if_pos (by simpa using hk)]
      exact ⟨by simp, hk⟩
    · cases h
  | negSucc k =>
    simp only at h
    split at h
    · rename_i hk
      cases h
      have hk : k < n := by simpa [Nat.blt_eq] using hk
      rw [if_neg (by omega), if_pos (by omega)]
      exact ⟨by congr 1; omega, by omega⟩
    · cases h
def plainIx : Expr → Bool
  | .Slice _ _ _ _ => false
  | _ => true
theorem plainIx_ok (h : plainIx b = true) : PlainIx b := by
  cases b <;> first | (exact fun _ _ => rfl) | cases h
theorem plainIx_no (h : plainIx b = true) : NoSl b := by
  cases b <;> first | (exact fun _ _ => rfl) | cases h

def idxM (va : Env → Res Arg) (mb : Env → Res W) : Env → Res W := fun r => (va r).bind fun x r1 => (mb r1).bind fun k r2 => Res.of ((vw r2 x).bind fun u => idxW u k) r2
theorem se_idx (ha : SV C a va) (hb : SE C b mb) (hp : plainIx b = true) : SE C (.Subscript a b pos) (idxM va mb) := by
  obtain ⟨ta, pa, ia⟩ := ha
  obtain ⟨tb, pb, ib⟩ := hb
  refine ⟨_, pe_ix ix_seq pa pb (plainIx_ok hp), fun g ρ σ F Q re k => ?_⟩
  refine ia g ρ σ F _ re (POk.seq (show POk C g F σ _ ((va ρ).bind _) from k) fun x r1 g1 F1 t1 re1 k1 v1 rv1 => ?_)
  refine ib g1 r1 σ F1 _ re1 (k1.seq fun y r2 g2 F2 t2 re2 k2 v2 rv2 => ?_)
  obtain ⟨w, hw, fin⟩ := k2.of re2
  obtain ⟨u, hu, ea⟩ := Option.bind_eq_some_iff.mp hw
  have br := (rv1.go re1 t2).vw re2 hu
  cases y with
  | int i =>
    cases rv2
    have seq : ∀ {ws : List W}, seqW u = some ws → ((ix ws.length i).bind fun j => nth ws j) = some w → rIx C.X.K v1 (.int i) g2.H Q := by
      intro ws hs hb
      obtain ⟨j, hj, hn⟩ := Option.bind_eq_some_iff.mp hb
      obtain ⟨p, xs, rfl, hq, rw⟩ := br.seq hs
      rw [nth_iff] at hn
      obtain ⟨v, hv, rv⟩ := rw.get hn
      have ha : atI xs i = some v := by
        unfold atI
        rw [← rw.length, (ix_N hj).1]
        exact hv
      rcases hq with hq | hq
      · exact .inl ⟨p, xs, i, v, rfl, rfl, hq, ha, fin v rv⟩
      · exact .inr (.inl ⟨p, xs, i, v, rfl, rfl, hq, ha, fin v rv⟩)
    cases u with
    | str z =>
      have ea : (if Nat.ble z.length size then (ix z.length i).bind fun j => (nth z j).map fun c => W.str [c] else none) = some w := ea
      split at ea
      · rename_i hz
        obtain ⟨j, hj, hn⟩ := Option.bind_eq_some_iff.mp ea
        obtain ⟨c, hc, rfl⟩ := Option.map_eq_some_iff.mp hn
        rw [nth_iff] at hc
        cases br
        refine .inr (.inr ⟨_, i, c, rfl, rfl, ?_, ?_, fin _ rfl⟩)
        · rw [sv_len]
          exact sizeLine_le (Nat.le_of_ble_eq_true hz)
        · rw [sv_list]
          unfold atI
          rw [(ix_N hj).1]
          exact hc
      · cases ea
    | tup us => exact seq rfl ea
    | lis us => exact seq rfl ea
    | scr us => exact seq rfl ea
    | _ => cases ea
  | _ => cases ea

/-! ### slices, sums and products of lists -/
theorem bnd_eq (n d : Nat) : ∀ o : Option Int, bnd n d o = HT.sIx n d o
  | none => rfl
  | some (.ofNat k) => (HT.sIx_nat n d k).symm
  | some (.negSucc k) => by
    have e : HT.sIx n d (some (Int.negSucc k)) = (Int.negSucc k + (n : Int)).toNat := if_pos (by omega)
    rw [e]
    show n - (k + 1) = _
    omega

theorem RWs.cut {Z : Kx} {g : Sg} {ws : List W} {xs : List V} (h : RWs Z g ws xs) (lo hi : Option Int) : RWs Z g (FM.cut ws lo hi) (cutV xs lo hi) := by
  unfold FM.cut cutV
  rw [bnd_eq, bnd_eq, h.length]
  exact (h.drop _).take _
def catM (va vb : Env → Res Arg) : Env → Res U := fun r => (va r).bind fun x r1 => (vb r1).bind fun y r2 => Res.of ((vw r2 x).bind fun u => (lstW u).bind fun us => (vw r2 y).bind fun w => (lstW w).bind fun ws => if Nat.ble (us.length + ws.length) size then some (.l ((us ++ ws).map U.d)) else none) r2
theorem su_cat (ha : SV C a va) (hb : SV C b vb) : SU C (.BinOp a .Add b pos) (catM va vb) := by
  obtain ⟨ta, pa, ia⟩ := ha
  obtain ⟨tb, pb, ib⟩ := hb
  refine ⟨_, pe_op op_cat pa pb, fun g ρ σ F Q re k => ?_⟩
  refine ia g ρ σ F _ re (POk.seq (show POk C g F σ _ ((va ρ).bind _) from k) fun x r1 g1 F1 t1 re1 k1 v1 rv1 => ?_)
  refine ib g1 r1 σ F1 _ re1 (k1.seq fun y r2 g2 F2 t2 re2 k2 v2 rv2 => ?_)
  obtain ⟨z, hz, q⟩ := k2.of'
  obtain ⟨u, e1, hz⟩ := Option.bind_eq_some_iff.mp hz
  obtain ⟨us, e2, hz⟩ := Option.bind_eq_some_iff.mp hz
  obtain ⟨w, e3, hz⟩ := Option.bind_eq_some_iff.mp hz
  obtain ⟨ws, e4, hz⟩ := Option.bind_eq_some_iff.mp hz
  split at hz
  · rename_i hl
    cases hz
    obtain ⟨p, xs, rfl, h3, h4⟩ := ((rv1.go re1 t2).vw re2 e1).lst e2
    obtain ⟨p', ys, rfl, h5, h6⟩ := (rv2.vw re2 e3).lst e4
    refine ⟨p, p', xs, ys, rfl, rfl, h3, h5, ?_, fun n hn => lay_lst (t1.trans t2) re2 (OUs.dat (h4.append h6)) hn q⟩
    rw [← h4.length, ← h6.length]
    exact sizeLine_le (Nat.le_of_ble_eq_true hl)
  · cases hz
def repM (va : Env → Res Arg) (mb : Env → Res W) : Env → Res U := fun r => (va r).bind fun x r1 => (mb r1).bind fun y r2 => match y with
    | .int j => Res.of ((vw r2 x).bind fun u => (lstW u).bind fun us => if decide (-1000000 ≤ j) && Nat.ble (us.length * j.toNat) size && decide (j ≤ 1000000) then some (.l ((reps us j.toNat).map U.d)) else none) r2
    | _ => .bad
theorem su_rep (ha : SV C a va) (hb : SE C b mb) : SU C (.BinOp a .Mult b pos) (repM va mb) := by
  obtain ⟨ta, pa, ia⟩ := ha
  obtain ⟨tb, pb, ib⟩ := hb
  refine ⟨_, pe_op op_rep pa pb, fun g ρ σ F Q re k => ?_⟩
  refine ia g ρ σ F _ re (POk.seq (show POk C g F σ _ ((va ρ).bind _) from k) fun x r1 g1 F1 t1 re1 k1 v1 rv1 => ?_)
  refine ib g1 r1 σ F1 _ re1 (k1.seq fun y r2 g2 F2 t2 re2 k2 v2 rv2 => ?_)
  cases y <;> first | exact False.elim k2 | skip
  rename_i j
  cases rv2
  obtain ⟨z, hz, q⟩ := k2.of'
  obtain ⟨u, e1, hz⟩ := Option.bind_eq_some_iff.mp hz
  obtain ⟨us, e2, hz⟩ := Option.bind_eq_some_iff.mp hz
  split at hz
  · rename_i hl
    cases hz
    simp only [Bool.and_eq_true, decide_eq_true_eq] at hl
    obtain ⟨⟨h1, h2⟩, h3⟩ := hl
    obtain ⟨p, xs, rfl, h5, h4⟩ := ((rv1.go re1 t2).vw re2 e1).lst e2
    refine ⟨p, j, xs, rfl, rfl, h5, by omega, by omega, ?_, fun n hn => lay_lst (t1.trans t2) re2 (OUs.dat (h4.reps _)) hn q⟩
    rw [← h4.length]
    exact sizeLine_le (Nat.le_of_ble_eq_true h2)
  · cases hz
/-- an optional bound -/
def SO (C : Cz) (e : Option Expr) (m : Env → Res (Option Int)) : Prop := ∃ t : TO, PO C.X e t ∧ ∀ (g : Sg) (r : Env) (σ : L2.St) (F : Fp) (Q : Option Int → Hp → Prop), RE C.Z C.B C.T g r σ F →
  POk C g F σ (fun o g' _ => Q o g'.H) (m r) → t σ g.H Q
theorem so_none : SO C none (fun r => .ok none r) := ⟨_, po_none, fun g r σ F Q re k => k.now re⟩
theorem so_some (h : SE C e ma) : SO C (some e) (fun r => (ma r).bind fun x r1 => match x with
    | .int i => .ok (some i) r1
    | _ => .bad) := by
  obtain ⟨t, p, i⟩ := h
  refine ⟨_, po_some p, fun g ρ σ F Q re k => ?_⟩
  refine i g ρ σ F _ re (k.seq fun x r1 g1 F1 t1 re1 k1 v1 rv1 => ?_)
  cases x <;> first | exact False.elim k1 | skip
  cases rv1
  exact ⟨_, rfl, k1.now re1⟩
variable {mlo mhi : Env → Res (Option Int)} {lo hi : Option Expr} {p2 : Pos}
def slcM (va : Env → Res Arg) (mlo mhi : Env → Res (Option Int)) : Env → Res U := fun r => (va r).bind fun x r1 => (mlo r1).bind fun l r2 => (mhi r2).bind fun h r3 => Res.of ((vw r3 x).bind fun u => (lstW u).map fun ws => .l ((FM.cut ws l h).map U.d)) r3
theorem su_slc (ha : SV C a va) (hl : SO C lo mlo) (hh : SO C hi mhi) : SU C (.Subscript a (.Slice lo hi none p2) pos) (slcM va mlo mhi) := by
  obtain ⟨ta, pa, ia⟩ := ha
  obtain ⟨tl, pl, il⟩ := hl
  obtain ⟨th, ph, ih⟩ := hh
  refine ⟨_, pe_slice sl_list pa pl ph, fun g ρ σ F Q re k => ?_⟩
  refine ia g ρ σ F _ re (POk.seq (show POk C g F σ _ ((va ρ).bind _) from k) fun x r1 g1 F1 t1 re1 k1 v1 rv1 => ?_)
  refine il g1 r1 σ F1 _ re1 (k1.seq fun l r2 g2 F2 t2 re2 k2 => ?_)
  refine ih g2 r2 σ F2 _ re2 (k2.seq fun h r3 g3 F3 t3 re3 k3 => ?_)
  obtain ⟨z, hz, q⟩ := k3.of'
  obtain ⟨u, e1, hz⟩ := Option.bind_eq_some_iff.mp hz
  obtain ⟨ws, e2, rfl⟩ := Option.map_eq_some_iff.mp hz
  have t13 := t2.trans t3
  obtain ⟨p, xs, rfl, h3, h4⟩ := ((rv1.go re1 t13).vw re3 e1).lst e2
  exact ⟨p, xs, rfl, sqL_of h3, fun n hn => lay_lst (t1.trans t13) re3 (OUs.dat (h4.cut l h)) hn q⟩
def slcD (va : Env → Res Arg) (mlo mhi : Env → Res (Option Int)) : Env → Res W := fun r => (va r).bind fun x r1 => (mlo r1).bind fun l r2 => (mhi r2).bind fun h r3 => Res.of ((vw r3 x).bind fun u => cutD u l h) r3
theorem SlR.or {X : Cx} {r r' : V → Option Int → Option Int → Hp → VK → Prop} (h : SlR X r) (h' : SlR X r') : SlR X (fun x l u H Q => r x l u H Q ∨ r' x l u H Q) := by
  intro pins s σ H x v vl vu lo hi sl Q I rx hs pl pu q
  rcases q with q | q
  · exact h pins s σ H x v vl vu lo hi sl Q I rx hs pl pu q
  · exact h' pins s σ H x v vl vu lo hi sl Q I rx hs pl pu q
theorem cut_sv (z : List Nat) (lo hi : Option Int) : cutS (sv z) lo hi = sv (FM.cut z lo hi) := by
  unfold cutS FM.cut
  rw [sv_list, sv_len, bnd_eq, bnd_eq]
  rfl
theorem se_slc (ha : SV C a va) (hl : SO C lo mlo) (hh : SO C hi mhi) : SE C (.Subscript a (.Slice lo hi none p2) pos) (slcD va mlo mhi) := by
  obtain ⟨ta, pa, ia⟩ := ha
  obtain ⟨tl, pl, il⟩ := hl
  obtain ⟨th, ph, ih⟩ := hh
  refine ⟨_, pe_slice (SlR.or sl_tupA sl_str) pa pl ph, fun g ρ σ F Q re k => ?_⟩
  refine ia g ρ σ F _ re (POk.seq (show POk C g F σ _ ((va ρ).bind _) from k) fun x r1 g1 F1 t1 re1 k1 v1 rv1 => ?_)
  refine il g1 r1 σ F1 _ re1 (k1.seq fun l r2 g2 F2 t2 re2 k2 => ?_)
  refine ih g2 r2 σ F2 _ re2 (k2.seq fun h r3 g3 F3 t3 re3 k3 => ?_)
  obtain ⟨z, hz, q⟩ := k3.of'
  obtain ⟨u, e1, hz⟩ := Option.bind_eq_some_iff.mp hz
  have br := (rv1.go re1 (t2.trans t3)).vw re3 e1
  have ly := lay_now re3 q
  cases u with
  | str s =>
    have hz : (if Nat.ble s.length size then some (W.str (FM.cut s l h)) else none) = some z := hz
    split at hz
    · rename_i hl
      cases hz
      cases br
      exact .inr ⟨_, rfl, by rw [sv_len]; exact sizeLine_le (Nat.le_of_ble_eq_true hl), by rw [cut_sv]; exact ly.1 _ rfl⟩
    · cases hz
  | tup ws =>
    cases hz
    obtain ⟨p, xs, rfl, h1, h2⟩ := br
    refine .inl ⟨p, xs, rfl, h1, fun hw => ?_, fun _ n hn => lay_tup (h2.cut l h) hn ly⟩
    refine ly.1 _ ⟨p, xs, rfl, h1, ?_⟩
    have := h2.cut l h
    unfold cutV at this
    rw [hw.1, hw.2, Nat.sub_zero, List.drop_zero, List.take_of_length_le (Nat.le_refl _)] at this
    exact this
  | _ => cases hz

/-! ### calls of built-ins -/
theorem pe_blt {x : Str} {p : Pos} {u : Value} {r : List V → Hp → VK → Prop} {t : TA} {X : Cx} (hu : (∃ id, u = .builtin id) ∨ ∃ T, u = .type T) (hc : CallR X u r) (hg : Gl X x) (hm : X.mg x = none) (hv : bootBuiltins x = some u) (ha : PA X (e :: es) t) (hn : x ≠ "__name__") (hdb : (x == ("__debug__" : Str)) = false)
    (hst : (e :: es).all notStar = true) : PE X (.Call (.Name x p) (e :: es) [] pos) (tCB r t) := by
  rw [List.all_cons, Bool.and_eq_true] at hst
  rcases hu with ⟨id, rfl⟩ | ⟨T, rfl⟩
  · exact pe_callB hc hg hm hv ha hn hdb (star_ hst.1) (star_any hst.2)
  · exact pe_callTy hc hg hm hv ha hn hdb (star_ hst.1) (star_any hst.2)
def Bt.val : Bt → Value
  | .len => .builtin "len" | .abs => .builtin "abs" | .int => .type "int" | .max => .builtin "max" | .min => .builtin "min" | .all => .builtin "all" | .any => .builtin "any" | .sum => .builtin "sum" | .tuple => .type "tuple"
def Bt.name : Bt → Str
  | .len => "len" | .abs => "abs" | .int => "int" | .max => "max" | .min => "min" | .all => "all" | .any => "any" | .sum => "sum" | .tuple => "tuple"
theorem Bt.boot : ∀ f : Bt, bootBuiltins f.name = some f.val
  | .len => by decide +kernel
  | .abs => by decide +kernel
  | .int => by decide +kernel
  | .max => by decide +kernel
  | .min => by decide +kernel
  | .all => by decide +kernel
  | .any => by decide +kernel
  | .sum => by decide +kernel
  | .tuple => by decide +kernel
theorem Bt.plain : ∀ f : Bt, f.name ≠ "__name__" ∧ (f.name == ("__debug__" : Str)) = false
  | .len => by decide +kernel
  | .abs => by decide +kernel
  | .int => by decide +kernel
  | .max => by decide +kernel
  | .min => by decide +kernel
  | .all => by decide +kernel
  | .any => by decide +kernel
  | .sum => by decide +kernel
  | .tuple => by decide +kernel
theorem Bt.kind : ∀ f : Bt, (∃ id, f.val = .builtin id) ∨ ∃ T, f.val = .type T
  | .len => .inl ⟨_, rfl⟩
  | .abs => .inl ⟨_, rfl⟩
  | .int => .inr ⟨_, rfl⟩
  | .max => .inl ⟨_, rfl⟩
  | .min => .inl ⟨_, rfl⟩
  | .all => .inl ⟨_, rfl⟩
  | .any => .inl ⟨_, rfl⟩
  | .sum => .inl ⟨_, rfl⟩
  | .tuple => .inr ⟨_, rfl⟩

theorem CallR.or {X : Cx} {u : Value} {r r' : List V → Hp → VK → Prop} (h : CallR X u r) (h' : CallR X u r') : CallR X u (fun x H Q => r x H Q ∨ r' x H Q) := by
  intro pins s σ H xs us Q I rs q
  rcases q with q | q
  · exact h pins s σ H xs us Q I rs q
  · exact h' pins s σ H xs us Q I rs q
def BRs (Z : Kx) (g : Sg) : List W → List V → Prop
  | [], vs => vs = []
  | a :: as, vs => ∃ v r, vs = v :: r ∧ BR Z g a v ∧ BRs Z g as r
theorem ArgsR.vws {g : Sg} {r : Env} {σ : L2.St} {F : Fp} (e : RE C.Z C.B C.T g r σ F) : ∀ {as : List Arg} {vs : List V} {ws : List W}, ArgsR C g F σ as vs → FM.vws r as = some ws → BRs C.Z g ws vs
  | [], _, _, h, q => by cases q; exact h
  | a :: as, _, _, h, q => by
    obtain ⟨v, t, rfl, h1, h2⟩ := h
    obtain ⟨w, q1, q⟩ := Option.bind_eq_some_iff.mp q
    obtain ⟨ws, q2, rfl⟩ := Option.map_eq_some_iff.mp q
    exact ⟨v, t, rfl, h1.vw e q1, ArgsR.vws e h2 q2⟩
def BltR (C : Cz) (f : Bt) (r : List V → Hp → VK → Prop) : Prop := ∀ (g : Sg) (as : List W) (w : W) (vs : List V) (Q : VK), bltF f as = some w → BRs C.Z g as vs → Lay C.Z g w Q → r vs g.H Q
theorem args1 {Z : Kx} {g : Sg} {a : W} {vs : List V} (h : BRs Z g [a] vs) : ∃ v, vs = [v] ∧ BR Z g a v := by
  obtain ⟨v, r, rfl, h1, h2⟩ := h
  cases h2
  exact ⟨v, rfl, h1⟩
theorem args2 {Z : Kx} {g : Sg} {a b : W} {vs : List V} (h : BRs Z g [a, b] vs) : ∃ v u, vs = [v, u] ∧ BR Z g a v ∧ BR Z g b u := by
  obtain ⟨v, r, rfl, h1, h2⟩ := h
  obtain ⟨u, rfl, h3⟩ := args1 h2
  exact ⟨v, u, rfl, h1, h3⟩
theorem bls_map {Z : Kx} {g : Sg} : ∀ {ws : List W} {bs : List Bool} {xs : List V}, bls ws = some bs → RWs Z g ws xs → xs = bs.map V.bl
  | [], _, _, h, r => by cases h; cases r; rfl
  | w :: ws, bs, _, h, r => by
    obtain ⟨x, t, rfl, r1, r2⟩ := r
    cases w <;> first | (cases h; done) | skip
    obtain ⟨cs, hc, rfl⟩ := Option.map_eq_some_iff.mp h
    cases r1
    rw [bls_map hc r2]
    rfl
theorem nums_map {Z : Kx} {g : Sg} : ∀ {ws : List W} {bs : List Int} {xs : List V}, nums ws = some bs → RWs Z g ws xs → xs = bs.map V.int
  | [], _, _, h, r => by cases h; cases r; rfl
  | w :: ws, bs, _, h, r => by
    obtain ⟨x, t, rfl, r1, r2⟩ := r
    cases w <;> first | (cases h; done) | skip
    obtain ⟨cs, hc, rfl⟩ := Option.map_eq_some_iff.mp h
    cases r1
    rw [nums_map hc r2]
    rfl
theorem txts_map {Z : Kx} {g : Sg} : ∀ {ws : List W} {bs : List (List Nat)} {xs : List V}, txts ws = some bs → RWs Z g ws xs → xs = (bs.map sv).map V.str
  | [], _, _, h, r => by cases h; cases r; rfl
  | w :: ws, bs, _, h, r => by
    obtain ⟨x, t, rfl, r1, r2⟩ := r
    cases w <;> first | (cases h; done) | skip
    obtain ⟨cs, hc, rfl⟩ := Option.map_eq_some_iff.mp h
    cases r1
    rw [txts_map hc r2]
    rfl

theorem blt_len : ∃ r, CallR C.X (Bt.val .len) r ∧ BltR C .len r := by
  refine ⟨_, call_len.or call_lenD, fun g as w vs Q h ra k => ?_⟩
  cases as with
  | nil => cases h
  | cons a r =>
    cases r with
    | cons b r => cases a <;> cases h
    | nil =>
      obtain ⟨v, rfl, rb⟩ := args1 ra
      have seq : ∀ {ws : List W}, seqW a = some ws → w = .int ws.length → (∃ x n, [v] = [x] ∧ LenV C.X.K x g.H n ∧ Q (.int n) g.H) := by
        rintro ws h1 rfl
        obtain ⟨p, xs, rfl, hq, rw⟩ := rb.seq h1
        refine ⟨_, xs.length, rfl, ?_, k.1 _ (by rw [rw.length]; rfl)⟩
        rcases hq with hq | hq
        · exact .inl ⟨xs, hq, rfl⟩
        · exact .inr ⟨xs, hq, rfl⟩
      cases a with
      | str z =>
        have h : (if Nat.ble z.length size then some (W.int z.length) else none) = some w := h
        split at h
        · rename_i hz
          cases h
          cases rb
          exact .inl ⟨_, _, rfl, ⟨by rw [sv_len]; exact sizeLine_le (Nat.le_of_ble_eq_true hz), rfl⟩, k.1 _ (by rw [sv_len]; rfl)⟩
        · cases h
      | tup us => cases h; exact .inl (seq rfl rfl)
      | lis us => cases h; exact .inl (seq rfl rfl)
      | scr us => cases h; exact .inl (seq rfl rfl)
      | dic ks us =>
        cases h
        obtain ⟨p, xs, rfl, ⟨ys, hy, hk, rfl⟩, _⟩ := rb
        exact .inr ⟨_, ys, rfl, hy, k.1 _ (by rw [hk.length, List.length_map]; rfl)⟩
      | _ => cases h
theorem lst1 {Z : Kx} {g : Sg} {vs : List V} {a : W} {ws : List W} (ra : BRs Z g [a] vs) (h : lstW a = some ws) : ∃ p xs, vs = [.ref p] ∧ SqL Z.K g.H p xs ∧ RWs Z g ws xs := by
  obtain ⟨v, rfl, rb⟩ := args1 ra
  obtain ⟨p, xs, rfl, h1, h2⟩ := rb.lst h
  exact ⟨p, xs, rfl, sqL_of h1, h2⟩
theorem blt_any (hc : C.X.calm = true) : ∀ f : Bt, ∃ r, CallR C.X (Bt.val f) r ∧ BltR C f r
  | .len => blt_len
  | .abs => ⟨_, call_abs, fun g as w vs Q h ra k => by
    match as, h with
    | [(.int i)], h =>
      cases h
      obtain ⟨v, rfl, rb⟩ := args1 ra
      cases rb
      exact ⟨i, rfl, k.1 _ rfl⟩⟩
  | .int => ⟨_, CallR.or call_int1 call_int_str, fun g as w vs Q h ra k => by
    match as, h with
    | [(.int i)], h =>
      cases h
      obtain ⟨v, rfl, rb⟩ := args1 ra
      cases rb
      exact .inl (.inl ⟨i, rfl, k.1 _ rfl⟩)
    | [(.bl i)], h =>
      cases h
      obtain ⟨v, rfl, rb⟩ := args1 ra
      cases rb
      exact .inl (.inr ⟨i, rfl, k.1 _ rfl⟩)
    | [(.str z)], h =>
      obtain ⟨v, rfl, rb⟩ := args1 ra
      cases rb
      have h : (if digs z && Nat.blt 0 z.length && Nat.ble z.length 640 then some (W.int (dval z : Nat)) else none) = some w := h
      split at h
      · rename_i hz
        cases h
        rw [Bool.and_eq_true, Bool.and_eq_true, Nat.ble_eq, Nat.blt_eq] at hz
        obtain ⟨⟨h1, h2⟩, h3⟩ := hz
        have hd : PySem.NumText.AllDigits (sv z).cps.toList := by
          rw [sv_list]
          intro c hc
          have := List.all_eq_true.mp h1 c hc
          rw [Bool.and_eq_true, Nat.ble_eq, Nat.ble_eq] at this
          exact this
        have hl : (sv z).length ≤ 640 := by rw [sv_len]; exact h3
        have e := PySem.intText_digits hd (by rw [sv_list]; intro e; rw [e] at h2; exact absurd h2 (by decide)) (Nat.le_trans hl (by decide))
        rw [sv_list] at e
        exact .inr ⟨sv z, _, rfl, e, hl, k.1 _ rfl⟩
      · cases h⟩
  | .max => ⟨_, call_max2 hc, fun g as w vs Q h ra k => by
    match as, h with
    | [(.int i), (.int j)], h =>
      cases h
      obtain ⟨v, u, rfl, rc, rd⟩ := args2 ra
      cases rc
      cases rd
      exact ⟨i, j, rfl, k.1 _ rfl⟩⟩
  | .min => ⟨_, call_min2 hc, fun g as w vs Q h ra k => by
    match as, h with
    | [(.int i), (.int j)], h =>
      cases h
      obtain ⟨v, u, rfl, rc, rd⟩ := args2 ra
      cases rc
      cases rd
      exact ⟨i, j, rfl, k.1 _ rfl⟩⟩
  | .all => ⟨_, cr_all hc, fun g as w vs Q h ra k => by
    match as, h with
    | [a], h =>
      obtain ⟨ws, h1, h2⟩ := Option.bind_eq_some_iff.mp (show ((lstW a).bind fun ws => (bls ws).map fun bs => W.bl (bs.all id)) = some w from h)
      obtain ⟨bs, h3, rfl⟩ := Option.map_eq_some_iff.mp h2
      obtain ⟨p, xs, rfl, hq, rw⟩ := lst1 ra h1
      have e := bls_map h3 rw
      subst e
      exact ⟨p, bs, rfl, hq, k.1 _ rfl⟩⟩
  | .any => ⟨_, cr_any hc, fun g as w vs Q h ra k => by
    match as, h with
    | [a], h =>
      obtain ⟨ws, h1, h2⟩ := Option.bind_eq_some_iff.mp (show ((lstW a).bind fun ws => (bls ws).map fun bs => W.bl (bs.any id)) = some w from h)
      obtain ⟨bs, h3, rfl⟩ := Option.map_eq_some_iff.mp h2
      obtain ⟨p, xs, rfl, hq, rw⟩ := lst1 ra h1
      have e := bls_map h3 rw
      subst e
      exact ⟨p, bs, rfl, hq, k.1 _ rfl⟩⟩
  | .sum => ⟨_, cr_sum hc, fun g as w vs Q h ra k => by
    match as, h with
    | [a], h =>
      obtain ⟨ws, h1, h2⟩ := Option.bind_eq_some_iff.mp (show ((lstW a).bind fun ws => (nums ws).map fun bs => W.int bs.sum) = some w from h)
      obtain ⟨bs, h3, rfl⟩ := Option.map_eq_some_iff.mp h2
      obtain ⟨p, xs, rfl, hq, rw⟩ := lst1 ra h1
      have e := nums_map h3 rw
      subst e
      exact ⟨p, bs, rfl, hq, k.1 _ rfl⟩⟩
  | .tuple => ⟨_, call_tuple_of, fun g as w vs Q h ra k => by
    match as, h with
    | [a], h =>
      obtain ⟨ws, h1, rfl⟩ := Option.map_eq_some_iff.mp (show ((seqW a).map fun ws => W.tup ws) = some w from h)
      obtain ⟨v, rfl, rb⟩ := args1 ra
      obtain ⟨p, xs, rfl, hq, rw⟩ := rb.seq h1
      refine ⟨p, xs, rfl, ?_⟩
      rcases hq with hq | hq
      · exact .inl ⟨hq, fun l hl => lay_tup rw hl k⟩
      · exact .inr ⟨hq, k.1 _ ⟨p, xs, rfl, hq, rw⟩⟩⟩
theorem se_blt {f : Bt} {p : Pos} {h : IV → Env → Res Arg} {is : List IV} (hc : C.X.calm = true) (hg : Gl C.X f.name) (hm : C.X.mg f.name = none) (hst : (e :: es).all notStar = true) (ha : SAV C (e :: es) (evs h is)) :
    SE C (.Call (.Name f.name p) (e :: es) [] pos) (fun r => (evs h is r).bind fun xs r1 => Res.of ((vws r1 xs).bind fun ws => bltF f ws) r1) := by
  obtain ⟨t, pa, i⟩ := ha
  obtain ⟨r, hr, hb⟩ := blt_any hc f
  refine ⟨_, pe_blt f.kind hr hg hm f.boot pa f.plain.1 f.plain.2 hst, fun g ρ σ F Q re k => ?_⟩
  refine i g ρ σ F _ re (k.seq fun xs r1 g1 F1 t1 re1 k1 vs rvs => ?_)
  obtain ⟨w, hw, q⟩ := k1.of'
  obtain ⟨ws, e1, e2⟩ := Option.bind_eq_some_iff.mp hw
  exact hb g1 ws w vs Q e2 (rvs.vws re1 e1) (lay_now re1 q)
end
end FM


set_option Elab.async false
set_option linter.all false
set_option maxRecDepth 100000
set_option maxHeartbeats 2000000
namespace FM
open PySem L2

/-! ### sorted texts -/
theorem ltS_trans {a b c : List Nat} (h1 : ltS a b = true) (h2 : ltS b c = true) : ltS a c = true := by
  rw [ltS_iff, decide_eq_true_eq] at *
  exact List.lt_trans h1 h2
theorem ltS_irrefl (a : List Nat) : ltS a a = false := by
  rw [ltS_iff, decide_eq_false_iff_not]
  exact List.lt_irrefl a
theorem ltS_total {a b : List Nat} (h1 : ltS a b = false) (h2 : ltS b a = false) : a = b := by
  rw [ltS_iff, decide_eq_false_iff_not] at *
  exact List.le_antisymm (List.not_lt.mp h2) (List.not_lt.mp h1)
theorem insS_perm (a : List Nat) : ∀ l : List (List Nat), (insS a l).Perm (a :: l)
  | [] => .refl _
  | b :: r => by
    unfold insS
    split
    · exact ((insS_perm a r).cons b).trans (.swap a b r)
    · exact .refl _
theorem sortS_perm : ∀ l : List (List Nat), (sortS l).Perm l
  | [] => .refl _
  | a :: r => (insS_perm a (sortS r)).trans ((sortS_perm r).cons a)
theorem insS_sorted (a : List Nat) : ∀ {l : List (List Nat)}, l.Pairwise (fun x y => ltS y x = false) → (insS a l).Pairwise (fun x y => ltS y x = false)
  | [], _ => List.pairwise_singleton _ _
  | b :: r, h => by
    unfold insS
    rw [List.pairwise_cons] at h
    split
    · rename_i hb
      refine List.pairwise_cons.mpr ⟨fun y hy => ?_, insS_sorted a h.2⟩
      rcases List.mem_cons.mp ((insS_perm a r).mem_iff.mp hy) with rfl | hy
      · cases e : ltS y b with
        | false => rfl
        | true => exact absurd (ltS_trans hb e) (by rw [ltS_irrefl]; decide)
      · exact h.1 y hy
    · rename_i hb
      have hb : ltS b a = false := by simpa using hb
      refine List.pairwise_cons.mpr ⟨fun y hy => ?_, List.pairwise_cons.mpr h⟩
      rcases List.mem_cons.mp hy with rfl | hy
      · exact hb
      · cases e : ltS y a with
        | false => rfl
        | true =>
          have h3 := h.1 y hy
          by_cases hab : ltS a b = true
          · rw [ltS_trans e hab] at h3; cases h3
          · have : a = b := ltS_total (by simpa using hab) hb
            rw [this] at e
            rw [e] at h3; cases h3
theorem sortS_sorted : ∀ l : List (List Nat), (sortS l).Pairwise (fun x y => ltS y x = false)
  | [] => .nil
  | a :: r => insS_sorted a (sortS_sorted r)
theorem sorted_unique : ∀ {l m : List (List Nat)}, l.Perm m → l.Pairwise (fun x y => ltS y x = false) → m.Pairwise (fun x y => ltS y x = false) → l = m
  | [], m, p, _, _ => (List.nil_perm.mp p).symm
  | a :: r, [], p, _, _ => (List.not_perm_nil_cons _ _ p.symm).elim
  | a :: r, b :: t, p, h1, h2 => by
    rw [List.pairwise_cons] at h1 h2
    have e : a = b := by
      have ma : a ∈ b :: t := p.mem_iff.mp List.mem_cons_self
      have mb : b ∈ a :: r := p.mem_iff.mpr List.mem_cons_self
      rcases List.mem_cons.mp ma with h | h
      · exact h
      · rcases List.mem_cons.mp mb with h' | h'
        · exact h'.symm
        · exact ltS_total (h2.1 a h) (h1.1 b h')
    subst e
    rw [sorted_unique (List.Perm.cons_inv p) h1.2 h2.2]

theorem ltCps_eq : ∀ (a b : List Nat), PySem.Spec.ltCps a b = ltS a b
  | [], [] => rfl
  | [], _ :: _ => rfl
  | _ :: _, [] => rfl
  | a :: r, b :: t => by
    simp only [PySem.Spec.ltCps, ltS]
    rw [ltCps_eq r t]
    by_cases h : a < b
    · simp [h, Nat.blt_eq]
    · by_cases e : a = b
      · subst e
        simp
      · have e2 : Nat.beq a b = false := by rw [← Bool.not_eq_true, Nat.beq_eq]; exact e
        simp [h, e, e2, Nat.blt_eq]
theorem le_trans {a b c : List Nat} (h1 : ltS b a = false) (h2 : ltS c b = false) : ltS c a = false := by
  cases e : ltS c a with
  | false => rfl
  | true =>
    by_cases h : ltS a b = true
    · rw [ltS_trans e h] at h2; cases h2
    · have : a = b := ltS_total (by simpa using h) h1
      rw [this] at e
      rw [e] at h2; cases h2
theorem rising_pair : ∀ {l : List Str} {p : Str}, PyProof.Rows.risingS p l = true → (p.cps.toList :: l.map fun x => x.cps.toList).Pairwise (fun x y => ltS y x = false)
  | [], p, _ => List.pairwise_singleton _ _
  | x :: r, p, h => by
    simp only [PyProof.Rows.risingS, Bool.and_eq_true, Bool.not_eq_true', ltCps_eq] at h
    have ih := rising_pair h.2
    refine List.pairwise_cons.mpr ⟨fun y hy => ?_, ih⟩
    rw [List.map_cons] at hy
    rcases List.mem_cons.mp hy with rfl | hy
    · exact h.1
    · exact le_trans h.1 ((List.pairwise_cons.mp ih).1 y hy)
theorem sorted_eq {ss : List (List Nat)} {ys : List Str} (p : ys.Perm (ss.map sv)) (h : PyProof.Rows.sortedS ys = true) : ys = (sortS ss).map sv := by
  have h1 : (ys.map fun x => x.cps.toList).Perm ss := by
    have q := p.map (fun x : Str => x.cps.toList)
    rw [List.map_map] at q
    have e : ss.map ((fun x : Str => x.cps.toList) ∘ sv) = ss := by
      conv => rhs; rw [← List.map_id ss]
      exact List.map_congr_left fun x _ => sv_list x
    rw [e] at q
    exact q
  have h2 : (ys.map fun x => x.cps.toList).Pairwise (fun x y => ltS y x = false) := by
    cases ys with
    | nil => exact .nil
    | cons y r => exact rising_pair h
  have h3 := sorted_unique (h1.trans (sortS_perm ss).symm) h2 (sortS_sorted ss)
  rw [← h3, List.map_map]
  conv => lhs; rw [← List.map_id ys]
  exact List.map_congr_left fun x _ => sv_of x
theorem rws_txts {Z : Kx} {g : Sg} : ∀ l : List (List Nat), RWs Z g (l.map W.str) ((l.map sv).map V.str)
  | [] => rfl
  | a :: r => ⟨_, _, rfl, rfl, rws_txts r⟩
theorem KeysR.txts : ∀ {ks : List W} {ys : List Key} {ss : List (List Nat)}, KeysR ks ys → FM.txts ks = some ss → ys = (ss.map sv).map Sum.inr
  | [], _, _, h, e => by cases h; cases e; rfl
  | k :: ks, _, _, h, e => by
    obtain ⟨l, r, rfl, h1, h2⟩ := h
    cases k with
    | str s =>
      obtain ⟨cs, hc, rfl⟩ := Option.map_eq_some_iff.mp e
      cases h1
      simp only [List.map_cons]
      rw [KeysR.txts h2 hc]
    | _ => cases e
section
variable {C : Cz} {a b d e : Expr} {es : List Expr} {pos : Pos} {ma mb md : Env → Res W} {va vb vd : Env → Res Arg} {mt mu : Env → Res Bool}
def srtM (va : Env → Res Arg) : Env → Res U := fun r => (va r).bind fun x r1 => Res.of ((vw r1 x).bind fun u => (sortF u).map fun ws => .l (ws.map U.d)) r1
theorem su_srt {p : Pos} (hc : C.X.calm = true) (hg : Gl C.X "sorted") (hm : C.X.mg "sorted" = none) (hn : notStar a = true) (ha : SV C a va) : SU C (.Call (.Name "sorted" p) [a] [] pos) (srtM va) := by
  obtain ⟨t, pa, i⟩ := ha
  refine ⟨_, pe_blt (.inl ⟨_, rfl⟩) (CallR.or cr_sortedS (call_sortedD hc)) hg hm (by decide +kernel) (pa_cons pa pa_nil (star_ hn)) (by decide +kernel) (by decide +kernel) (by simp [hn]), fun g ρ σ F Q re k => ?_⟩
  refine i g ρ σ F _ re (POk.seq (show POk C g F σ _ ((va ρ).bind _) from k) fun x r1 g1 F1 t1 re1 k1 v1 rv1 => ?_)
  obtain ⟨z, hz, q⟩ := k1.of'
  obtain ⟨u, e1, hz⟩ := Option.bind_eq_some_iff.mp hz
  obtain ⟨ws, e2, rfl⟩ := Option.map_eq_some_iff.mp hz
  have br := rv1.vw re1 e1
  have list : ∀ {us : List W}, lstW u = some us → ((FM.txts us).bind fun ss => if Nat.blt ss.length 64 then some ((sortS ss).map W.str) else none) = some ws → rSortedS C.X.K [v1] g1.H Q := by
    intro us hl hb
    obtain ⟨ss, hs, hb⟩ := Option.bind_eq_some_iff.mp hb
    split at hb
    · rename_i h64
      cases hb
      obtain ⟨p, xs, rfl, hq, rw⟩ := br.lst hl
      have exs := txts_map hs rw
      subst exs
      refine ⟨p, ss.map sv, rfl, sqL_of hq, by simpa [Nat.blt_eq] using h64, fun ys q' hp hsd hn => ?_⟩
      rw [sorted_eq hp hsd]
      exact lay_lst t1 re1 (OUs.dat (rws_txts _)) hn q
    · cases hb
  show rSortedS C.X.K [v1] g1.H Q ∨ _
  cases u with
  | dic ks us =>
    refine .inr ?_
    obtain ⟨ss, hs, hb⟩ := Option.bind_eq_some_iff.mp (show ((FM.txts ks).bind fun ss => if Nat.blt ss.length 64 then some ((sortS ss).map W.str) else none) = some ws from e2)
    split at hb
    · rename_i h64
      cases hb
      obtain ⟨p, xs, rfl, ⟨ys, hy, hk, _⟩, _⟩ := br
      refine ⟨_, ys, ss.map sv, rfl, .inl hy, hk.txts hs, by simpa [Nat.blt_eq] using h64, fun zs q' hp hsd hn => ?_⟩
      rw [sorted_eq hp hsd]
      exact lay_lst t1 re1 (OUs.dat (rws_txts _)) hn q
    · cases hb
  | lis us => exact .inl (list rfl e2)
  | _ => cases e2
def lofM (va : Env → Res Arg) : Env → Res U := fun r => (va r).bind fun x r1 => Res.of ((vw r1 x).bind fun u => (seqW u).map fun ws => .l (ws.map U.d)) r1
theorem su_lof {p : Pos} (hg : Gl C.X "list") (hm : C.X.mg "list" = none) (hn : notStar a = true) (ha : SV C a va) : SU C (.Call (.Name "list" p) [a] [] pos) (lofM va) := by
  obtain ⟨t, pa, i⟩ := ha
  refine ⟨_, pe_blt (.inr ⟨_, rfl⟩) call_list_of hg hm (by decide +kernel) (pa_cons pa pa_nil (star_ hn)) (by decide +kernel) (by decide +kernel) (by simp [hn]), fun g ρ σ F Q re k => ?_⟩
  refine i g ρ σ F _ re (POk.seq (show POk C g F σ _ ((va ρ).bind _) from k) fun x r1 g1 F1 t1 re1 k1 v1 rv1 => ?_)
  obtain ⟨z, hz, q⟩ := k1.of'
  obtain ⟨u, e1, hz⟩ := Option.bind_eq_some_iff.mp hz
  obtain ⟨ws, e2, rfl⟩ := Option.map_eq_some_iff.mp hz
  obtain ⟨p, xs, rfl, hq, rw⟩ := (rv1.vw re1 e1).seq e2
  exact ⟨p, xs, rfl, hq, fun l hl => lay_lst t1 re1 (OUs.dat rw) hl q⟩

/-! ### isinstance -/
def Ty.nm : Ty → String
  | .int => "int" | .bool => "bool" | .str => "str" | .tuple => "tuple" | .list => "list" | .dict => "dict"
def Ty.name : Ty → Str
  | .int => "int" | .bool => "bool" | .str => "str" | .tuple => "tuple" | .list => "list" | .dict => "dict"
theorem Ty.boot : ∀ f : Ty, bootBuiltins f.name = some (.type f.nm) ∧ f.name ≠ "__name__" ∧ (f.name == ("__debug__" : Str)) = false
  | .int => by decide +kernel
  | .bool => by decide +kernel
  | .str => by decide +kernel
  | .tuple => by decide +kernel
  | .list => by decide +kernel
  | .dict => by decide +kernel
theorem tyX_of {Z : Kx} {g : Sg} {t : Ty} {w : W} {v : V} (r : BR Z g w v) (ho : ∀ c ks ws, w ≠ .obj c ks ws) : ∃ T, TyX Z.K g.H v (.type T) ∧ kitB T t.nm = some (tyIs t w) := by
  cases w with
  | non => cases r; exact ⟨_, .base .non, by cases t <;> first | exact (show kitB _ _ = some true by decide +kernel) | exact (show kitB _ _ = some false by decide +kernel)⟩
  | bl c => cases r; exact ⟨_, .base (.bl c), by cases t <;> first | exact (show kitB _ _ = some true by decide +kernel) | exact (show kitB _ _ = some false by decide +kernel)⟩
  | int c => cases r; exact ⟨_, .base (.int c), by cases t <;> first | exact (show kitB _ _ = some true by decide +kernel) | exact (show kitB _ _ = some false by decide +kernel)⟩
  | str c => cases r; exact ⟨_, .base (.str _), by cases t <;> first | exact (show kitB _ _ = some true by decide +kernel) | exact (show kitB _ _ = some false by decide +kernel)⟩
  | tup ws =>
    obtain ⟨a, xs, rfl, hq, _⟩ := r
    refine ⟨"tuple", ?_, by cases t <;> first | exact (show kitB _ _ = some true by decide +kernel) | exact (show kitB _ _ = some false by decide +kernel)⟩
    rcases hq with (hq | ⟨o, hq⟩) | ⟨o, its, n, h1, h2, _⟩
    · exact .base (.tup hq)
    · exact .fTuple hq
    · exact .kTuple h1 h2
  | lis us =>
    obtain ⟨a, xs, rfl, e, _⟩ := r
    exact ⟨"list", .base (.lst e), by cases t <;> first | exact (show kitB _ _ = some true by decide +kernel) | exact (show kitB _ _ = some false by decide +kernel)⟩
  | scr us =>
    obtain ⟨a, xs, rfl, e, _⟩ := r
    refine ⟨"list", ?_, by cases t <;> first | exact (show kitB _ _ = some true by decide +kernel) | exact (show kitB _ _ = some false by decide +kernel)⟩
    rcases e with ⟨o, e⟩ | ⟨o, its, n, h1, h2, _⟩
    · exact .base (.frz e)
    · exact .kList h1 h2
  | dic ks us =>
    obtain ⟨a, xs, rfl, ⟨ys, e, _⟩, _⟩ := r
    exact ⟨"dict", .base (.dK e), by cases t <;> first | exact (show kitB _ _ = some true by decide +kernel) | exact (show kitB _ _ = some false by decide +kernel)⟩
  | obj c ks ws => exact absurd rfl (ho c ks ws)
def isiM (t : Ty) (va : Env → Res Arg) : Env → Res W := fun r => (va r).bind fun x r1 => Res.of ((vw r1 x).bind fun w => tyIsO t w) r1
theorem se_isi {p p' : Pos} {t : Ty} (hg : Gl C.X "isinstance") (hm : C.X.mg "isinstance" = none) (hg' : Gl C.X t.name) (hm' : C.X.mg t.name = none) (hn : notStar a = true) (ha : SV C a va) :
    SE C (.Call (.Name "isinstance" p) [a, .Name t.name p'] [] pos) (isiM t va) := by
  obtain ⟨ta, pa, i⟩ := ha
  refine ⟨_, pe_blt (.inl ⟨_, rfl⟩) call_isi hg hm (by decide +kernel) (pa_cons pa (pa_cons (pe_bltn (v := .ty t.nm) hg' hm' t.boot.1 rfl t.boot.2.1 t.boot.2.2) pa_nil rfl) (star_ hn)) (by decide +kernel) (by decide +kernel) (by rw [List.all_cons, hn]; rfl), fun g ρ σ F Q re k => ?_⟩
  refine i g ρ σ F _ re (POk.seq (show POk C g F σ _ ((va ρ).bind _) from k) fun x r1 g1 F1 t1 re1 k1 v1 rv1 => ?_)
  obtain ⟨z, hz, q⟩ := k1.of re1
  obtain ⟨w, e1, hz⟩ := Option.bind_eq_some_iff.mp hz
  have ho : ∀ c ks ws, w ≠ .obj c ks ws := by
    rintro c ks ws rfl
    cases hz
  obtain ⟨T, hT, hk⟩ := tyX_of (t := t) (rv1.vw re1 e1) ho
  have hz : z = .bl (tyIs t w) := by
    cases w <;> first | (cases hz; rfl) | exact absurd rfl (ho _ _ _)
  subst hz
  exact ⟨v1, .ty t.nm, _, _, tyIs t w, rfl, .ty _, hT, kit_ty hk, q _ rfl⟩

/-! ### dicts -/
def didxM (va : Env → Res Arg) (mb : Env → Res W) : Env → Res W := fun r => (va r).bind fun x r1 => (mb r1).bind fun k r2 => Res.of ((vw r2 x).bind fun u => match u with
    | .dic ks vs => if keyOk k then dfind k ks vs else none
    | _ => none) r2
theorem se_didx (hu : C.X.A.units + 1 < cLine) (ha : SV C a va) (hb : SE C b mb) (hp : plainIx b = true) : SE C (.Subscript a b pos) (didxM va mb) := by
  obtain ⟨ta, pa, ia⟩ := ha
  obtain ⟨tb, pb, ib⟩ := hb
  refine ⟨_, pe_dget hu pa pb (plainIx_no hp), fun g ρ σ F Q re k => ?_⟩
  refine ia g ρ σ F _ re (POk.seq (show POk C g F σ _ ((va ρ).bind _) from k) fun x r1 g1 F1 t1 re1 k1 v1 rv1 => ?_)
  refine ib g1 r1 σ F1 _ re1 (k1.seq fun y r2 g2 F2 t2 re2 k2 v2 rv2 => ?_)
  obtain ⟨w, hw, fin⟩ := k2.of re2
  obtain ⟨u, hu, ea⟩ := Option.bind_eq_some_iff.mp hw
  have br := (rv1.go re1 t2).vw re2 hu
  cases u with
  | dic ks vs =>
    obtain ⟨p, xs, rfl, ⟨ys, hy, hk, rfl⟩, rw⟩ := br
    have ea : (if keyOk y then dfind y ks vs else none) = some w := ea
    split at ea
    · rename_i hok
      obtain ⟨k', rfl, kr⟩ := key_of hok rv2
      obtain ⟨v, hv, rv⟩ := (dfind_val kr hk rw).1 w ea
      exact ⟨_, v, rfl, by rw [← hv]; exact DGet.k hy, fin v rv⟩
    · cases ea
  | _ => cases ea
/-- what stands ahead of the dot -/
def notSuper : Expr → Bool
  | .Call (.Name _ _) [] [] _ => false
  | _ => true
theorem base_of {o : Expr} {m : Str} {env : PySem.Env} (h : notSuper o = true) {t : Sem Value} : attributeBase o m env t = t := by
  unfold attributeBase
  split
  · cases h
  · rfl

theorem m2_of {o e f : Expr} {m : Str} {apos cpos : Pos} {X : Cx} (ho : notSuper o = true) (he : notStar e = true) (hf : notStar f = true) (hl : (apos.endLine == cpos.line) = true) : M2 X o m apos e f cpos := by
  have h1 : starEach [e, f] X.env = [(false, eval e X.env), (false, eval f X.env)] := by rw [star_ he, star_ hf]; rfl
  refine ⟨base_of ho, ?_, hl, ?_⟩
  · rw [h1]; rfl
  · rw [h1]; rfl
/-- the operand is a name that has a dict of its own -/
def dgetM (i : Nat) (mb md : Env → Res W) : Env → Res W := fun r => match lookU r i with
    | some (.c _ _) => (mb r).bind fun k r1 => (md r1).bind fun d r2 => Res.of (dgetV i k d r2) r2
    | _ => .bad
theorem se_dget {x : Str} {i : Nat} {npos apos : Pos} (hN : C.X.N[i]? = some x) (hv : Vis C.X.env.scope x) (hdb : (x == ("__debug__" : Str)) = false) (hcd : (x == ("__classdict__" : Str)) = false) (hu : C.X.A.units + 1 < cLine) (hb : SE C b mb) (hd : SE C d md) (he : notStar b = true) (hf : notStar d = true) (hl : (apos.endLine == pos.line) = true) :
    SE C (.Call (.Attribute (.Name x npos) "get" apos) [b, d] [] pos) (dgetM i mb md) := by
  obtain ⟨tb, pb, ib⟩ := hb
  obtain ⟨td, pd, id⟩ := hd
  refine ⟨_, pe_dget2 hu (pe_var hN hv hdb hcd) pb pd (m2_of rfl he hf hl), fun g ρ σ F Q re k => ?_⟩
  unfold dgetM at k
  cases hlk : lookU ρ i with
  | none => rw [hlk] at k; exact False.elim k
  | some u =>
    rw [hlk] at k
    cases u with
    | c ks us =>
      obtain ⟨v, _, _, _, hσ, p, xs, fs, rfl, ⟨ys, hy, _⟩, _⟩ := re.look hlk
      refine ⟨_, hσ, _, rfl, .inl ⟨ys, .inl hy⟩, ?_⟩
      refine ib g ρ σ F _ re (k.seq fun y r1 g1 F1 t1 re1 k1 v1 rv1 => ?_)
      refine id g1 r1 σ F1 _ re1 (k1.seq fun z r2 g2 F2 t2 re2 k2 v2 rv2 => ?_)
      obtain ⟨w, hw, fin⟩ := k2.of re2
      obtain ⟨u, hu, ea⟩ := Option.bind_eq_some_iff.mp hw
      have br := ArgR.vw (a := .sl i) (v := .ref p) re2 hσ hu
      cases u with
      | dic ks2 vs2 =>
        have ea : (if keyOk y then some ((dfind y ks2 vs2).getD z) else none) = some w := ea
        split at ea
        · rename_i hk
          cases ea
          obtain ⟨q, xs2, e2, ⟨ys2, hy2, hk2, rfl⟩, rw⟩ := br
          cases e2
          obtain ⟨k', rfl, kr⟩ := key_of hk (rv1.kp (t2.kp re1))
          have f := dfind_val kr hk2 rw
          refine ⟨_, DGet.k hy2, fin _ ?_⟩
          cases e : dfind y ks2 vs2 with
          | none => rw [f.2 e]; exact rv2
          | some u =>
            obtain ⟨v, hv, rv⟩ := f.1 u e
            rw [hv]
            exact rv
        · cases ea
      | _ => cases ea
    | _ => exact False.elim k
/-- {} -/
theorem su_ndic : SU C (.Dict [] [] pos) (fun r => .ok (.c [] []) r) := by
  refine ⟨_, pe_dnewK, fun g ρ σ F Q re k => ?_⟩
  intro p hp
  obtain ⟨re2, t2⟩ := re.lay (o := .dK []) hp
  refine k _ F t2 re2 _ [p] ⟨p, [], [], rfl, ⟨[], upd_same, rfl, rfl⟩, ⟨rfl, rfl⟩, rfl⟩ ?_ ?_
  · have x := tmp_new re hp
    exact ⟨x.nod, x.nl, x.nf⟩
  · intro a m
    rw [List.mem_singleton.mp m]
    exact .inl hp

/-! ### what a name has is changed -/
theorem RE.mut {g : Sg} {ρ : Env} {σ : L2.St} {F : Fp} {i : Nat} {u u' : U} {a : Addr} {fs : List Addr} {o : HO} (re : RE C.Z C.B C.T g ρ σ F) (hl : lookU ρ i = some u) (hF : F i = a :: fs) (hv : σ[i]? = some (some (.ref a)))
    (h : OU C.Z ⟨upd g.H a o, g.L⟩ u' (.ref a) (a :: fs)) : ∃ r', putV ρ i u' = some r' ∧ RE C.Z C.B C.T ⟨upd g.H a o, g.L⟩ r' σ F ∧ Go g F ⟨upd g.H a o, g.L⟩ F := by
  obtain ⟨kp, k1, k2⟩ := re.chg (o := o) hF
  have am : a ∈ F i := by rw [hF]; exact List.mem_cons_self
  obtain ⟨ou, hou, _⟩ := re.mu am
  obtain ⟨v, x, hx, cx, hσ, _⟩ := re.look hl
  rw [hv] at hσ
  cases hσ
  have hi := lt_of_get hx
  have go : Go g F ⟨upd g.H a o, g.L⟩ F := ⟨fun _ l => l, fun b ob e n => (upd_ne (fun z => n i (by rw [z]; exact am))).trans e, fun b e => by
    by_cases hb : b = a
    · subst hb
      have e : upd g.H b o b = none := e
      rw [upd_same] at e; cases e
    · have e : upd g.H a o b = none := e
      rw [upd_ne hb] at e; exact e, fun b l => .inl l, fun j b m => .inr ⟨j, m⟩⟩
  have fin : ∀ {y : En}, RN C.Z ⟨upd g.H a o, g.L⟩ C.B C.T i (some (.ref a)) (F i) y → RE C.Z C.B C.T ⟨upd g.H a o, g.L⟩ (ρ.set i y) σ F := fun {y} hy => by
    have := re.put (i := i) (o := some (.ref a)) (fp := F i) (x := y) (g' := ⟨upd g.H a o, g.L⟩) kp k1 hi hy (re.nod i) (fun b m => re.nl i b m) (fun j hj b m mj => hj (re.dis j i b mj m)) (fun j _ b m => re.nl j b m) (fun b l => by
      obtain ⟨q, hq⟩ := re.la b l
      exact ⟨q, (upd_ne (fun z => re.nl i a am (by rw [← z]; exact l))).trans hq⟩)
    rw [set_self hv] at this
    have e : F.set i (F i) = F := by
      funext j
      by_cases hj : j = i
      · subst hj; exact Fp.set_same
      · exact Fp.set_ne hj
    rw [e] at this
    exact this
  rw [← hF] at h
  unfold putV
  rw [nth_iff, hx]
  cases x with
  | no => cases cx
  | m w => exact ⟨_, rfl, fin ⟨_, rfl, h⟩, go⟩
  | t w =>
    obtain ⟨p, hp1, hp2⟩ := re.at_ i _ hx
    rw [hv] at hp1
    cases hp1
    obtain ⟨v, hb, ev, _⟩ := hp2
    cases ev
    exact ⟨_, rfl, fin ⟨_, hb, rfl, h⟩, go⟩
  | x c ks ws => cases cx
def appM (i : Nat) (ma : Env → Res W) : Env → Res W := fun r => match lookU r i with
    | some (.l _) => (ma r).bind fun y r1 => appS i y r1
    | _ => .bad
theorem se_app {x : Str} {i : Nat} {npos apos : Pos} (hN : C.X.N[i]? = some x) (hv : Vis C.X.env.scope x) (hdb : (x == ("__debug__" : Str)) = false) (hcd : (x == ("__classdict__" : Str)) = false) (hb : SE C b mb) (he : notStar b = true) (hl : (apos.endLine == pos.line) = true) :
    SE C (.Call (.Attribute (.Name x npos) "append" apos) [b] [] pos) (appM i mb) := by
  obtain ⟨tb, pb, ib⟩ := hb
  have h1 : starEach [b] C.X.env = [(false, eval b C.X.env)] := by rw [star_ he]; rfl
  refine ⟨_, pe_bm PySem.F.plainAttrs_list PySem.F.slot_list_append PySem.F.type_list_append mt_append (pe_var hN hv hdb hcd) (pa_cons pb pa_nil (star_ he)) (base_of rfl) (by rw [h1]; rfl) hl (star_ he) rfl, fun g ρ σ F Q re k => ?_⟩
  unfold appM at k
  cases hlk : lookU ρ i with
  | none => rw [hlk] at k; exact False.elim k
  | some u =>
    rw [hlk] at k
    cases u with
    | l us =>
      obtain ⟨v, _, _, _, hσ, p, xs, fs, rfl, hx, _⟩ := re.look hlk
      refine ⟨_, hσ, .inl ⟨rfl, xs, sqL_of hx⟩, ?_⟩
      refine ib g ρ σ F _ re (k.seq fun y r1 g1 F1 t1 re1 k1 v1 rv1 => ?_)
      unfold appS at k1
      cases hlk1 : lookU r1 i with
      | none => rw [hlk1] at k1; exact False.elim k1
      | some u1 =>
        rw [hlk1] at k1
        cases u1 with
        | l us1 =>
          obtain ⟨v', _, _, _, hσ1, p1, xs1, fs1, rfl, hx1, ou, hF⟩ := re1.look hlk1
          rw [hσ] at hσ1
          cases hσ1
          have k1 : POk C g1 F1 σ _ (if Nat.blt us1.length size then _ else _) := k1
          split at k1
          · rename_i hz
            have am : p ∈ F1 i := by rw [hF]; exact List.mem_cons_self
            obtain ⟨kp, _, kf⟩ := re1.chg (o := .lst (xs1 ++ [v1])) hF
            have ou2 : OU C.Z ⟨upd g1.H p (.lst (xs1 ++ [v1])), g1.L⟩ (.l (us1 ++ [.d y])) (.ref p) (p :: fs1) := by
              refine ⟨p, xs1 ++ [v1], fs1, rfl, upd_same, ?_, rfl⟩
              have := (ou.kp kp kf).append (OUs.dat (ws := [y]) (xs := [v1]) ⟨v1, [], rfl, rv1.kp kp, rfl⟩)
              rw [List.append_nil] at this
              exact this
            obtain ⟨r2, hp2, re2, t2⟩ := re1.mut hlk1 hF hσ ou2
            rw [hp2] at k1
            refine ⟨p, xs1, v1, rfl, rfl, hx1, ?_, k1 _ F1 t2 re2 _ rfl⟩
            rw [← ou.length]
            exact sizeLine_lt (by simpa [Nat.blt_eq] using hz)
          · exact False.elim k1
        | _ => exact False.elim k1
    | _ => exact False.elim k
/-- xs.extend(ys), ys a list or a tuple -/
def rExtA (K : PySem.W.Frag) : V → List V → Hp → VK → Prop := fun x vs H Q => ∃ l b xs zs, x = .ref l ∧ vs = [.ref b] ∧ H l = some (.lst xs) ∧ (H b = some (.lst zs) ∨ SqT K H b zs) ∧ xs.length + zs.length ≤ sizeLine ∧ Q .non (upd H l (.lst (xs ++ zs)))
theorem ext_tupW (l : Addr) (items : Array Value) (n : Nat) (b : Addr) (items2 : Array Value) (n2 : Nat) (dd : Option Addr) (sl : Array (Option Value)) (hs0 : ¬(!items.isEmpty && Builtin.List.listTooLong (items.size + items2.size)) = true) (hs1 : items.size ≤ sizeLine) (hs2 : items.size + items2.size ≤ sizeLine + 1) :
    Meets (Builtin.«list.extend» ⟨[.ref l, .ref b], []⟩) (fun _ R s => s.heap.get? l = some { cls := .type "list", dict := none, data := .seq items n, slots := #[] } ∧ s.heap.get? b = some { cls := .type "tuple", dict := dd, data := .seq items2 n2, slots := sl } ∧ R (.ok (.ret Value.none)) { s with heap := s.heap.update l (Obj.mapSeq fun x => x ++ items2), toks := s.toks }) :=
  .of_wp fun prog w A R s h => by
    obtain ⟨hp, g, d, tk, os⟩ := s; obtain ⟨hl, hb, h⟩ := h
    have f1 := AutoSeq1.idx_int
    have hz' : (items ++ items2).size ≤ sizeLine + 1 := by rw [Array.size_append]; exact hs2
    wp_walk using (wpAny_updateSeq hl rfl (hz := hs1) (_hz' := hz')), wpAny_loadPart' hl, wpAny_loadPart' hb; exact ⟨_, rfl, h⟩
theorem mt_extA {X : Cx} : MtR X "list.extend" (rExtA X.K) := by
  intro pins s σ H x vs v us Q I rx rv h
  obtain ⟨l, b, xs, zs, rfl, rfl, hH, hB | hB, hz, q⟩ := h
  · exact mt_extend pins s σ H _ _ v us Q I rx rv ⟨l, b, xs, zs, rfl, rfl, hH, hB, hz, q⟩
  · cases rx
    obtain ⟨u, rfl, ru⟩ := rv.one
    cases ru
    obtain ⟨z, its, n, r, hl, e⟩ := I.lstM hH
    obtain ⟨its2, r2, ⟨⟨cls, dd, data, sl⟩, ho, hc, n2, hd⟩, hs⟩ := I.tuple hB
    simp only at hc hd
    subst hc hd
    have hl2 : zs.length = its2.length := r2.length
    have hsz : its.toArray.size + its2.toArray.size ≤ sizeLine := by rw [List.size_toArray, List.size_toArray]; omega
    have hlong : ¬ (!its.toArray.isEmpty && Builtin.List.listTooLong (its.toArray.size + its2.toArray.size)) = true := by
      rw [notLongL hsz, Bool.and_false]
      exact Bool.false_ne_true
    refine call_meets F.slot_list_extend ⟨_, e, rfl⟩ F.entry_list_extend (F.args_list_extend_2 _ _)
      (ext_tupW l its.toArray n b its2.toArray n2 dd sl hlong (by rw [List.size_toArray]; omega) (by omega)) ⟨e, ho, ?_⟩
    refine ⟨.non, _, I.lset (its' := its ++ its2) hH e (by simp) (r.append r2) ?_, rfl, q⟩
    rw [List.length_append]
    omega
theorem BR.ext {Z : Kx} {g : Sg} {w : W} {v : V} {ws : List W} (h : BR Z g w v) (q : FM.extW w = some ws) : ∃ p xs, v = .ref p ∧ (g.H p = some (.lst xs) ∨ SqT Z.K g.H p xs) ∧ RWs Z g ws xs := by
  cases w with
  | tup us => cases q; obtain ⟨a, xs, e, h1, h2⟩ := h; exact ⟨a, xs, e, .inr h1, h2⟩
  | lis us => cases q; obtain ⟨a, xs, e, h1, h2⟩ := h; exact ⟨a, xs, e, .inl h1, h2⟩
  | _ => cases q
def extM (i : Nat) (va : Env → Res Arg) : Env → Res W := fun r => match lookU r i with
    | some (.l _) => (va r).bind fun y r1 => extS i y r1
    | _ => .bad
theorem se_ext {x : Str} {i : Nat} {npos apos : Pos} (hN : C.X.N[i]? = some x) (hv : Vis C.X.env.scope x) (hdb : (x == ("__debug__" : Str)) = false) (hcd : (x == ("__classdict__" : Str)) = false) (hb : SV C b vb) (he : notStar b = true) (hl : (apos.endLine == pos.line) = true) :
    SE C (.Call (.Attribute (.Name x npos) "extend" apos) [b] [] pos) (extM i vb) := by
  obtain ⟨tb, pb, ib⟩ := hb
  have h1 : starEach [b] C.X.env = [(false, eval b C.X.env)] := by rw [star_ he]; rfl
  refine ⟨_, pe_bm PySem.F.plainAttrs_list PySem.F.slot_list_extend PySem.F.type_list_extend mt_extA (pe_var hN hv hdb hcd) (pa_cons pb pa_nil (star_ he)) (base_of rfl) (by rw [h1]; rfl) hl (star_ he) rfl, fun g ρ σ F Q re k => ?_⟩
  unfold extM at k
  cases hlk : lookU ρ i with
  | none => rw [hlk] at k; exact False.elim k
  | some u =>
    rw [hlk] at k
    cases u with
    | l us =>
      obtain ⟨v, _, _, _, hσ, p, xs, fs, rfl, hx, _⟩ := re.look hlk
      refine ⟨_, hσ, .inl ⟨rfl, xs, sqL_of hx⟩, ?_⟩
      refine ib g ρ σ F _ re (k.seq fun y r1 g1 F1 t1 re1 k1 v1 rv1 => ?_)
      unfold extS at k1
      cases hlk1 : lookU r1 i with
      | none => rw [hlk1] at k1; exact False.elim k1
      | some u1 =>
        cases hw : (vw r1 y).bind FM.extW with
        | none => rw [hlk1, hw] at k1; cases u1 <;> exact False.elim k1
        | some ws =>
        rw [hlk1, hw] at k1
        obtain ⟨w0, hw1, hw2⟩ := Option.bind_eq_some_iff.mp hw
        obtain ⟨p', zs, rfl, hq', rws⟩ := (rv1.vw re1 hw1).ext hw2
        cases u1 with
        | l us1 =>
          obtain ⟨v', _, _, _, hσ1, p1, xs1, fs1, rfl, hx1, ou, hF⟩ := re1.look hlk1
          rw [hσ] at hσ1
          cases hσ1
          have k1 : POk C g1 F1 σ _ (if Nat.ble (us1.length + ws.length) size then _ else _) := k1
          split at k1
          · rename_i hz
            obtain ⟨kp, _, kf⟩ := re1.chg (o := .lst (xs1 ++ zs)) hF
            have ou2 : OU C.Z ⟨upd g1.H p (.lst (xs1 ++ zs)), g1.L⟩ (.l (us1 ++ ws.map U.d)) (.ref p) (p :: fs1) := by
              refine ⟨p, xs1 ++ zs, fs1, rfl, upd_same, ?_, rfl⟩
              have := (ou.kp kp kf).append (OUs.dat (rws.kp kp))
              rw [List.append_nil] at this
              exact this
            obtain ⟨r2, hp2, re2, t2⟩ := re1.mut hlk1 hF hσ ou2
            rw [hp2] at k1
            refine ⟨p, p', xs1, zs, rfl, rfl, hx1, hq', ?_, k1 _ F1 t2 re2 _ rfl⟩
            rw [← ou.length, ← rws.length]
            exact sizeLine_le (Nat.le_of_ble_eq_true hz)
          · exact False.elim k1
        | _ => exact False.elim k1
    | _ => exact False.elim k
end
end FM


set_option Elab.async false
set_option linter.all false
set_option maxRecDepth 100000
set_option maxHeartbeats 2000000
namespace FM
open PySem L2

/-! ### names stay while others change -/
section
variable {Z : Kx} {g g' : Sg} {B : Nat → Option V} {T : Option Ct} {r : Env} {σ : L2.St} {F F' : Fp}
theorem RE.keep (e : RE Z B T g r σ F) (t : Kp Z g g') (hk : ∀ j, ∀ a ∈ F j, g'.H a = g.H a) (hl : ∀ j, ∀ a ∈ F j, ¬ g'.L a) (la : ∀ a, g'.L a → ∃ o, g'.H a = some o) : RE Z B T g' r σ F :=
  ⟨e.len, fun i x h => let ⟨o, h1, h2⟩ := e.at_ i x h; ⟨o, h1, h2.kp t (hk i)⟩, e.out, e.nod, e.dis, fun j a m => hl j a m, la⟩
theorem wipe_len (r : Env) : ∀ vs : List Nat, (wipe r vs).length = r.length
  | [] => rfl
  | v :: vs => by unfold wipe; rw [List.length_set, wipe_len r vs]
/-- lent names are put aside -/
def Fp.wipe (F : Fp) : List Nat → Fp
  | [] => F
  | v :: vs => (F.wipe vs).set v []
theorem Fp.wipe_mem {F : Fp} : ∀ {vs : List Nat} {j : Nat} {a : Addr}, a ∈ F.wipe vs j → a ∈ F j ∧ j ∉ vs
  | [], j, a, h => ⟨h, by simp⟩
  | v :: vs, j, a, h => by
    unfold Fp.wipe at h
    by_cases hj : j = v
    · subst hj; rw [Fp.set_same] at h; cases h
    · rw [Fp.set_ne hj] at h
      obtain ⟨h1, h2⟩ := Fp.wipe_mem h
      exact ⟨h1, by simp only [List.mem_cons, not_or]; exact ⟨hj, h2⟩⟩
theorem RE.wipe (e : RE Z B T g r σ F) : ∀ {vs : List Nat}, (∀ v ∈ vs, v < r.length) → RE Z B T g (FM.wipe r vs) σ (F.wipe vs)
  | [], _ => e
  | v :: vs, h => by
    have ih := RE.wipe e (vs := vs) fun w hw => h w (List.mem_cons_of_mem _ hw)
    have hv : v < (FM.wipe r vs).length := by rw [wipe_len]; exact h v List.mem_cons_self
    obtain ⟨o, ho⟩ : ∃ o, σ[v]? = some o := ⟨σ[v]'(by rw [← e.len]; exact h v List.mem_cons_self), by simp⟩
    have := ih.drop (i := v) (o := o) hv
    rw [set_self ho] at this
    exact this
theorem wipe_set (r : Env) (x : En) {i : Nat} : ∀ {vs : List Nat}, i ∉ vs → FM.wipe (r.set i x) vs = (FM.wipe r vs).set i x
  | [], _ => rfl
  | v :: vs, h => by
    simp only [List.mem_cons, not_or] at h
    unfold FM.wipe
    rw [wipe_set r x h.2, List.set_comm _ _ h.1]
theorem wipe_get (r : Env) {i : Nat} : ∀ {vs : List Nat}, i ∉ vs → (FM.wipe r vs)[i]? = r[i]?
  | [], _ => rfl
  | v :: vs, h => by
    simp only [List.mem_cons, not_or] at h
    unfold FM.wipe
    rw [List.getElem?_set_ne (Ne.symm h.1), wipe_get r h.2]
/-- names that were put aside come back with what they have now -/
theorem RE.puts {g' : Sg} : ∀ {is : List Nat} {os : List U} {ws : List V} {fps : List Addr} {r : Env} {F0 : Fp}, RE Z B T g' (FM.wipe r is) σ F0 → is.Nodup → (∀ j ∈ is, ∃ x u, r[j]? = some x ∧ cont x = some u ∧ ∀ w, x = .t w → ∃ v, B j = some v ∧ σ[j]? = some (some v)) →
    (is.map fun j => σ[j]?) = ws.map (fun v => some (some v)) → OUs Z g' os ws fps → fps.Nodup → (∀ a ∈ fps, ¬ g'.L a) → (∀ a ∈ fps, ∀ k, a ∉ F0 k) →
    ∃ r1 Fn, FM.puts r is os = some r1 ∧ RE Z B T g' r1 σ Fn ∧ ∀ k a, a ∈ Fn k → a ∈ F0 k ∨ a ∈ fps
  | [], os, ws, fps, r, F0, re, _, _, hw, ou, _, _, _ => by
    have : ws = [] := by simpa using hw.symm
    subst this
    cases os with
    | nil => exact ⟨r, F0, rfl, re, fun k a h => .inl h⟩
    | cons u us => obtain ⟨x, t, f1, f2, e, _⟩ := ou; cases e
  | i :: is, os, ws, fps, r, F0, re, nd, hx, hw, ou, fnd, fl, ff => by
    cases ws with
    | nil => simp at hw
    | cons v ws =>
      simp only [List.map_cons, List.cons.injEq] at hw
      obtain ⟨hv, hw⟩ := hw
      cases os with
      | nil => obtain ⟨e, _⟩ := ou; cases e
      | cons u us =>
        obtain ⟨v', r', f1, f2, e, o1, o2, rfl⟩ := ou
        cases e
        rw [List.nodup_cons] at nd
        rw [List.nodup_append] at fnd
        obtain ⟨x, u0, hxi, hc, ht⟩ := hx i List.mem_cons_self
        have hi := lt_of_get hxi
        obtain ⟨y, hp, hy⟩ : ∃ y, putV r i u = some (r.set i y) ∧ RN Z g' B T i (some v) f1 y ∧ True := by
          unfold putV
          rw [nth_iff, hxi]
          cases x with
          | no => cases hc
          | m w => exact ⟨_, rfl, ⟨v, rfl, o1⟩, trivial⟩
          | t w =>
            obtain ⟨v2, b1, b2⟩ := ht w rfl
            rw [hv] at b2
            cases b2
            exact ⟨_, rfl, ⟨v, b1, rfl, o1⟩, trivial⟩
          | x c ks ws => cases hc
        have re1 : RE Z B T g' ((FM.wipe r is).set i .no) σ F0 := re
        have F0i : F0 i = [] := by
          obtain ⟨o, _, h2⟩ := re1.at_ i .no (by rw [List.getElem?_set_self (by rw [wipe_len]; exact hi)])
          exact h2
        have re2 := re1.put (i := i) (o := some v) (fp := f1) (x := y) (g' := g') .refl (fun _ _ _ _ => rfl) (by rw [List.length_set, wipe_len]; exact hi) hy.1 fnd.1 (fun a m => fl a (List.mem_append_left _ m)) (fun j _ a m => ff a (List.mem_append_left _ m) j) (fun j _ a m => re1.nl j a m) re1.la
        rw [List.set_set, set_self hv, ← wipe_set r y nd.1] at re2
        obtain ⟨r1, Fn, h1, h2, h3⟩ := RE.puts (is := is) (os := us) (ws := ws) (fps := f2) (r := r.set i y) re2 nd.2 (fun j hj => by
            have hne : i ≠ j := fun e => nd.1 (e ▸ hj)
            rw [List.getElem?_set_ne hne]
            exact hx j (List.mem_cons_of_mem _ hj)) hw o2 fnd.2.1 (fun a m => fl a (List.mem_append_right _ m)) (fun a m k hk => by
            by_cases hki : k = i
            · subst hki
              rw [Fp.set_same] at hk
              exact fnd.2.2 a hk a m rfl
            · rw [Fp.set_ne hki] at hk
              exact ff a (List.mem_append_right _ m) k hk)
        refine ⟨r1, Fn, ?_, h2, fun k a h => ?_⟩
        · show (putV r i u).bind _ = _
          rw [hp]
          exact h1
        · rcases h3 k a h with h | h
          · by_cases hki : k = i
            · subst hki
              rw [Fp.set_same] at h
              exact .inr (List.mem_append_left _ h)
            · rw [Fp.set_ne hki] at h
              exact .inl h
          · exact .inr (List.mem_append_right _ h)
end

/-! ### arguments of a call -/
section
variable (C : Cz) (g : Sg) (F : Fp) (σ : L2.St)
def AV1 : AV → V → List Addr → Prop
  | .d w, v, fp => fp = [] ∧ RW C.Z g w v
  | .r i, v, fp => fp = [] ∧ σ[i]? = some (some v)
  | .u u, v, fp => OU C.Z g u v fp
def AVs : List AV → List V → List Addr → Prop
  | [], vs, fp => vs = [] ∧ fp = []
  | a :: as, vs, fp => ∃ v r f1 f2, vs = v :: r ∧ AV1 C g σ a v f1 ∧ AVs as r f2 ∧ fp = f1 ++ f2
end
section
variable {C : Cz} {g g1 : Sg} {F F1 : Fp} {σ : L2.St} {ρ : Env}
theorem AV1.al {a : AV} {v : V} {fp : List Addr} (h : AV1 C g σ a v fp) {b : Addr} (m : b ∈ fp) : ∃ o, g.H b = some o := by
  cases a with
  | d w => rw [h.1] at m; cases m
  | r i => rw [h.1] at m; cases m
  | u u => exact let ⟨o, q, _⟩ := OU.mu h m; ⟨o, q⟩
theorem AV1.go (re : RE C.Z C.B C.T g ρ σ F) (t : Go g F g1 F1) {a : AV} {v : V} {fp : List Addr} (x : Tmp g F fp) (h : AV1 C g σ a v fp) : AV1 C g1 σ a v fp ∧ Tmp g1 F1 fp := by
  have tm : Tmp g1 F1 fp := ⟨x.nod, fun b m l => by
    obtain ⟨o, q⟩ := h.al m
    rcases t.n b l with l | l | ⟨i, l⟩
    · exact x.nl b m l
    · rw [q] at l; cases l
    · exact x.nf b m i l, fun b m i hi => by
    obtain ⟨o, q⟩ := h.al m
    rcases t.s i b hi with l | ⟨j, l⟩
    · rw [q] at l; cases l
    · exact x.nf b m j l⟩
  cases a with
  | d w => exact ⟨⟨h.1, h.2.kp (t.kp re)⟩, tm⟩
  | r i => exact ⟨h, tm⟩
  | u u => exact ⟨(OU.go re t x h).1, tm⟩
/-- one argument -/
def SA1 (C : Cz) (e : Expr) (m : Env → Res AV) : Prop := ∃ t : TE, PE C.X e t ∧ ∀ (g : Sg) (r : Env) (σ : L2.St) (F : Fp) (Q : VK), RE C.Z C.B C.T g r σ F →
  POk C g F σ (fun a g' F' => ∀ v fp, AV1 C g' σ a v fp → Tmp g' F' fp → Src g F fp → Q v g'.H) (m r) → t σ g.H Q
def SAA (C : Cz) (es : List Expr) (m : Env → Res (List AV)) : Prop := ∃ t : TA, PA C.X es t ∧ ∀ (g : Sg) (r : Env) (σ : L2.St) (F : Fp) (Q : List V → Hp → Prop), RE C.Z C.B C.T g r σ F →
  POk C g F σ (fun as g' F' => ∀ vs fp, AVs C g' σ as vs fp → Tmp g' F' fp → Src g F fp → Q vs g'.H) (m r) → t σ g.H Q
theorem sa1_d {e : Expr} {m : Env → Res W} (h : SE C e m) : SA1 C e (fun r => (m r).bind fun w r1 => .ok (.d w) r1) := by
  obtain ⟨t, p, i⟩ := h
  exact ⟨t, p, fun g r σ F Q re k => i g r σ F Q re (k.seq fun w r1 g1 F1 t1 re1 k1 v rv => k1.now re1 v [] ⟨rfl, rv⟩ tmp_nil (fun _ m => nomatch m))⟩
theorem sa1_u {e : Expr} {m : Env → Res U} (h : SU C e m) : SA1 C e (fun r => (m r).bind fun w r1 => .ok (.u w) r1) := by
  obtain ⟨t, p, i⟩ := h
  exact ⟨t, p, fun g r σ F Q re k => i g r σ F Q re (k.seq fun w r1 g1 F1 t1 re1 k1 v fp o x s => k1.now re1 v fp o x (s : Src g F fp))⟩
theorem sa1_r {i : Nat} {x : Str} {pos : Pos} (hN : C.X.N[i]? = some x) (hv : Vis C.X.env.scope x) (hd : (x == ("__debug__" : Str)) = false) (hcd : (x == ("__classdict__" : Str)) = false) :
    SA1 C (.Name x pos) (fun r => match lookU r i with | some _ => .ok (.r i) r | none => .bad) := by
  refine ⟨_, pe_var hN hv hd hcd, fun g r σ F Q re k => ?_⟩
  dsimp only at k
  cases hr : lookU r i with
  | none => rw [hr] at k; exact False.elim k
  | some u =>
    rw [hr] at k
    obtain ⟨v, x, _, _, h3, _⟩ := re.look hr
    exact ⟨v, h3, k g F (.refl g F) re v [] ⟨rfl, h3⟩ tmp_nil (fun _ m => nomatch m)⟩
theorem saa_nil {f : IA → Env → Res AV} : SAA C [] (evs f []) := ⟨_, pa_nil, fun g r σ F Q re k => k.now re [] [] ⟨rfl, rfl⟩ tmp_nil (fun _ m => nomatch m)⟩
theorem saa_cons {f : IA → Env → Res AV} {e : Expr} {es : List Expr} {i : IA} {is : List IA} (hn : notStar e = true) (h1 : SA1 C e (f i)) (h2 : SAA C es (evs f is)) : SAA C (e :: es) (evs f (i :: is)) := by
  obtain ⟨ta, pa, ia⟩ := h1
  obtain ⟨tb, pb, ib⟩ := h2
  refine ⟨_, pa_cons pa pb (star_ hn), fun g r σ F Q re k => ?_⟩
  refine ia g r σ F _ re (k.seq fun w r1 g1 F1 t1 re1 k1 v f1 a1 x1 s1 => ?_)
  refine ib g1 r1 σ F1 _ re1 (k1.seq fun ws r2 g2 F2 t2 re2 k2 vs f2 a2 x2 s2 => ?_)
  obtain ⟨a1', x1'⟩ := a1.go re1 t2 x1
  refine k2.now re2 (v :: vs) (f1 ++ f2) ⟨v, vs, f1, f2, rfl, a1', a2, rfl⟩ ⟨?_, ?_, ?_⟩ ?_
  · rw [List.nodup_append]
    refine ⟨x1'.nod, x2.nod, fun b mb c mc e => ?_⟩
    subst e
    obtain ⟨o, q⟩ := a1.al mb
    rcases s2 b mc with h | ⟨j, h⟩
    · rw [q] at h; cases h
    · exact x1.nf b mb j h
  · intro b m
    rcases List.mem_append.mp m with m | m
    · exact x1'.nl b m
    · exact x2.nl b m
  · intro b m
    rcases List.mem_append.mp m with m | m
    · exact x1'.nf b m
    · exact x2.nf b m
  · intro b m
    rcases List.mem_append.mp m with m | m
    · exact s1 b m
    · exact Src.mono t1 s2 b m

/-! ### what the callee gets -/
def lentV : List En → List V → List V
  | .t _ :: es, v :: vs => v :: lentV es vs
  | _ :: es, _ :: vs => lentV es vs
  | _, _ => []
def isT : En → Bool
  | .t _ => true
  | _ => false
/-- the addresses of the arguments, from parameter n on -/
structure CallR' (C : Cz) (g : Sg) (σ : L2.St) (F : Fp) (es : List En) (is : List Nat) (vs : List V) (fp : List Addr) (Fa : Fp) : Prop where
  len : es.length = vs.length
  at_ : ∀ i e, es[i]? = some e → ∃ v, vs[i]? = some v ∧ ((∃ u, e = .m u ∧ OU C.Z g u v (Fa i) ∧ ∀ a ∈ Fa i, a ∈ fp) ∨ ∃ u j, e = .t u ∧ OU C.Z g u v (Fa i) ∧ j ∈ is ∧ Fa i = F j)
  out : ∀ i, es.length ≤ i → Fa i = []
  nod : ∀ i, (Fa i).Nodup
  dis : ∀ i j a, a ∈ Fa i → a ∈ Fa j → i = j
  cov : ∀ i a, a ∈ Fa i → a ∈ fp ∨ ∃ j ∈ is, a ∈ F j
  lv : (is.map fun j => σ[j]?) = (lentV es vs).map fun v => some (some v)
theorem args_r (re : RE C.Z C.B C.T g ρ σ F) : ∀ {as : List AV} {vs : List V} {fp : List Addr} {es : List En} {is : List Nat}, AVs C g σ as vs fp → Tmp g F fp → args ρ as = some (es, is) →
    (∃ Fa, CallR' C g σ F es is vs fp Fa) ∧ is.Nodup ∧ ∀ j ∈ is, ∃ u, lookU ρ j = some u
  | [], vs, fp, es, is, h, x, e => by
    cases e
    obtain ⟨rfl, rfl⟩ := h
    exact ⟨⟨fun _ => [], rfl, fun i e h => by simp at h, fun _ _ => rfl, fun _ => List.nodup_nil, fun _ _ _ h => (nomatch h), fun _ _ h => (nomatch h), rfl⟩, List.nodup_nil, fun _ h => (nomatch h)⟩
  | a :: as, vs, fp, es, is, h, x, e => by
    obtain ⟨v, vr, f1, f2, rfl, h1, h2, rfl⟩ := h
    have xn := List.nodup_append.mp x.nod
    have x2 : Tmp g F f2 := ⟨xn.2.1, fun b m => x.nl b (List.mem_append_right _ m), fun b m => x.nf b (List.mem_append_right _ m)⟩
    have step : ∀ {u : U} {es' : List En} {is' : List Nat}, OU C.Z g u v f1 → args ρ as = some (es', is') → es = .m u :: es' → is = is' → (∃ Fa, CallR' C g σ F es is (v :: vr) (f1 ++ f2) Fa) ∧ is.Nodup ∧ ∀ j ∈ is, ∃ u, lookU ρ j = some u := by
      rintro u es' is' ho e' rfl rfl
      obtain ⟨⟨Fa, q⟩, n1, n2⟩ := args_r re h2 x2 e'
      refine ⟨⟨fun i => match i with | 0 => f1 | i + 1 => Fa i, congrArg Nat.succ q.len, fun i y hy => ?_, fun i hi => ?_, fun i => ?_, fun i j b hi hj => ?_, fun i b hi => ?_, q.lv⟩, n1, n2⟩
      · cases i with
        | zero =>
          simp at hy
          subst hy
          exact ⟨v, rfl, .inl ⟨u, rfl, ho, fun b m => List.mem_append_left _ m⟩⟩
        | succ i =>
          simp at hy
          obtain ⟨v', hv', q'⟩ := q.at_ i y hy
          refine ⟨v', by simpa using hv', ?_⟩
          rcases q' with ⟨u', e1, e2, e3⟩ | q'
          · exact .inl ⟨u', e1, e2, fun b m => List.mem_append_right _ (e3 b m)⟩
          · exact .inr q'
      · cases i with
        | zero => simp at hi
        | succ i => exact q.out i (by simpa using hi)
      · cases i with
        | zero => exact xn.1
        | succ i => exact q.nod i
      · have fresh : ∀ i b, b ∈ f1 → b ∉ Fa i := fun i b m m' => by
          rcases q.cov i b m' with c | ⟨j, _, c⟩
          · exact xn.2.2 b m b c rfl
          · exact x.nf b (List.mem_append_left _ m) j c
        cases i with
        | zero =>
          cases j with
          | zero => rfl
          | succ j => exact absurd hj (fresh j b hi)
        | succ i =>
          cases j with
          | zero => exact absurd hi (fresh i b hj)
          | succ j => rw [q.dis i j b hi hj]
      · cases i with
        | zero => exact .inl (List.mem_append_left _ hi)
        | succ i =>
          rcases q.cov i b hi with c | c
          · exact .inl (List.mem_append_right _ c)
          · exact .inr c
    cases a with
    | d w =>
      obtain ⟨⟨es', is'⟩, e', ee⟩ := Option.map_eq_some_iff.mp e
      cases ee
      exact step (u := .d w) h1 e' rfl rfl
    | u u =>
      obtain ⟨⟨es', is'⟩, e', ee⟩ := Option.map_eq_some_iff.mp e
      cases ee
      exact step (u := u) h1 e' rfl rfl
    | r j =>
      obtain ⟨rfl, hσ⟩ := h1
      obtain ⟨u, hu, e⟩ := Option.bind_eq_some_iff.mp (show ((lookU ρ j).bind fun u => (args ρ as).bind fun q => if q.2.any (Nat.beq j) then none else some (.t u :: q.1, j :: q.2)) = some (es, is) from e)
      obtain ⟨⟨es', is'⟩, e', ee⟩ := Option.bind_eq_some_iff.mp e
      dsimp only at ee
      split at ee
      · cases ee
      · rename_i hnj
        cases ee
        have hnj : j ∉ is' := fun hm => hnj (List.any_eq_true.mpr ⟨j, hm, Nat.beq_refl j⟩)
        obtain ⟨⟨Fa, q⟩, n1, n2⟩ := args_r re h2 x2 e'
        obtain ⟨v', y, hy, hcy, hσ', ou⟩ := re.look hu
        rw [hσ] at hσ'
        cases hσ'
        refine ⟨⟨fun i => match i with | 0 => F j | i + 1 => Fa i, congrArg Nat.succ q.len, fun i y hy => ?_, fun i hi => ?_, fun i => ?_, fun i k b hi hj => ?_, fun i b hi => ?_, ?_⟩, List.nodup_cons.mpr ⟨hnj, n1⟩, fun k hk => ?_⟩
        · cases i with
          | zero =>
            simp at hy
            subst hy
            exact ⟨v, rfl, .inr ⟨u, j, rfl, ou, List.mem_cons_self, rfl⟩⟩
          | succ i =>
            simp at hy
            obtain ⟨v', hv', q'⟩ := q.at_ i y hy
            refine ⟨v', by simpa using hv', ?_⟩
            rcases q' with ⟨u', e1, e2, e3⟩ | ⟨u', j', e1, e2, e3, e4⟩
            · exact .inl ⟨u', e1, e2, fun b m => List.mem_append_right _ (e3 b m)⟩
            · exact .inr ⟨u', j', e1, e2, List.mem_cons_of_mem _ e3, e4⟩
        · cases i with
          | zero => simp at hi
          | succ i => exact q.out i (by simpa using hi)
        · cases i with
          | zero => exact re.nod j
          | succ i => exact q.nod i
        · have fresh : ∀ i b, b ∈ F j → b ∉ Fa i := fun i b m m' => by
            rcases q.cov i b m' with c | ⟨k, hk, c⟩
            · exact x2.nf b c j m
            · exact hnj (re.dis j k b m c ▸ hk)
          cases i with
          | zero =>
            cases k with
            | zero => rfl
            | succ k => exact absurd hj (fresh k b hi)
          | succ i =>
            cases k with
            | zero => exact absurd hi (fresh i b hj)
            | succ k => rw [q.dis i k b hi hj]
        · cases i with
          | zero => exact .inr ⟨j, List.mem_cons_self, hi⟩
          | succ i =>
            rcases q.cov i b hi with c | ⟨k, hk, c⟩
            · exact .inl (List.mem_append_right _ c)
            · exact .inr ⟨k, List.mem_cons_of_mem _ hk, c⟩
        · show σ[j]? :: _ = some (some v) :: _
          rw [hσ, q.lv]
        · rcases List.mem_cons.mp hk with rfl | hk
          · exact ⟨u, hu⟩
          · exact n2 k hk
end
end FM


set_option Elab.async false
set_option linter.all false
set_option maxRecDepth 100000
set_option maxHeartbeats 2000000
namespace FM
open PySem L2

/-- what is wanted behind a call: its value, what was lent -/
def COk (Z : Kx) (g : Sg) (Fa : Fp) (vs : List V) (es : List En) (Q : VK) (E : XK) : CRes → Prop
  | .ok u os => ∀ g' F' v fp fps, Go g Fa g' F' → (∀ a, g'.L a → ∃ o, g'.H a = some o) → OUs Z g' os (lentV es vs) fps → fps.Nodup → (∀ a ∈ fps, ¬ g'.L a ∧ ∃ i, a ∈ F' i) → OU Z g' u v fp → Tmp g' F' fp → Src g Fa fp → Q v g'.H
  | .ex x os => ∀ g' F' d xs fps, Go g Fa g' F' → (∀ a, g'.L a → ∃ o, g'.H a = some o) → OUs Z g' os (lentV es vs) fps → fps.Nodup → (∀ a ∈ fps, ¬ g'.L a ∧ ∃ i, a ∈ F' i) → XD g' x.ks xs d → g'.L d → RWs Z g' x.ws xs → E (.ref (Z.ca x.c)) (some d) g'.H
  | .bad => False
/-- what the def f promises by the evaluator's call c -/
def spOf (Z : Kx) (c : CF) (f n : Nat) : Sp := fun vs H Q E => ∃ (g : Sg) (es : List En) (Fa : Fp) (B : Nat → Option V), g.H = H ∧ es.length = n ∧ RE Z B none g es (vs.map some) Fa ∧ (∀ i u, es[i]? = some (.t u) → B i = vs[i]?) ∧ COk Z g Fa vs es Q E (c f es)
theorem sp_len {Z : Kx} {c : CF} {f n : Nat} {vs : List V} {H : Hp} {Q : VK} {E : XK} (h : spOf Z c f n vs H Q E) : vs.length = n := by
  obtain ⟨g, es, Fa, B, _, l, re, _⟩ := h
  have := re.len
  rw [List.length_map] at this
  rw [← this, l]
theorem POk.seq0 {C : Cz} {g : Sg} {F : Fp} {σ : L2.St} {α β : Type} {Q : β → Sg → Fp → Prop} {P : α → Sg → Fp → Prop} {f : α → Env → Res β} : ∀ {x : Res α}, POk C g F σ Q (x.bind f) →
    (∀ a r1 g1 F1, Go g F g1 F1 → RE C.Z C.B C.T g1 r1 σ F1 → POk C g F σ Q (f a r1) → P a g1 F1) → POk C g F σ P x
  | .ok a r, h, hk => fun g' F' t' e => hk a r g' F' t' e h
  | .ex x r, h, _ => h
  | .bad, h, _ => h
section
variable {C : Cz} {g g1 : Sg} {F F1 : Fp} {σ : L2.St} {ρ : Env}
/-- the callee's start -/
theorem CallR'.re {es : List En} {is : List Nat} {vs : List V} {fp : List Addr} {Fa : Fp} (re : RE C.Z C.B C.T g ρ σ F) (x : Tmp g F fp) (q : CallR' C g σ F es is vs fp Fa) :
    RE C.Z (fun i => match es[i]? with | some (.t _) => vs[i]? | _ => none) none g es (vs.map some) Fa := by
  refine ⟨by rw [List.length_map]; exact q.len, fun i e h => ?_, q.out, q.nod, q.dis, fun i a m l => ?_, re.la⟩
  · obtain ⟨v, hv, q'⟩ := q.at_ i e h
    refine ⟨some v, by rw [List.getElem?_map, hv]; rfl, ?_⟩
    rcases q' with ⟨u, rfl, o, _⟩ | ⟨u, j, rfl, o, _⟩
    · exact ⟨v, rfl, o⟩
    · refine ⟨v, ?_, rfl, o⟩
      simp only [h]
      exact hv
  · rcases q.cov i a m with c | ⟨j, _, c⟩
    · exact x.nl a c l
    · exact re.nl j a c l
/-- behind the call -/
theorem back_re {es : List En} {is : List Nat} {vs : List V} {fp : List Addr} {Fa F' : Fp} {g' : Sg} {os : List U} {fps : List Addr} (t1 : Go g F g1 F1) (re : RE C.Z C.B C.T g1 ρ σ F1) (x : Tmp g1 F1 fp) (s : Src g F fp) (q : CallR' C g1 σ F1 es is vs fp Fa) (hnd : is.Nodup) (hlk : ∀ j ∈ is, ∃ u, lookU ρ j = some u)
    (t : Go g1 Fa g' F') (la : ∀ a, g'.L a → ∃ o, g'.H a = some o) (ou : OUs C.Z g' os (lentV es vs) fps) (nd : fps.Nodup) (hf : ∀ a ∈ fps, ¬ g'.L a ∧ ∃ i, a ∈ F' i) :
    ∃ r2 Fn, puts ρ is os = some r2 ∧ RE C.Z C.B C.T g' r2 σ Fn ∧ Go g F g' Fn ∧ ∀ f2, Src g1 Fa f2 → Tmp g' F' f2 → Tmp g' Fn f2 ∧ Src g F f2 := by
  have cre := q.re re x
  have kp : Kp C.Z g1 g' := t.kp cre
  have al1 : ∀ {j a}, a ∈ F1 j → g1.H a ≠ none := fun {j a} m e => by
    obtain ⟨o, h, _⟩ := re.mu m
    rw [h] at e; cases e
  have ncov : ∀ {j a}, a ∈ F1.wipe is j → ∀ i, a ∉ Fa i := fun {j a} m i m' => by
    obtain ⟨m1, m2⟩ := Fp.wipe_mem m
    rcases q.cov i a m' with c | ⟨k, hk, c⟩
    · exact x.nf a c j m1
    · exact m2 (re.dis j k a m1 c ▸ hk)
  have rew : RE C.Z C.B C.T g1 (wipe ρ is) σ (F1.wipe is) := re.wipe fun v hv => by
    obtain ⟨u, hu⟩ := hlk v hv
    obtain ⟨_, y, hy, _⟩ := re.look hu
    exact lt_of_get hy
  have re0 : RE C.Z C.B C.T g' (wipe ρ is) σ (F1.wipe is) := rew.keep kp (fun j a m => by
      obtain ⟨o, h, _⟩ := rew.mu m
      rw [h]
      exact t.k a o h (ncov m)) (fun j a m l => by
      rcases t.n a l with l | l | ⟨i, l⟩
      · exact rew.nl j a m l
      · exact al1 (Fp.wipe_mem m).1 l
      · exact ncov m i l) la
  obtain ⟨r2, Fn, h1, h2, h3⟩ := re0.puts hnd (fun j hj => by
      obtain ⟨u, hu⟩ := hlk j hj
      obtain ⟨v, y, hy, hc, hσ, _⟩ := re.look hu
      refine ⟨y, u, hy, hc, fun w e => ?_⟩
      subst e
      obtain ⟨o, p1, v', p2, p3, _⟩ := re.at_ j _ hy
      subst p3
      exact ⟨v', p2, p1⟩) q.lv ou nd (fun a m => (hf a m).1) (fun a m k hk => by
      obtain ⟨_, i, hi⟩ := hf a m
      rcases t.s i a hi with e | ⟨j, hj⟩
      · exact al1 (Fp.wipe_mem hk).1 e
      · exact ncov hk j hj)
  have srcA : ∀ {i a}, a ∈ Fa i → g.H a = none ∨ ∃ j, a ∈ F j := fun {i a} m => by
    rcases q.cov i a m with c | ⟨k, _, c⟩
    · exact s a c
    · exact t1.s k a c
  refine ⟨r2, Fn, h1, h2, ⟨fun a l => t.l a (t1.l a l), fun b o e n => t.k b o (t1.k b o e n) fun i m => ?_, fun b e => t1.a b (t.a b e), fun b l => ?_, fun k b m => ?_⟩, fun f2 s2 x2 => ⟨⟨x2.nod, x2.nl, fun a m k hk => ?_⟩, fun a m => ?_⟩⟩
  · rcases srcA m with c | ⟨j, c⟩
    · rw [e] at c; cases c
    · exact n j c
  · rcases t.n b l with l | l | ⟨i, l⟩
    · exact t1.n b l
    · exact .inr (.inl (t1.a b l))
    · rcases srcA l with c | c
      · exact .inr (.inl c)
      · exact .inr (.inr c)
  · rcases h3 k b m with m | m
    · exact t1.s k b (Fp.wipe_mem m).1
    · obtain ⟨_, i, hi⟩ := hf b m
      rcases t.s i b hi with e | ⟨j, hj⟩
      · exact .inl (t1.a b e)
      · exact srcA hj
  · rcases h3 k a hk with c | c
    · rcases s2 a m with e | ⟨j, e⟩
      · exact al1 (Fp.wipe_mem c).1 e
      · exact ncov c j e
    · obtain ⟨_, i, hi⟩ := hf a c
      exact x2.nf a m i hi
  · rcases s2 a m with e | ⟨j, e⟩
    · exact .inl (t1.a a e)
    · exact srcA e
/-- the call itself, its arguments evaluated -/
theorem run_call {c : CF} {f n : Nat} {as : List AV} {vs : List V} {fp : List Addr} {Q : VK} (t1 : Go g F g1 F1) (re : RE C.Z C.B C.T g1 ρ σ F1) (x : Tmp g1 F1 fp) (s : Src g F fp) (h : AVs C g1 σ as vs fp) (hn : as.length = n)
    (k : POk C g F σ (fun u g' F' => ∀ v fp, OU C.Z g' u v fp → Tmp g' F' fp → Src g F fp → Q v g'.H) (runC c f as ρ)) : spOf C.Z c f n vs g1.H Q (WE C.W σ) := by
  unfold runC at k
  cases ea : args ρ as with
  | none => rw [ea] at k; exact False.elim k
  | some q =>
    obtain ⟨es, is⟩ := q
    rw [ea] at k
    obtain ⟨⟨Fa, q⟩, hnd, hlk⟩ := args_r re h x ea
    have hl : ∀ {as : List AV} {es : List En} {is : List Nat}, args ρ as = some (es, is) → es.length = as.length := by
      intro as
      induction as with
      | nil => intro es is e; cases e; rfl
      | cons a as ih =>
        intro es is e
        cases a with
        | d w => obtain ⟨⟨es', is'⟩, e', ee⟩ := Option.map_eq_some_iff.mp e; cases ee; exact congrArg Nat.succ (ih e')
        | u w => obtain ⟨⟨es', is'⟩, e', ee⟩ := Option.map_eq_some_iff.mp e; cases ee; exact congrArg Nat.succ (ih e')
        | r j =>
          obtain ⟨u, hu, e⟩ := Option.bind_eq_some_iff.mp (show ((lookU ρ j).bind fun u => (args ρ as).bind fun q => if q.2.any (Nat.beq j) then none else some (.t u :: q.1, j :: q.2)) = some (es, is) from e)
          obtain ⟨⟨es', is'⟩, e', ee⟩ := Option.bind_eq_some_iff.mp e
          dsimp only at ee
          split at ee
          · cases ee
          · cases ee; exact congrArg Nat.succ (ih e')
    refine ⟨g1, es, Fa, _, rfl, (hl ea).trans hn, q.re re x, fun i u hi => by simp only [hi], ?_⟩
    cases ec : c f es with
    | bad => simp only [ec] at k; exact False.elim k
    | ok u os =>
      simp only [ec] at k
      intro g' F' v f2 fps t la ou nd hf o2 x2 s2
      obtain ⟨r2, Fn, hp, re2, t2, hx⟩ := back_re t1 re x s q hnd hlk t la ou nd hf
      rw [hp] at k
      obtain ⟨x3, s3⟩ := hx f2 s2 x2
      exact k g' Fn t2 re2 v f2 o2 x3 s3
    | ex y os =>
      simp only [ec] at k
      intro g' F' d xs fps t la ou nd hf xd ld rw
      obtain ⟨r2, Fn, hp, re2, t2, hx⟩ := back_re t1 re x s q hnd hlk t la ou nd hf
      rw [hp] at k
      exact k g' Fn d xs t2 re2 xd ld rw
end
section
variable {C : Cz} {e : Expr} {es : List Expr} {pos : Pos}
theorem su_call {c : CF} {f k : Nat} {x : Str} {p : Pos} {fa : Addr} {fd : FuncData} {ps : List Str} {h : IA → Env → Res AV} {is : List IA} (F : FnOk C.X.prog C.X.w C.X.K C.X.mg C.X.base (L2.CX C.X.prog C.X.w) k fa fd ps (spOf C.Z c f ps.length)) (tk : Takes C.X C.W) (hr : Room k C.X.A) (hg : Gl C.X x) (hm : C.X.mg x = some (.ref fa)) (hk : PySem.W.keepIn C.X.K (.ref fa) = true) (hb : Binds C.X.K fd ps [])
    (hdb : (x == ("__debug__" : Str)) = false) (hst : (e :: es).all notStar = true) (hlen : is.length = ps.length) (ha : SAA C (e :: es) (evs h is)) : SU C (.Call (.Name x p) (e :: es) [] pos) (fun r => (evs h is r).bind fun vs r1 => runC c f vs r1) := by
  obtain ⟨t, pa, i⟩ := ha
  rw [List.all_cons, Bool.and_eq_true] at hst
  refine ⟨_, pe_callS (E := WE C.W) F hr hg hm hk hb (fun σ => passAt tk σ) pa hdb (star_ hst.1) (star_any hst.2), fun g ρ σ Fp Q re k => ?_⟩
  refine i g ρ σ Fp _ re ((POk.fact (P := fun as => as.length = is.length) (fun as r e => evs_len e) (k.seq0 (P := fun as g1 F1 => ∃ r1, Go g Fp g1 F1 ∧ RE C.Z C.B C.T g1 r1 σ F1 ∧ POk C g Fp σ (fun u g' F' => ∀ v fp, OU C.Z g' u v fp → Tmp g' F' fp → Src g Fp fp → Q v g'.H) (runC c f as r1)) fun as r1 g1 F1 t1 re1 k1 => ⟨r1, t1, re1, k1⟩)).imp fun as g1 F1 t1 q vs fp av x s => ?_)
  obtain ⟨hl, r1, t1', re1, k1⟩ := q
  exact run_call t1' re1 x s av (hl.trans hlen) k1
theorem su_call0 {c : CF} {f k : Nat} {x : Str} {p : Pos} {fa : Addr} {fd : FuncData} {ps : List Str} {h : IA → Env → Res AV} (F : FnOk C.X.prog C.X.w C.X.K C.X.mg C.X.base (L2.CX C.X.prog C.X.w) k fa fd ps (spOf C.Z c f ps.length)) (tk : Takes C.X C.W) (hr : Room k C.X.A) (hg : Gl C.X x) (hm : C.X.mg x = some (.ref fa)) (hk : PySem.W.keepIn C.X.K (.ref fa) = true) (hb : Binds C.X.K fd ps [])
    (hdb : (x == ("__debug__" : Str)) = false) (hlen : 0 = ps.length) : SU C (.Call (.Name x p) [] [] pos) (fun r => (evs h [] r).bind fun vs r1 => runC c f vs r1) := by
  have P : PE C.X (.Call (.Name x p) [] [] pos) (fun σ H Q => spOf C.Z c f ps.length [] H Q (WE C.W σ)) := by
    refine ⟨fun pins s σ H Q I h => ?_⟩
    refine wpAny_Call_Name_kw (ld_glob I hg hm ?_ hdb)
    exact PySem.W.callWith_K0 I.kIn hk (run_fnS (us := []) (E := WE C.W) F hr hb (passAt tk σ) I .nil h)
  refine ⟨_, P, fun g ρ σ Fp Q re k => ?_⟩
  exact run_call (as := []) (fp := []) (.refl g Fp) re tmp_nil (fun _ m => nomatch m) ⟨rfl, rfl⟩ hlen k
end
end FM


set_option Elab.async false
set_option linter.all false
set_option maxRecDepth 100000
set_option maxHeartbeats 2000000
namespace FM
open PySem L2

section
variable {C : Cz} {a b d e : Expr} {es : List Expr} {pos : Pos} {ma mb md : Env → Res W} {va vb vd : Env → Res Arg} {mt mu : Env → Res Bool}
/-! ### what is walked -/
def Same (ks : List (Nat × W)) (σ σ' : L2.St) : Prop := ∀ q ∈ ks, σ'[q.1]? = σ[q.1]?
def WalkR (C : Cz) (g1 : Sg) (F1 : Fp) (σ : L2.St) (k : Wk) (J : It) : Prop := ∀ (g : Sg) (F : Fp) (r : Env) (σ' : L2.St) (i : Nat), Go g1 F1 g F → RE C.Z C.B C.T g r σ' F → Same k.ks σ σ' → k.still r = true →
  (∀ w, k.ws[i]? = some w → J.go i g.H ∧ ∀ x H', J.yld i g.H x H' → ∃ g', Go g F g' F ∧ RE C.Z C.B C.T g' r σ' F ∧ g'.H = H' ∧ RW C.Z g' w x) ∧ (i = k.ws.length → J.stop i g.H)
/-- an iterable under a target -/
def SI (C : Cz) (tg e : Expr) (m : Env → Res Wk) : Prop := ∃ t : TI, PI C.X tg e t ∧ ∀ (g : Sg) (r : Env) (σ : L2.St) (F : Fp) (R : It → Hp → Prop), RE C.Z C.B C.T g r σ F →
  POk C g F σ (fun k g' F' => ∀ J, WalkR C g' F' σ k J → R J g'.H) (m r) → t σ g.H R
/-- what an operand reads, later on -/
theorem arg_later {g1 g : Sg} {F1 F : Fp} {r1 r : Env} {σ σ' : L2.St} {a : Arg} {v : V} {w : W} (re1 : RE C.Z C.B C.T g1 r1 σ F1) (h : ArgR C g1 F1 σ a v) (q : vw r1 a = some w) (t : Go g1 F1 g F) (re : RE C.Z C.B C.T g r σ' F) (hσ : Same (keep a w) σ σ') (hst : ((keep a w).all fun q => stillI q.2 r q.1) = true) :
    BR C.Z g w v := by
  cases a with
  | w x => cases q; exact (RW.kp (t.kp re1) h).br
  | fr u =>
    obtain ⟨fp, h1, h2⟩ := h
    obtain ⟨h3, _⟩ := h1.go re1 t h2
    exact h3.br q
  | sl i =>
    have e1 : σ'[i]? = σ[i]? := hσ (i, w) List.mem_cons_self
    have hv : σ'[i]? = some (some v) := by rw [e1]; exact h
    simp only [keep, List.all_cons, List.all_nil, Bool.and_true, stillI] at hst
    cases e : vw r (.sl i) with
    | none => rw [e] at hst; cases hst
    | some w' =>
      rw [e] at hst
      rw [← beqW_iff hst]
      exact ArgR.vw (a := .sl i) re hv e
theorem PI.or {X : Cx} {tg : Expr} {t u : TI} (a : PI X tg e t) (b : PI X tg e u) : PI X tg e (fun σ H R => t σ H R ∨ u σ H R) := ⟨fun pins s σ H R I h => by
  rcases h with h | h
  · exact a.run pins s σ H R I h
  · exact b.run pins s σ H R I h⟩
theorem walk_list {g1 : Sg} {F1 : Fp} {r1 : Env} {σ : L2.St} {x : Arg} {p : Addr} {w : W} {ws : List W} (re1 : RE C.Z C.B C.T g1 r1 σ F1) (h : ArgR C g1 F1 σ x (.ref p)) (q : vw r1 x = some w) (hs : seqW w = some ws) (hl : ∀ us, w ≠ .tup us) : WalkR C g1 F1 σ ⟨ws, keep x w⟩ (Itl C.X.K p) := by
  intro g F r σ' i t re hσ hst
  have br := arg_later re1 h q t re hσ hst
  obtain ⟨xs, hq, rw⟩ : ∃ xs, SqL C.X.K g.H p xs ∧ RWs C.Z g ws xs := by
    cases w with
    | lis us => cases hs; obtain ⟨a, xs, e, h1, h2⟩ := br; cases e; exact ⟨xs, sqL_of h1, h2⟩
    | scr us =>
      cases hs
      obtain ⟨a, xs, e, h1, h2⟩ := br
      cases e
      refine ⟨xs, ?_, h2⟩
      rcases h1 with ⟨o, h1⟩ | h1
      · exact .inl (.inr ⟨o, h1⟩)
      · exact .inr h1
    | tup us => exact absurd rfl (hl us)
    | _ => cases hs
  refine ⟨fun w hw => ?_, fun hi => ?_⟩
  · obtain ⟨x, hx, rx⟩ := rw.get hw
    refine ⟨⟨xs, x, hq, hx⟩, fun y H' hy => ?_⟩
    obtain ⟨rfl, hy⟩ := hy
    have := hy xs hq
    rw [hx] at this
    cases this
    exact ⟨g, .refl g F, re, rfl, rx⟩
  · exact ⟨xs, hq, by rw [hi, ← rw.length]; exact Nat.le_refl _⟩
theorem walk_tup {g1 : Sg} {F1 : Fp} {r1 : Env} {σ : L2.St} {x : Arg} {p : Addr} {ws : List W} (re1 : RE C.Z C.B C.T g1 r1 σ F1) (h : ArgR C g1 F1 σ x (.ref p)) (q : vw r1 x = some (.tup ws)) : WalkR C g1 F1 σ ⟨ws, keep x (.tup ws)⟩ (Itt C.X.K p) := by
  intro g F r σ' i t re hσ hst
  obtain ⟨a, xs, e, hq, rw⟩ := arg_later re1 h q t re hσ hst
  cases e
  refine ⟨fun w hw => ?_, fun hi => ?_⟩
  · obtain ⟨x, hx, rx⟩ := rw.get hw
    refine ⟨⟨xs, x, hq, hx⟩, fun y H' hy => ?_⟩
    obtain ⟨rfl, hy⟩ := hy
    have := hy xs hq
    rw [hx] at this
    cases this
    exact ⟨g, .refl g F, re, rfl, rx⟩
  · exact ⟨xs, hq, by rw [hi, ← rw.length]; exact Nat.le_refl _⟩
def itvM (va : Env → Res Arg) : Env → Res Wk := fun r => (va r).bind fun x r1 => Res.of (walkA r1 x) r1
theorem str_ws (z : List Nat) (i : Nat) : (z.map fun c => W.str [c])[i]? = (z[i]?).map fun c => W.str [c] := List.getElem?_map
theorem si_v {tg : Expr} (ha : SV C a va) : SI C tg a (itvM va) := by
  obtain ⟨t, p, i⟩ := ha
  refine ⟨_, PI.or (PI.or (pi_list p) (pi_tup p)) (pi_str p), fun g ρ σ F R re k => ?_⟩
  unfold itvM at k
  cases ev : va ρ with
  | bad => rw [ev] at k; exact False.elim k
  | ex x r1 => rw [ev] at k; exact .inl (.inl (i g ρ σ F _ re (by rw [ev]; exact k)))
  | ok x r1 =>
    rw [ev] at k
    have k : POk C g F σ _ (Res.of (walkA r1 x) r1) := k
    obtain ⟨kw, hk, q⟩ := k.of'
    unfold walkA at hk
    cases e : vw r1 x with
    | none => rw [e] at hk; cases hk
    | some w =>
      rw [e] at hk
      have lst : ∀ {ws : List W}, seqW w = some ws → (∀ us, w ≠ .tup us) → kw = ⟨ws, keep x w⟩ → iList C.X.K t σ g.H R := fun {ws} hs hl hkw => by
        refine i g ρ σ F _ re ?_
        rw [ev]
        intro g1 F1 t1 re1 v rv
        have br := rv.vw re1 e
        obtain ⟨p, xs, rfl, hq, rw⟩ := br.seq hs
        refine ⟨p, rfl, ?_, q g1 F1 t1 re1 _ (by rw [hkw]; exact walk_list re1 rv e hs hl)⟩
        cases w with
        | lis us => obtain ⟨a, xs, e, h1, h2⟩ := br; cases e; exact ⟨xs, sqL_of h1⟩
        | scr us =>
          obtain ⟨a, xs, e, h1, h2⟩ := br
          cases e
          refine ⟨xs, ?_⟩
          rcases h1 with ⟨o, h1⟩ | h1
          · exact .inl (.inr ⟨o, h1⟩)
          · exact .inr h1
        | tup us => exact absurd rfl (hl us)
        | _ => cases hs
      cases w with
      | str z =>
        cases x with
        | w x =>
          cases e
          cases hk
          refine .inr (i g ρ σ F _ re ?_)
          rw [ev]
          intro g1 F1 t1 re1 v rv
          cases rv
          refine ⟨_, rfl, q g1 F1 t1 re1 _ ?_⟩
          intro g2 F2 r2 σ2 j t2 re2 _ _
          have hsz : (sv z).cps.size = z.length := by simp [sv]
          refine ⟨fun w hw => ?_, fun hj => ?_⟩
          · simp only [str_ws] at hw
            obtain ⟨c, hc, rfl⟩ := Option.map_eq_some_iff.mp hw
            have hlt : j < z.length := (List.getElem?_eq_some_iff.mp hc).1
            refine ⟨by show j < (sv z).cps.size; rw [hsz]; exact hlt, fun y H' hy => ?_⟩
            obtain ⟨rfl, c', hc', rfl⟩ := hy
            have : c' = c := by
              have h2 : (sv z).cps[j]? = z[j]? := by simp [sv]
              rw [h2, hc] at hc'
              exact (Option.some.inj hc').symm
            subst this
            exact ⟨g2, .refl g2 F2, re2, rfl, rfl⟩
          · show (sv z).cps.size ≤ j
            rw [hsz, hj]
            simp
        | fr u => cases hk
        | sl j => cases hk
      | tup us =>
        cases hk
        refine .inl (.inr (i g ρ σ F _ re ?_))
        rw [ev]
        intro g1 F1 t1 re1 v rv
        obtain ⟨p, xs, rfl, hq, rw⟩ := rv.vw re1 e
        exact ⟨p, rfl, ⟨xs, hq⟩, q g1 F1 t1 re1 _ (walk_tup re1 rv e)⟩
      | lis us => cases hk; exact .inl (.inl (lst rfl (fun _ z => nomatch z) rfl))
      | scr us => cases hk; exact .inl (.inl (lst rfl (fun _ z => nomatch z) rfl))
      | _ => cases hk
theorem iota_len (lo : Int) : ∀ n : Nat, (iota lo n).length = n
  | 0 => rfl
  | n + 1 => by simp [iota, iota_len (lo + 1) n]
theorem iota_get (lo : Int) : ∀ (n i : Nat), i < n → (iota lo n)[i]? = some (.int (lo + i))
  | 0, _, h => absurd h (Nat.not_lt_zero _)
  | n + 1, 0, _ => by simp [iota]
  | n + 1, i + 1, h => by
    simp only [iota, List.getElem?_cons_succ]
    rw [iota_get (lo + 1) n i (by omega)]
    congr 2
    omega
theorem walk_rng {g1 : Sg} {F1 : Fp} {σ : L2.St} (lo : Int) (n : Nat) : WalkR C g1 F1 σ ⟨iota lo n, []⟩ (Itr lo n) := by
  intro g F r σ' i t re _ _
  refine ⟨fun w hw => ?_, fun hi => ?_⟩
  · have hlt : i < n := by
      have := (List.getElem?_eq_some_iff.mp hw).1
      rw [iota_len] at this
      exact this
    simp only [iota_get lo n i hlt] at hw
    cases hw
    refine ⟨hlt, fun y H' hy => ?_⟩
    obtain ⟨rfl, rfl⟩ := hy
    exact ⟨g, .refl g F, re, rfl, rfl⟩
  · show n ≤ i
    rw [hi, iota_len]
    exact Nat.le_refl _
def rngM (ma : Env → Res W) : Env → Res Wk := fun r => (ma r).bind fun x r1 => match x with
    | .int n => if decide (n ≤ 1000000) && decide (-1000000 ≤ n) then .ok ⟨iota 0 n.toNat, []⟩ r1 else .bad
    | _ => .bad
theorem si_rng {tg : Expr} {p : Pos} (hg : Gl C.X "range") (hm : C.X.mg "range" = none) (hn : notStar a = true) (ha : SE C a ma) : SI C tg (.Call (.Name "range" p) [a] [] pos) (rngM ma) := by
  obtain ⟨t, pa, i⟩ := ha
  refine ⟨_, pi_range1 hg hm (pa_cons pa pa_nil (star_ hn)) (by rw [star_ hn]; rfl), fun g ρ σ F R re k => ?_⟩
  refine i g ρ σ F _ re (POk.seq (show POk C g F σ _ ((ma ρ).bind _) from k) fun x r1 g1 F1 t1 re1 k1 v rv => ?_)
  cases x <;> first | exact False.elim k1 | skip
  rename_i n
  have k1 : POk C g1 F1 σ _ (if decide (n ≤ 1000000) && decide (-1000000 ≤ n) then Res.ok (⟨iota 0 n.toNat, []⟩ : Wk) r1 else .bad) := k1
  split at k1
  · rename_i hb
    cases rv
    simp only [Bool.and_eq_true, decide_eq_true_eq] at hb
    exact ⟨n, rfl, by omega, by omega, k1.now re1 _ (walk_rng 0 n.toNat)⟩
  · exact False.elim k1
def rng2M (ma mb : Env → Res W) : Env → Res Wk := fun r => (ma r).bind fun x r1 => (mb r1).bind fun y r2 => match x, y with
    | .int m, .int n => if decide (n ≤ 1000000) && decide (-1000000 ≤ n) && decide (m ≤ 1000000) && decide (-1000000 ≤ m) then .ok ⟨iota m (n - m).toNat, []⟩ r2 else .bad
    | _, _ => .bad
theorem si_rng2 {tg : Expr} {p : Pos} (hg : Gl C.X "range") (hm : C.X.mg "range" = none) (hn : notStar a = true) (hn2 : notStar b = true) (ha : SE C a ma) (hb : SE C b mb) : SI C tg (.Call (.Name "range" p) [a, b] [] pos) (rng2M ma mb) := by
  obtain ⟨t, pa, i⟩ := ha
  obtain ⟨t2, pb, i2⟩ := hb
  refine ⟨_, pi_range2 hg hm (pa_cons pa (pa_cons pb pa_nil (star_ hn2)) (star_ hn)) (by rw [star_ hn, star_ hn2]; rfl) (by rw [star_ hn2]; rfl), fun g ρ σ F R re k => ?_⟩
  refine i g ρ σ F _ re (POk.seq (show POk C g F σ _ ((ma ρ).bind _) from k) fun x r1 g1 F1 t1 re1 k1 v rv => ?_)
  refine i2 g1 r1 σ F1 _ re1 (k1.seq fun y r2 g2 F2 t2 re2 k2 v2 rv2 => ?_)
  cases x <;> first | exact False.elim k2 | skip
  cases y <;> first | exact False.elim k2 | skip
  rename_i m n
  have k2 : POk C g2 F2 σ _ (if decide (n ≤ 1000000) && decide (-1000000 ≤ n) && decide (m ≤ 1000000) && decide (-1000000 ≤ m) then Res.ok (⟨iota m (n - m).toNat, []⟩ : Wk) r2 else .bad) := k2
  split at k2
  · rename_i hb
    cases rv
    cases rv2
    simp only [Bool.and_eq_true, decide_eq_true_eq] at hb
    exact ⟨m, n, rfl, ⟨by omega, by omega, by omega, by omega⟩, k2.now re2 _ (walk_rng m _)⟩
  · exact False.elim k2
theorem zip_get : ∀ {us ws : List W} {i : Nat} {w : W}, (zipW us ws)[i]? = some w → ∃ u v, us[i]? = some u ∧ ws[i]? = some v ∧ w = .tup [u, v]
  | [], _, _, _, h => by simp [zipW] at h
  | _ :: _, [], _, _, h => by simp [zipW] at h
  | u :: us, v :: ws, 0, _, h => by simp [zipW] at h; exact ⟨u, v, rfl, rfl, h.symm⟩
  | u :: us, v :: ws, i + 1, _, h => by
    simp only [zipW, List.getElem?_cons_succ] at h ⊢
    exact zip_get h
theorem zip_len : ∀ us ws : List W, (zipW us ws).length = min us.length ws.length
  | [], _ => by simp [zipW]
  | _ :: _, [] => by simp [zipW]
  | u :: us, v :: ws => by simp only [zipW, List.length_cons, zip_len us ws]; omega
theorem rw_pair {g : Sg} {F : Fp} {r : Env} {σ : L2.St} {u v : W} {x y : V} {T : Addr} (re : RE C.Z C.B C.T g r σ F) (hT : g.H T = none) (r1 : RW C.Z g u x) (r2 : RW C.Z g v y) :
    Go g F { g with H := upd g.H T (.tup [x, y]) } F ∧ RE C.Z C.B C.T { g with H := upd g.H T (.tup [x, y]) } r σ F ∧ RW C.Z { g with H := upd g.H T (.tup [x, y]) } (.tup [u, v]) (.ref T) := by
  obtain ⟨re2, t⟩ := re.lay (o := .tup [x, y]) hT
  exact ⟨t, re2, T, [x, y], rfl, .inl (.inl upd_same), x, [y], rfl, r1.kp (t.kp re), y, [], rfl, r2.kp (t.kp re), rfl⟩
def zipM (va vb : Env → Res Arg) : Env → Res Wk := fun r => (va r).bind fun x r1 => (vb r1).bind fun y r2 => Res.of ((vw r2 x).bind fun u => (lstW u).bind fun us => (vw r2 y).bind fun w => (lstW w).map fun ws => ⟨zipW us ws, keep x u ++ keep y w⟩) r2
theorem lst_later {g1 g : Sg} {F1 F : Fp} {r1 r : Env} {σ σ' : L2.St} {a : Arg} {v : V} {w : W} {ws : List W} (re1 : RE C.Z C.B C.T g1 r1 σ F1) (h : ArgR C g1 F1 σ a v) (q : vw r1 a = some w) (hl : lstW w = some ws) (t : Go g1 F1 g F) (re : RE C.Z C.B C.T g r σ' F) (hσ : Same (keep a w) σ σ') (hst : ((keep a w).all fun q => stillI q.2 r q.1) = true) :
    ∃ p xs, v = .ref p ∧ SqL C.X.K g.H p xs ∧ RWs C.Z g ws xs := by
  obtain ⟨p, xs, e, h1, h2⟩ := (arg_later re1 h q t re hσ hst).lst hl
  exact ⟨p, xs, e, sqL_of h1, h2⟩
theorem si_zip {p tpos : Pos} {elts : List Expr} {kk : Nat} (hg : Gl C.X "zip") (hm : C.X.mg "zip" = none) (hn : notStar a = true) (hn2 : notStar b = true) (ha : SV C a va) (hb : SV C b vb) : SI C (.Tuple elts kk tpos) (.Call (.Name "zip" p) [a, b] [] pos) (zipM va vb) := by
  obtain ⟨t, pa, i⟩ := ha
  obtain ⟨t2, pb, i2⟩ := hb
  refine ⟨_, pi_zip hg hm (pa_cons pa (pa_cons pb pa_nil (star_ hn2)) (star_ hn)) (star_ hn) (star_any (es := [b]) (by rw [List.all_cons, hn2]; rfl)), fun g ρ σ F R re k => ?_⟩
  refine i g ρ σ F _ re (POk.seq (show POk C g F σ _ ((va ρ).bind _) from k) fun x r1 g1 F1 t1 re1 k1 v1 rv1 => ?_)
  refine i2 g1 r1 σ F1 _ re1 (k1.seq fun y r2 g2 F2 t2 re2 k2 v2 rv2 => ?_)
  obtain ⟨kw, hk, fin⟩ := k2.of re2
  obtain ⟨u, hu, hk⟩ := Option.bind_eq_some_iff.mp hk
  obtain ⟨us, hus, hk⟩ := Option.bind_eq_some_iff.mp hk
  obtain ⟨w, hw, hk⟩ := Option.bind_eq_some_iff.mp hk
  obtain ⟨ws, hws, rfl⟩ := Option.map_eq_some_iff.mp hk
  have rv1 := rv1.go re1 t2
  obtain ⟨p, xs, rfl, hq, rw⟩ := (rv1.vw re2 hu).lst hus
  obtain ⟨q, ys, rfl, hq2, rw2⟩ := (rv2.vw re2 hw).lst hws
  refine ⟨p, q, xs, ys, rfl, sqL_of hq, sqL_of hq2, fin _ ?_⟩
  intro g3 F3 r3 σ3 j t3 re3 hσ hs
  simp only [Wk.still, List.all_append, Bool.and_eq_true] at hs
  obtain ⟨p', xs', ep, hp, rwp⟩ := lst_later re2 rv1 hu hus t3 re3 (fun q hq => hσ q (List.mem_append_left _ hq)) hs.1
  obtain ⟨q', ys', eq, hq', rwq⟩ := lst_later re2 rv2 hw hws t3 re3 (fun q hq => hσ q (List.mem_append_right _ hq)) hs.2
  cases ep
  cases eq
  refine ⟨fun w hw => ?_, fun hj => ?_⟩
  · obtain ⟨u, v, hu', hv', rfl⟩ := zip_get hw
    obtain ⟨x1, hx1, rx1⟩ := rwp.get hu'
    obtain ⟨y1, hy1, ry1⟩ := rwq.get hv'
    refine ⟨⟨xs', ys', x1, y1, hp, hq', hx1, hy1⟩, fun z H' hz => ?_⟩
    obtain ⟨T, a1, b1, rfl, hT, rfl, h3, h4⟩ := hz
    have h3 := h3 xs' hp
    have h4 := h4 ys' hq'
    rw [hx1] at h3
    rw [hy1] at h4
    cases h3
    cases h4
    obtain ⟨t4, re4, r4⟩ := rw_pair re3 hT rx1 ry1
    exact ⟨_, t4, re4, rfl, r4⟩
  · refine ⟨xs', ys', hp, hq', ?_⟩
    have hl := zip_len us ws
    have : j = min us.length ws.length := by rw [hj]; exact hl
    rw [← rwp.length, ← rwq.length]
    omega
theorem enm_get : ∀ {ws : List W} {k : Int} {i : Nat} {w : W}, (enmW k ws)[i]? = some w → ∃ v, ws[i]? = some v ∧ w = .tup [.int (k + i), v]
  | [], _, _, _, h => by simp [enmW] at h
  | v :: ws, k, 0, _, h => by simp [enmW] at h; exact ⟨v, rfl, by rw [← h]; simp⟩
  | v :: ws, k, i + 1, _, h => by
    simp only [enmW, List.getElem?_cons_succ] at h ⊢
    obtain ⟨u, h1, h2⟩ := enm_get h
    refine ⟨u, h1, ?_⟩
    rw [h2]
    congr 3
    omega
theorem enm_len (k : Int) : ∀ ws : List W, (enmW k ws).length = ws.length
  | [] => rfl
  | _ :: ws => by simp [enmW, enm_len (k + 1) ws]
def enmM (va : Env → Res Arg) : Env → Res Wk := fun r => (va r).bind fun x r1 => Res.of ((vw r1 x).bind fun u => (lstW u).map fun ws => ⟨enmW 0 ws, keep x u⟩) r1
theorem si_enm {p tpos : Pos} {elts : List Expr} {kk : Nat} (hg : Gl C.X "enumerate") (hm : C.X.mg "enumerate" = none) (hn : notStar a = true) (ha : SV C a va) : SI C (.Tuple elts kk tpos) (.Call (.Name "enumerate" p) [a] [] pos) (enmM va) := by
  obtain ⟨t, pa, i⟩ := ha
  refine ⟨_, pi_enum hg hm (pa_cons pa pa_nil (star_ hn)) (by rw [star_ hn]; rfl), fun g ρ σ F R re k => ?_⟩
  refine i g ρ σ F _ re (POk.seq (show POk C g F σ _ ((va ρ).bind _) from k) fun x r1 g1 F1 t1 re1 k1 v1 rv1 => ?_)
  obtain ⟨kw, hk, fin⟩ := k1.of re1
  obtain ⟨u, hu, hk⟩ := Option.bind_eq_some_iff.mp hk
  obtain ⟨ws, hws, rfl⟩ := Option.map_eq_some_iff.mp hk
  obtain ⟨p, xs, rfl, hq, rw⟩ := (rv1.vw re1 hu).lst hws
  refine ⟨p, xs, rfl, sqL_of hq, fin _ ?_⟩
  intro g3 F3 r3 σ3 j t3 re3 hσ hs
  obtain ⟨p', xs', ep, hp, rwp⟩ := lst_later re1 rv1 hu hws t3 re3 hσ hs
  cases ep
  refine ⟨fun w hw => ?_, fun hj => ?_⟩
  · obtain ⟨v, hv', rfl⟩ := enm_get hw
    obtain ⟨y1, hy1, ry1⟩ := rwp.get hv'
    refine ⟨⟨xs', y1, hp, hy1⟩, fun z H' hz => ?_⟩
    obtain ⟨T, b1, rfl, hT, rfl, h4⟩ := hz
    have h4 := h4 xs' hp
    rw [hy1] at h4
    cases h4
    obtain ⟨t4, re4, r4⟩ := rw_pair (u := .int (0 + j)) (x := .int (j : Nat)) re3 hT (by show V.int _ = V.int _; simp) ry1
    exact ⟨_, t4, re4, rfl, r4⟩
  · refine ⟨xs', hp, ?_⟩
    have hl := enm_len 0 ws
    rw [← rwp.length]
    show ws.length ≤ j
    rw [hj]
    exact Nat.le_of_eq hl.symm
end
end FM


set_option Elab.async false
set_option linter.all false
set_option maxRecDepth 100000
set_option maxHeartbeats 2000000
namespace FM
open PySem L2

/-! ### targets -/
mutual
def slotsG : IG → List Nat
  | .nm i => [i]
  | .tp gs => slotsGs gs
def slotsGs : List IG → List Nat
  | [] => []
  | g :: gs => slotsG g ++ slotsGs gs
end
theorem wipe_at (σ : L2.St) : ∀ (vs : List Nat) (j : Nat), (L2.wipe σ vs)[j]? = if j ∈ vs then (σ[j]?).map (fun _ => none) else σ[j]?
  | [], j => by simp [L2.wipe]
  | v :: vs, j => by
    unfold L2.wipe
    by_cases h : v = j
    · subst h
      by_cases hl : v < (L2.wipe σ vs).length
      · rw [List.getElem?_set_self hl, if_pos List.mem_cons_self]
        rw [L2.wipe_length] at hl
        simp [hl]
      · rw [List.getElem?_eq_none (by simpa using hl), if_pos List.mem_cons_self]
        rw [L2.wipe_length] at hl
        simp [Nat.not_lt.mp hl]
    · rw [List.getElem?_set_ne h, wipe_at σ vs j]
      by_cases hj : j ∈ vs
      · rw [if_pos hj, if_pos (List.mem_cons_of_mem _ hj)]
      · rw [if_neg hj, if_neg (by simp only [List.mem_cons, not_or]; exact ⟨fun e => h e.symm, hj⟩)]
theorem lwipe_set (σ : L2.St) (x : Option V) {i : Nat} {vs : List Nat} (h : i ∈ vs) : L2.wipe (σ.set i x) vs = L2.wipe σ vs := by
  apply List.ext_getElem?
  intro j
  rw [wipe_at, wipe_at]
  by_cases hj : j ∈ vs
  · rw [if_pos hj, if_pos hj]
    by_cases e : i = j
    · subst e
      by_cases hl : i < σ.length
      · rw [List.getElem?_set_self hl]
        simp [hl]
      · rw [List.getElem?_eq_none (by simpa using hl), List.getElem?_eq_none (by simpa using hl)]
    · rw [List.getElem?_set_ne e]
  · have ne : i ≠ j := fun e => hj (e ▸ h)
    rw [if_neg hj, if_neg hj, List.getElem?_set_ne ne]
theorem lwipe_wipe (σ : L2.St) (vs : List Nat) : L2.wipe (L2.wipe σ vs) vs = L2.wipe σ vs := by
  apply List.ext_getElem?
  intro j
  rw [wipe_at, wipe_at]
  by_cases hj : j ∈ vs
  · rw [if_pos hj, if_pos hj]
    cases σ[j]? <;> rfl
  · rw [if_neg hj, if_neg hj]

section
variable {C : Cz} {a b d e : Expr} {es : List Expr} {pos : Pos} {ma mb md : Env → Res W} {va vb vd : Env → Res Arg} {mt mu : Env → Res Bool}
theorem setV_eq {r r' : Env} {i : Nat} {u : U} (h : setV r i u = some r') : r' = r.set i (.m u) ∧ i < r.length := by
  unfold setV at h
  rw [nth_iff] at h
  cases e : r[i]? with
  | none => rw [e] at h; cases h
  | some x =>
    rw [e] at h
    cases x <;> cases h <;> exact ⟨rfl, lt_of_get e⟩
theorem Go.set {g : Sg} {F : Fp} {i : Nat} {fp : List Addr} (hs : ∀ a ∈ fp, g.H a = none ∨ ∃ j, a ∈ F j) : Go g F g (F.set i fp) := ⟨fun _ l => l, fun _ _ h _ => h, fun _ h => h, fun b l => .inl l, fun j b m => by
  by_cases hj : j = i
  · subst hj; rw [Fp.set_same] at m; exact hs b m
  · rw [Fp.set_ne hj] at m; exact .inr ⟨j, m⟩⟩
def SG (C : Cz) (tg : Expr) (ig : IG) : Prop := ∃ t : TG, PG C.X tg t ∧ ∀ (g : Sg) (w : W) (v : V) (r r' : Env) (σ : L2.St) (F : Fp) (Q : L2.St → Hp → Prop), RE C.Z C.B C.T g r σ F → RW C.Z g w v → bindG ig w r = some r' →
  (∀ σ' F', RE C.Z C.B C.T g r' σ' F' → Go g F g F' → (∀ vs, (∀ i ∈ slotsG ig, i ∈ vs) → L2.wipe σ' vs = L2.wipe σ vs) → Q σ' g.H) → t v σ g.H Q
def SGs (C : Cz) (tgs : List Expr) (igs : List IG) : Prop := ∃ t : TGs, PGs C.X tgs t ∧ ∀ (g : Sg) (ws : List W) (vs : List V) (r r' : Env) (σ : L2.St) (F : Fp) (Q : L2.St → Hp → Prop), RE C.Z C.B C.T g r σ F → RWs C.Z g ws vs → bindGs igs ws r = some r' →
  (∀ σ' F', RE C.Z C.B C.T g r' σ' F' → Go g F g F' → (∀ vs, (∀ i ∈ slotsGs igs, i ∈ vs) → L2.wipe σ' vs = L2.wipe σ vs) → Q σ' g.H) → t vs σ g.H Q
theorem sg_nm {i : Nat} {x : Str} (hN : C.X.N.Nodup) (hi : C.X.N[i]? = some x) (hx : Loc C.X.env.scope x) (hf : C.X.fn x = true ∨ C.X.env.scope.names.lookup x = some .local) : SG C (.Name x pos) (.nm i) := by
  refine ⟨_, pg_name hN hi hx hf, fun g w v r r' σ F Q re rw hb k => ?_⟩
  obtain ⟨rfl, hlt⟩ := setV_eq hb
  exact k _ _ (re.bind (u := .d w) hlt ⟨rfl, rw⟩ tmp_nil) (Go.set fun _ m => nomatch m) fun vs hv => lwipe_set σ _ (hv i (by simp [slotsG]))
theorem sgs_nil : SGs C [] [] := by
  refine ⟨_, pgs_nil, fun g ws vs r r' σ F Q re rw hb k => ?_⟩
  cases ws with
  | nil => cases hb; cases rw; exact ⟨rfl, k σ F re (.refl g F) fun _ _ => rfl⟩
  | cons _ _ => cases hb
theorem asg_star (h : notStar e = true) {env : PySem.Env} : assignEach (e :: es) env = (false, assign e env) :: assignEach es env := by
  cases e <;> first | rfl | cases h
theorem sgs_cons {ig : IG} {igs : List IG} (hn : notStar e = true) (h1 : SG C e ig) (h2 : SGs C es igs) : SGs C (e :: es) (ig :: igs) := by
  obtain ⟨t, p, i⟩ := h1
  obtain ⟨ts, ps, is⟩ := h2
  refine ⟨_, pgs_cons p ps (by rw [asg_star hn]; rfl), fun g ws vs r r' σ F Q re rw hb k => ?_⟩
  cases ws with
  | nil => cases hb
  | cons w ws =>
    obtain ⟨v, vr, rfl, r1, r2⟩ := rw
    obtain ⟨r1', h1, h2⟩ := Option.bind_eq_some_iff.mp (show ((bindG ig w r).bind fun r1 => bindGs igs ws r1) = some r' from hb)
    refine ⟨v, vr, rfl, i g w v r r1' σ F _ re r1 h1 fun σ1 F1 re1 t1 w1 => ?_⟩
    refine is g ws vr r1' r' σ1 F1 Q re1 r2 h2 fun σ2 F2 re2 t2 w2 => k σ2 F2 re2 (t1.trans t2) fun vs hv => ?_
    rw [w2 vs (fun i hi => hv i (by simp only [slotsGs, List.mem_append]; exact .inr hi)), w1 vs (fun i hi => hv i (by simp only [slotsGs, List.mem_append]; exact .inl hi))]
theorem asg_len {env : PySem.Env} : ∀ {es : List Expr}, es.all notStar = true → (assignEach es env).length = es.length ∧ (assignEach es env).findIdx? (·.1) = none
  | [], _ => ⟨rfl, rfl⟩
  | e :: es, h => by
    rw [List.all_cons, Bool.and_eq_true] at h
    obtain ⟨h1, h2⟩ := asg_len (env := env) h.2
    rw [asg_star h.1]
    refine ⟨by simp [h1], ?_⟩
    rw [List.findIdx?_cons]
    simp [h2]
theorem bindGs_len : ∀ {gs : List IG} {ws : List W} {r r' : Env}, bindGs gs ws r = some r' → gs.length = ws.length
  | [], [], _, _, _ => rfl
  | [], _ :: _, _, _, h => by cases h
  | _ :: _, [], _, _, h => by cases h
  | g :: gs, w :: ws, r, r', h => by
    obtain ⟨r1, _, h2⟩ := Option.bind_eq_some_iff.mp (show ((bindG g w r).bind fun r1 => bindGs gs ws r1) = some r' from h)
    simp [bindGs_len h2]
theorem PG.or {X : Cx} {e : Expr} {t u : TG} (a : PG X e t) (b : PG X e u) : PG X e (fun v σ H Q => t v σ H Q ∨ u v σ H Q) := ⟨fun pins s σ H v w Q I r h => by
  rcases h with h | h
  · exact a.run pins s σ H v w Q I r h
  · exact b.run pins s σ H v w Q I r h⟩
theorem sg_tp {igs : List IG} {k : Nat} (hc : C.X.calm = true) (hst : es.all notStar = true) (hl : es.length = igs.length) (h : SGs C es igs) : SG C (.Tuple es k pos) (.tp igs) := by
  obtain ⟨t, p, i⟩ := h
  obtain ⟨h1, h2⟩ := asg_len (env := C.X.env) hst
  refine ⟨_, PG.or (pg_tup hc p h1 h2) (pg_lst hc p h1 h2), fun g w v r r' σ F Q re rw hb k => ?_⟩
  cases w with
  | tup ws =>
    obtain ⟨a, xs, rfl, hq, rws⟩ := rw
    refine .inl ⟨a, xs, rfl, hq, ?_, i g ws xs r r' σ F Q re rws hb fun σ' F' re' t' hw => k σ' F' re' t' hw⟩
    rw [← rws.length, ← bindGs_len (show bindGs igs ws r = some r' from hb), hl]
  | lis ws =>
    obtain ⟨a, xs, rfl, _, hq, rws⟩ := rw
    refine .inr ⟨a, xs, rfl, .inl (.inl hq), ?_, i g ws xs r r' σ F Q re rws hb fun σ' F' re' t' hw => k σ' F' re' t' hw⟩
    rw [← rws.length, ← bindGs_len (show bindGs igs ws r = some r' from hb), hl]
  | _ => cases hb
end

/-! ### comprehensions -/
abbrev Blk (X : Cx) (scope : Scope) (s : Shared) (H : Hp) (c : Addr) (cl : List (Str × Addr)) (fp : List Addr) : Cx := X.blk s H scope (compEnvC scope cl c X.env) fp
abbrev Cz.blk (C : Cz) (scope : Scope) (s : Shared) (H : Hp) (c : Addr) (cl : List (Str × Addr)) (fp : List Addr) : Cz := ⟨Blk C.X scope s H c cl fp, C.ca, fun _ _ _ _ => False, C.B, C.T⟩
section
variable {C : Cz} {a b d e : Expr} {es : List Expr} {pos : Pos} {ma mb md : Env → Res W} {va vb vd : Env → Res Arg} {mt mu : Env → Res Bool}
/-- results that are no exception: the same in every context -/
theorem POk.ctx {C' : Cz} {g : Sg} {F : Fp} {σ : L2.St} {α : Type} {Q : α → Sg → Fp → Prop} {x : Res α} (hK : C'.X.K = C.X.K) (hc : C'.ca = C.ca) (hB : C'.B = C.B) (hT : C'.T = C.T) (hx : ∀ y r, x ≠ .ex y r) (h : POk C g F σ Q x) : POk C' g F σ Q x := by
  cases x with
  | bad => exact h
  | ex y r => exact absurd rfl (hx y r)
  | ok a r =>
    intro g' F' t re
    refine h g' F' t ?_
    have hZ : C'.Z = C.Z := by show (⟨C'.X.K, C'.ca⟩ : Kx) = ⟨C.X.K, C.ca⟩; rw [hK, hc]
    rw [← hZ, ← hB, ← hT]
    exact re
theorem blk_e {scope : Scope} {m : Env → Res W} (h : ∀ s H c cl fp, SE (C.blk scope s H c cl fp) e m) : ∃ t : TE, (∀ s H c cl fp, PE (Blk C.X scope s H c cl fp) e t) ∧ ∀ (g : Sg) (r : Env) (σ : L2.St) (F : Fp) (Q : VK), RE C.Z C.B C.T g r σ F → (∀ y r', m r ≠ .ex y r') →
    POk C g F σ (fun w g' _ => ∀ v, RW C.Z g' w v → Q v g'.H) (m r) → t σ g.H Q := by
  refine ⟨fun σ H Q => ∀ s H0 c cl fp, (h s H0 c cl fp).choose σ H Q, fun s H c cl fp => ⟨fun pins s1 σ H1 Q I q => ?_⟩, fun g r σ F Q re hx k s H c cl fp => ?_⟩
  · exact (h s H c cl fp).choose_spec.1.run pins s1 σ H1 Q I (q s H c cl fp)
  · exact (h s H c cl fp).choose_spec.2 g r σ F Q re (POk.ctx (C := C) (C' := C.blk scope s H c cl fp) rfl rfl rfl rfl hx k)
theorem blk_t {scope : Scope} {m : Env → Res Bool} (h : ∀ s H c cl fp, STt (C.blk scope s H c cl fp) e m) : ∃ t : TT, (∀ s H c cl fp, PT (Blk C.X scope s H c cl fp) e t) ∧ ∀ (g : Sg) (r : Env) (σ : L2.St) (F : Fp) (Q : Bool → Hp → Prop), RE C.Z C.B C.T g r σ F → (∀ y r', m r ≠ .ex y r') →
    POk C g F σ (fun b g' _ => Q b g'.H) (m r) → t σ g.H Q := by
  refine ⟨fun σ H Q => ∀ s H0 c cl fp, (h s H0 c cl fp).choose σ H Q, fun s H c cl fp => ⟨fun pins s1 σ H1 Q I q => ?_⟩, fun g r σ F Q re hx k s H c cl fp => ?_⟩
  · exact (h s H c cl fp).choose_spec.1.run pins s1 σ H1 Q I (q s H c cl fp)
  · exact (h s H c cl fp).choose_spec.2 g r σ F Q re (POk.ctx (C := C) (C' := C.blk scope s H c cl fp) rfl rfl rfl rfl hx k)
theorem blk_g {scope : Scope} {ig : IG} (h : ∀ s H c cl fp, SG (C.blk scope s H c cl fp) e ig) : ∃ t : TG, (∀ s H c cl fp, PG (Blk C.X scope s H c cl fp) e t) ∧ ∀ (g : Sg) (w : W) (v : V) (r r' : Env) (σ : L2.St) (F : Fp) (Q : L2.St → Hp → Prop), RE C.Z C.B C.T g r σ F → RW C.Z g w v → bindG ig w r = some r' →
    (∀ σ' F', RE C.Z C.B C.T g r' σ' F' → Go g F g F' → (∀ vs, (∀ i ∈ slotsG ig, i ∈ vs) → L2.wipe σ' vs = L2.wipe σ vs) → Q σ' g.H) → t v σ g.H Q := by
  refine ⟨fun v σ H Q => ∀ s H0 c cl fp, (h s H0 c cl fp).choose v σ H Q, fun s H c cl fp => ⟨fun pins s1 σ H1 v u Q I r q => ?_⟩, fun g w v r r' σ F Q re rw e k s H c cl fp => ?_⟩
  · exact (h s H c cl fp).choose_spec.1.run pins s1 σ H1 v u Q I r (q s H c cl fp)
  · exact (h s H c cl fp).choose_spec.2 g w v r r' σ F Q re rw e k
/-- a clause's tests -/
def TestOk (C : Cz) (scope : Scope) (ifs : List Expr) (mt : Option (Env → Res Bool)) : Prop := match ifs, mt with
  | [], none => True
  | [c], some m => ∀ s H a cl fp, STt (C.blk scope s H a cl fp) c m
  | _, _ => False
def tstM (mt : Option (Env → Res Bool)) (r : Env) : Res Bool := match mt with
  | none => .ok true r
  | some m => m r
theorem blk_ts {scope : Scope} {ifs : List Expr} {mt : Option (Env → Res Bool)} (h : TestOk C scope ifs mt) : ∃ t : TT, (∀ s H c cl fp, PTs (Blk C.X scope s H c cl fp) ifs t) ∧ ∀ (g : Sg) (r : Env) (σ : L2.St) (F : Fp) (Q : Bool → Hp → Prop), RE C.Z C.B C.T g r σ F → (∀ y r', tstM mt r ≠ .ex y r') →
    POk C g F σ (fun b g' _ => Q b g'.H) (tstM mt r) → t σ g.H Q := by
  cases ifs with
  | nil =>
    cases mt with
    | some _ => cases h
    | none => exact ⟨tYes, fun _ _ _ _ _ => pts_nil, fun g r σ F Q re _ k => k.now re⟩
  | cons c ifs =>
    cases ifs with
    | cons _ _ => cases mt <;> cases h
    | nil =>
      cases mt with
      | none => cases h
      | some m =>
        obtain ⟨t, p, i⟩ := blk_t (C := C) (scope := scope) (e := c) (m := m) h
        exact ⟨t, fun s H C cl fp => pts_one (p s H C cl fp), i⟩
def turnM (elt : Env → Res W) (ig : IG) (mt : Option (Env → Res Bool)) (w : W) (r : Env) : Res (Option W) := match bindG ig w r with
  | none => .bad
  | some r1 => (tstM mt r1).bind fun b r2 => if b then (elt r2).bind fun u r3 => .ok (some u) r3 else .ok none r2
def lcM (elt : Env → Res W) (ig : IG) (own : List Nat) (mi : Env → Res Wk) (mt : Option (Env → Res Bool)) : Env → Res (List W) := fun r => (mi r).bind fun k r1 => if Nat.ble k.ws.length size && ownOk r1 own && k.ks.all (fun q => !own.any (Nat.beq q.1)) then (match compL k own (turnM elt ig mt) k.ws (wipe r1 own) with
    | .ok ws r2 => .ok ws (back r1 r2 own)
    | _ => .bad) else .bad
/-! names that are set aside, and come back -/
theorem RE.sig {Z : Kx} {B : Nat → Option V} {T : Option Ct} {g : Sg} {r : Env} {σ σ' : L2.St} {F : Fp} (e : RE Z B T g r σ F) (hl : σ'.length = σ.length) (h : ∀ (j : Nat) (x : En), r[j]? = some x → x = En.no ∨ σ'[j]? = σ[j]?) : RE Z B T g r σ' F :=
  ⟨e.len.trans hl.symm, fun i x hx => by
    obtain ⟨o, h1, h2⟩ := e.at_ i x hx
    rcases h i x hx with rfl | q
    · have hi : i < σ'.length := by rw [hl, ← e.len]; exact lt_of_get hx
      exact ⟨σ'[i], by simp [hi], h2⟩
    · exact ⟨o, by rw [q]; exact h1, h2⟩, e.out, e.nod, e.dis, e.nl, e.la⟩
theorem wipe_at_no (r : Env) : ∀ {vs : List Nat} {j : Nat} {x : En}, j ∈ vs → (FM.wipe r vs)[j]? = some x → x = .no
  | v :: vs, j, x, hj, h => by
    unfold FM.wipe at h
    by_cases e : v = j
    · subst e
      rw [List.getElem?_set_self (by have := lt_of_get h; rw [List.length_set] at this; exact this)] at h
      cases h; rfl
    · rw [List.getElem?_set_ne e] at h
      rcases List.mem_cons.mp hj with q | q
      · exact absurd q.symm e
      · exact wipe_at_no r q h
theorem Go.wipeF {g : Sg} {F : Fp} (vs : List Nat) : Go g F g (F.wipe vs) := ⟨fun _ l => l, fun _ _ h _ => h, fun _ h => h, fun _ l => .inl l, fun j b m => .inr ⟨j, (Fp.wipe_mem m).1⟩⟩
theorem back_at (r r1 : Env) (hl : r.length = r1.length) : ∀ (vs : List Nat) (j : Nat), (back r r1 vs)[j]? = if j ∈ vs then r[j]? else r1[j]?
  | [], j => by simp [back]
  | v :: vs, j => by
    have ih := back_at r r1 hl vs
    have hlen : (back r r1 vs).length = r1.length := by
      have : ∀ ws : List Nat, (back r r1 ws).length = r1.length := by
        intro ws
        induction ws with
        | nil => rfl
        | cons w ws ih => unfold back; split <;> simp [ih]
      exact this vs
    unfold back
    rw [nth_iff]
    cases e : r[v]? with
    | none =>
      simp only []
      rw [ih j]
      by_cases hj : j = v
      · subst hj
        have : r1[j]? = none := by rw [List.getElem?_eq_none_iff] at e ⊢; omega
        simp [e, this]
      · simp [hj]
    | some x =>
      simp only []
      by_cases hj : j = v
      · subst hj
        rw [List.getElem?_set_self (by rw [hlen, ← hl]; exact lt_of_get e)]
        simp [e]
      · rw [List.getElem?_set_ne (Ne.symm hj), ih j]
        simp [hj]
theorem ownOk_at {r : Env} : ∀ {vs : List Nat}, ownOk r vs = true → ∀ j ∈ vs, ∃ x, r[j]? = some x ∧ plainE x = true
  | v :: vs, h, j, hj => by
    simp only [ownOk, Bool.and_eq_true] at h
    rcases List.mem_cons.mp hj with rfl | hj
    · rw [nth_iff] at h
      cases e : r[j]? with
      | none => rw [e] at h; exact absurd h.1 (by simp)
      | some x => rw [e] at h; exact ⟨x, rfl, h.1⟩
    · exact ownOk_at h.2 j hj
theorem RE.back {g1 g : Sg} {F1 F : Fp} {r1 r2 : Env} {σ : L2.St} {own : List Nat} (re1 : RE C.Z C.B C.T g1 r1 σ F1) (t : Go g1 F1 g F) (hok : ownOk r1 own = true) (re : RE C.Z C.B C.T g r2 (L2.wipe σ own) F) : RE C.Z C.B C.T g (FM.back r1 r2 own) σ (F.wipe own) := by
  have hl : r1.length = r2.length := by rw [re1.len, re.len, L2.wipe_length]
  have kp := t.kp re1
  have fl : (FM.back r1 r2 own).length = r2.length := by
    have : ∀ ws : List Nat, (FM.back r1 r2 ws).length = r2.length := by
      intro ws
      induction ws with
      | nil => rfl
      | cons w ws ih => unfold FM.back; split <;> simp [ih]
    exact this own
  have rew := re.wipe (vs := own) fun v hv => by
    obtain ⟨x, hx, _⟩ := ownOk_at hok v hv
    rw [← hl]; exact lt_of_get hx
  refine ⟨by rw [fl, ← hl, re1.len], fun j x hx => ?_, fun j hj => rew.out j (by rw [wipe_len, ← fl]; exact hj), rew.nod, rew.dis, rew.nl, rew.la⟩
  rw [back_at r1 r2 hl] at hx
  by_cases hj : j ∈ own
  · rw [if_pos hj] at hx
    obtain ⟨y, hy, py⟩ := ownOk_at hok j hj
    rw [hx] at hy
    cases hy
    obtain ⟨o, h1, h2⟩ := re1.at_ j x hx
    have Fj : F.wipe own j = [] := by
      cases hF : F.wipe own j with
      | nil => rfl
      | cons a l =>
        have : a ∈ F.wipe own j := by rw [hF]; exact List.mem_cons_self
        exact absurd hj (Fp.wipe_mem this).2
    refine ⟨o, h1, ?_⟩
    rw [Fj]
    cases x with
    | no => rfl
    | m u =>
      cases u with
      | d w =>
        obtain ⟨v, e1, e2, e3⟩ := h2
        exact ⟨v, e1, rfl, e3.kp kp⟩
      | _ => cases py
    | _ => cases py
  · rw [if_neg hj] at hx
    obtain ⟨o, h1, h2⟩ := re.at_ j x hx
    rw [wipe_at, if_neg hj] at h1
    have Fj : F.wipe own j = F j := by
      have : ∀ vs : List Nat, j ∉ vs → F.wipe vs j = F j := by
        intro vs
        induction vs with
        | nil => intro _; rfl
        | cons v vs ih =>
          intro hn
          simp only [List.mem_cons, not_or] at hn
          unfold Fp.wipe
          rw [Fp.set_ne hn.1, ih hn.2]
      exact this own hj
    exact ⟨o, h1, by rw [Fj]; exact h2⟩
theorem lc_imp {wi : TI} {tg : TG} {tt : TT} {te : TE} {ig : IG} {own : List Nat} {mi : Env → Res Wk} {mt : Option (Env → Res Bool)} {elt : Env → Res W}
    (ii : ∀ (g : Sg) (r : Env) (σ : L2.St) (F : Fp) (R : It → Hp → Prop), RE C.Z C.B C.T g r σ F → POk C g F σ (fun k g' F' => ∀ J, WalkR C g' F' σ k J → R J g'.H) (mi r) → wi σ g.H R)
    (ig_ : ∀ (g : Sg) (w : W) (v : V) (r r' : Env) (σ : L2.St) (F : Fp) (Q : L2.St → Hp → Prop), RE C.Z C.B C.T g r σ F → RW C.Z g w v → bindG ig w r = some r' → (∀ σ' F', RE C.Z C.B C.T g r' σ' F' → Go g F g F' → (∀ vs, (∀ i ∈ slotsG ig, i ∈ vs) → L2.wipe σ' vs = L2.wipe σ vs) → Q σ' g.H) → tg v σ g.H Q)
    (it : ∀ (g : Sg) (r : Env) (σ : L2.St) (F : Fp) (Q : Bool → Hp → Prop), RE C.Z C.B C.T g r σ F → (∀ y r', tstM mt r ≠ .ex y r') → POk C g F σ (fun b g' _ => Q b g'.H) (tstM mt r) → tt σ g.H Q)
    (ie : ∀ (g : Sg) (r : Env) (σ : L2.St) (F : Fp) (Q : VK), RE C.Z C.B C.T g r σ F → (∀ y r', elt r ≠ .ex y r') → POk C g F σ (fun w g' _ => ∀ v, RW C.Z g' w v → Q v g'.H) (elt r) → te σ g.H Q)
    (ho : ∀ i ∈ slotsG ig, i ∈ own) (g : Sg) (r : Env) (σ : L2.St) (F : Fp) (Q : VK) (re : RE C.Z C.B C.T g r σ F)
    (k : POk C g F σ (fun ws g' F' => ∀ v fp, OU C.Z g' (.l (ws.map U.d)) v fp → Tmp g' F' fp → Src g F fp → Q v g'.H) (lcM elt ig own mi mt r)) : tLc wi tg tt te own σ g.H Q := by
  refine ii g r σ F _ re (POk.seq0 (show POk C g F σ _ ((mi r).bind _) from k) fun kw r1 g1 F1 t1 re1 k1 J wk => ?_)
  have k1 : POk C g F σ (fun ws g' F' => ∀ v fp, OU C.Z g' (.l (ws.map U.d)) v fp → Tmp g' F' fp → Src g F fp → Q v g'.H) (if Nat.ble kw.ws.length size && ownOk r1 own && kw.ks.all (fun q => !own.any (Nat.beq q.1)) then (match compL kw own (turnM elt ig mt) kw.ws (FM.wipe r1 own) with
    | .ok ws r2 => .ok ws (FM.back r1 r2 own)
    | _ => .bad) else .bad) := k1
  split at k1
  · rename_i hz
    rw [Bool.and_eq_true, Bool.and_eq_true] at hz
    obtain ⟨⟨hz, hown⟩, hks⟩ := hz
    have hz : kw.ws.length ≤ size := Nat.le_of_ble_eq_true hz
    have same : Same kw.ks σ (L2.wipe σ own) := fun q hq => by
      have h1 := List.all_eq_true.mp hks q hq
      rw [wipe_at, if_neg]
      intro hm
      have : own.any (Nat.beq q.1) = true := List.any_eq_true.mpr ⟨q.1, hm, Nat.beq_refl _⟩
      rw [this] at h1; cases h1
    cases ec : compL kw own (turnM elt ig mt) kw.ws (FM.wipe r1 own) with
    | bad => rw [ec] at k1; exact False.elim k1
    | ex _ _ => rw [ec] at k1; exact False.elim k1
    | ok ws rE =>
    rw [ec] at k1
    intro D hD
    have reW : RE C.Z C.B C.T g1 (FM.wipe r1 own) (L2.wipe σ own) (F1.wipe own) := by
      have rw := re1.wipe (vs := own) fun v hv => by
        obtain ⟨x, hx, _⟩ := ownOk_at hown v hv
        exact lt_of_get hx
      refine rw.sig (L2.wipe_length _ _) fun j x hx => ?_
      by_cases hj : j ∈ own
      · exact .inl (wipe_at_no r1 hj hx)
      · exact .inr (by rw [wipe_at, if_neg hj])
    obtain ⟨reD, tD⟩ := reW.lay (o := .lst []) hD
    have xD := tmp_new reW hD
    refine ⟨fun i m H => ∃ (g' : Sg) (F' : Fp) (r' : Env) (xs : List V) (acc rest : List W), H = g'.H ∧ Go g1 F1 g' F' ∧ g'.H D = some (.lst xs) ∧ Tmp g' F' [D] ∧ RE C.Z C.B C.T g' r' (L2.wipe σ own) F' ∧ RWs C.Z g' acc xs ∧ acc.length ≤ i ∧ m = kw.ws.length - i ∧ i ≤ kw.ws.length ∧ compL kw own (turnM elt ig mt) (kw.ws.drop i) r' = .ok rest rE ∧ acc ++ rest = ws,
      ⟨_, ⟨upd g1.H D (.lst []), g1.L⟩, F1.wipe own, _, [], [], ws, rfl, (Go.wipeF own).trans tD, upd_same, ⟨xD.nod, xD.nl, xD.nf⟩, reD, rfl, Nat.le_refl _, rfl, Nat.zero_le _, ec, rfl⟩, ?_⟩
    rintro i m H ⟨g', F', r', xs, acc, rest, rfl, t', hDI, xI, reI, rws, hacc, rfl, hi, ec, hws⟩
    by_cases hlt : i < kw.ws.length
    · -- a turn
      have ed : kw.ws.drop i = kw.ws[i] :: kw.ws.drop (i + 1) := List.drop_eq_getElem_cons hlt
      rw [ed] at ec
      simp only [compL] at ec
      split at ec
      · rename_i hst
        obtain ⟨wy, _⟩ := wk g' F' r' _ i t' reI same hst
        obtain ⟨hgo, hy⟩ := wy kw.ws[i] (by simp [hlt])
        refine .inr ⟨hgo, _, fun H' hN => ⟨kw.ws.length - (i + 1), by omega, hN⟩, fun x H' hx => ?_⟩
        obtain ⟨g2, t2, re2, rfl, r2⟩ := hy x H' hx
        cases hb : bindG ig kw.ws[i] r' with
        | none => simp only [turnM, hb] at ec; cases ec
        | some rb =>
          simp only [turnM, hb] at ec
          have uD : ∀ {g3 : Sg} {F3 : Fp}, Go g' F' g3 F3 → g3.H D = some (.lst xs) ∧ Tmp g3 F3 [D] := fun {g3 F3} t3 => by
            have ou : OU C.Z g' (.l (acc.map U.d)) (.ref D) [D] := ⟨D, xs, [], rfl, hDI, OUs.dat rws, rfl⟩
            refine ⟨t3.k D _ hDI (xI.nf D List.mem_cons_self), (ou.go reI t3 xI).2⟩
          refine ig_ g2 kw.ws[i] x _ rb _ F' _ re2 r2 hb fun σ2 F2 re3 t3 hw => ⟨?_, ?_⟩
          · rw [hw own ho]
            exact lwipe_wipe σ own
          · have hσ : ∀ {g4 : Sg} {r4 : Env} {F4 : Fp}, RE C.Z C.B C.T g4 r4 σ2 F4 → RE C.Z C.B C.T g4 (FM.wipe r4 own) (L2.wipe σ own) (F4.wipe own) := fun {g4 r4 F4} re4 => by
              have hl2 : σ2.length = σ.length := by
                have h1 := congrArg List.length (hw own ho)
                rw [L2.wipe_length, L2.wipe_length, L2.wipe_length] at h1
                exact h1
              have rw := re4.wipe (vs := own) fun v hv => by
                obtain ⟨x, hx, _⟩ := ownOk_at hown v hv
                have := lt_of_get hx
                rw [re1.len] at this
                rw [re4.len, hl2]; exact this
              refine rw.sig (by rw [L2.wipe_length, hl2]) fun j x hx => ?_
              by_cases hj : j ∈ own
              · exact .inl (wipe_at_no r4 hj hx)
              · refine .inr ?_
                have h1 : (L2.wipe σ2 own)[j]? = (L2.wipe (L2.wipe σ own) own)[j]? := by rw [hw own ho]
                rw [lwipe_wipe, wipe_at, if_neg hj] at h1
                exact h1.symm
            have hx1 : ∀ y r', tstM mt rb ≠ .ex y r' := fun y r' e => by rw [e] at ec; cases ec
            refine it g2 rb σ2 F2 _ re3 hx1 ?_
            cases et : tstM mt rb with
            | bad => rw [et] at ec; cases ec
            | ex y r' => exact absurd et (hx1 y r')
            | ok c r3 =>
              rw [et] at ec
              intro g3 F3 t4 re4
              have tI3 : Go g' F' g3 F3 := (t2.trans t3).trans t4
              cases c with
              | true =>
                refine iteT ?_
                have hx2 : ∀ y r', elt r3 ≠ .ex y r' := fun y r' e => by
                  simp only [Res.bind, if_true, e] at ec; cases ec
                refine ie g3 r3 σ2 F3 _ re4 hx2 ?_
                cases ee : elt r3 with
                | bad => simp only [Res.bind, if_true, ee] at ec; cases ec
                | ex y r' => exact absurd ee (hx2 y r')
                | ok u r4 =>
                  simp only [Res.bind, if_true, ee] at ec
                  intro g4 F4 t5 re5 v r4'
                  have tI4 := tI3.trans t5
                  obtain ⟨hD4, x4⟩ := uD tI4
                  cases eT : compL kw own (turnM elt ig mt) (kw.ws.drop (i + 1)) (FM.wipe r4 own) with
                  | bad => rw [eT] at ec; cases ec
                  | ex _ _ => rw [eT] at ec; cases ec
                  | ok us r5 =>
                    rw [eT] at ec
                    cases ec
                    have re6 := hσ re5
                    have kpA : Kp C.Z g4 ⟨upd g4.H D (.lst (xs ++ [v])), g4.L⟩ := ⟨fun {b ys} h => by
                      rcases h with (h | ⟨ob, h⟩) | h
                      · exact .inl (.inl ((upd_ne (fun z => by rw [z, hD4] at h; cases h)).trans h))
                      · exact .inl (.inr ⟨ob, (upd_ne (fun z => by rw [z, hD4] at h; cases h)).trans h⟩)
                      · exact .inr h, fun b o l h => ⟨l, (upd_ne (fun z => x4.nl D List.mem_cons_self (by rw [← z]; exact l))).trans h⟩, fun b o w h => (upd_ne (fun z => by rw [z, hD4] at h; cases h)).trans h⟩
                    have goA : Go g1 F1 ⟨upd g4.H D (.lst (xs ++ [v])), g4.L⟩ (F4.wipe own) := by
                      have tt := (t'.trans tI4).trans (Go.wipeF (g := g4) (F := F4) own)
                      refine ⟨tt.l, fun b o h n => ?_, fun b h => ?_, tt.n, tt.s⟩
                      · exact (upd_ne (fun z => by rw [z, hD] at h; cases h)).trans (tt.k b o h n)
                      · by_cases hbD : b = D
                        · rw [hbD]; exact hD
                        · have h : upd g4.H D (.lst (xs ++ [v])) b = none := h
                          rw [upd_ne hbD] at h
                          exact tt.a b h
                    have reA : RE C.Z C.B C.T ⟨upd g4.H D (.lst (xs ++ [v])), g4.L⟩ (FM.wipe r4 own) (L2.wipe σ own) (F4.wipe own) := re6.keep kpA (fun j b m => upd_ne (fun z => x4.nf D List.mem_cons_self j (by rw [← z]; exact (Fp.wipe_mem m).1))) (fun j b m => re6.nl j b m) (fun b l => by
                      obtain ⟨o, ho⟩ := re6.la b l
                      exact ⟨o, (upd_ne (fun z => x4.nl D List.mem_cons_self (by rw [← z]; exact l))).trans ho⟩)
                    refine ⟨xs, hD4, ?_, ⟨upd g4.H D (.lst (xs ++ [v])), g4.L⟩, F4.wipe own, _, xs ++ [v], acc ++ [u], us, rfl, goA, upd_same, ⟨x4.nod, x4.nl, fun b m j hj => x4.nf b m j (Fp.wipe_mem hj).1⟩, reA, ?_, ?_, rfl, hlt, eT, ?_⟩
                    · rw [← rws.length]
                      exact sizeLine_lt (by omega)
                    · exact ((rws.kp (tI4.kp reI)).kp kpA).append ⟨v, [], rfl, r4'.kp kpA, rfl⟩
                    · simp
                      omega
                    · rw [List.append_assoc]
                      exact hws
              | false =>
                refine iteF ?_
                simp only [Res.bind, Bool.false_eq_true, if_false] at ec
                obtain ⟨hD4, x4⟩ := uD tI3
                cases eT : compL kw own (turnM elt ig mt) (kw.ws.drop (i + 1)) (FM.wipe r3 own) with
                | bad => rw [eT] at ec; cases ec
                | ex _ _ => rw [eT] at ec; cases ec
                | ok us r5 =>
                  rw [eT] at ec
                  cases ec
                  exact ⟨g3, F3.wipe own, _, xs, acc, _, rfl, (t'.trans tI3).trans (Go.wipeF own), hD4, ⟨x4.nod, x4.nl, fun b m j hj => x4.nf b m j (Fp.wipe_mem hj).1⟩, hσ re4, rws.kp (tI3.kp reI), Nat.le_succ_of_le hacc, rfl, hlt, eT, hws⟩
      · cases ec
    · have hie : i = kw.ws.length := by omega
      subst hie
      rw [List.drop_eq_nil_of_le (Nat.le_refl _)] at ec
      simp only [compL] at ec
      split at ec
      · rename_i hst
        cases ec
        obtain ⟨_, wst⟩ := wk g' F' _ _ kw.ws.length t' reI same hst
        refine .inl ⟨wst rfl, ?_⟩
        rw [List.append_nil] at hws
        subst hws
        have tE := (t1.trans t').trans (Go.wipeF (g := g') (F := F') own)
        refine k1 g' (F'.wipe own) tE (RE.back re1 t' hown reI) (.ref D) [D] ⟨D, xs, [], rfl, hDI, OUs.dat rws, rfl⟩ ⟨xI.nod, xI.nl, fun b m j hj => xI.nf b m j (Fp.wipe_mem hj).1⟩ fun b m => ?_
        rw [List.mem_singleton.mp m]
        exact .inl (t1.a _ hD)
      · cases ec
  · exact False.elim k1
theorem noSet : ∀ {iter : Expr} {env : PySem.Env}, (match iter with | .Set _ _ _ => false | _ => true) = true → ∀ x, foldedSetIterable iter env x = pure x := by
  intro iter env h x
  cases iter <;> first | rfl | cases h
theorem su_comp {elt tg iter : Expr} {ifs : List Expr} {scope : Scope} {own : List (Str × Nat)} {ig : IG} {mi : Env → Res Wk} {mt : Option (Env → Res Bool)} {me : Env → Res W} (hc : C.X.calm = true) (hN : C.X.N.Nodup) (hi : SI C tg iter mi) (ok : BlkOk C.X.N C.X.env.scope scope own)
    (hg : ∀ s H c cl fp, SG (C.blk scope s H c cl fp) tg ig) (ht : TestOk C scope ifs mt) (he : ∀ s H c cl fp, SE (C.blk scope s H c cl fp) elt me) (hs : ∀ x, foldedSetIterable iter C.X.env x = pure x) (ho : ∀ i ∈ slotsG ig, i ∈ own.map (·.2)) :
    SU C (.ListComp elt [⟨tg, iter, ifs, 0⟩] scope pos) (fun r => (lcM me ig (own.map (·.2)) mi mt r).bind fun ws r1 => .ok (.l (ws.map U.d)) r1) := by
  obtain ⟨ti, pi, ii⟩ := hi
  obtain ⟨tg_, pg, ig_⟩ := blk_g hg
  obtain ⟨tt, pt, it⟩ := blk_ts ht
  obtain ⟨te, pe, ie⟩ := blk_e he
  refine ⟨_, pe_lc hc hN pi ok pg pt pe hs, fun g r σ F Q re k => lc_imp ii ig_ it ie ho g r σ F Q re ?_⟩
  exact k.seq0 fun ws r1 g1 F1 t1 re1 k1 => k1 g1 F1 t1 re1
end
end FM


set_option Elab.async false
set_option linter.all false
set_option maxRecDepth 100000
set_option maxHeartbeats 2000000
namespace FM
open PySem L2
section
variable {C : Cz} {a b d e : Expr} {es : List Expr} {pos : Pos} {ma mb md : Env → Res W} {va vb vd : Env → Res Arg} {mt mu : Env → Res Bool} {mx : Env → Res U}
/-- a value that is no comprehension -/
def notComp : Expr → Bool
  | .ListComp _ _ _ _ => false
  | .SetComp _ _ _ _ => false
  | .DictComp _ _ _ _ _ => false
  | _ => true
theorem sw_no {tg : Option Expr} {l : Nat} {env : PySem.Env} (h : notComp e = true) : swapsWith e tg l env = pure false := by
  cases e <;> first | rfl | cases h
theorem ss_exp (h : SE C e ma) (hn : notComp e = true) : SS C (.Expr e pos) (fun r => (ma r).toS fun _ r1 => .nx r1) := by
  obtain ⟨t, p, i⟩ := h
  refine ⟨_, ps_expr p (sw_no hn), fun g r σ F D re dk => ?_⟩
  exact i g r σ F _ re (dk.seq fun w r1 g1 F1 t1 re1 k1 v rv => k1 g1 F1 σ (.refl g1 F1) re1)
theorem DOk.seq0 {g : Sg} {F : Fp} {σ : L2.St} {α : Type} {D : Ends} {P : α → Sg → Fp → Prop} {f : α → Env → SRes} : ∀ {x : Res α}, DOk C D g F (x.toS f) →
    (∀ a r1 g1 F1, Go g F g1 F1 → RE C.Z C.B C.T g1 r1 σ F1 → DOk C D g F (f a r1) → P a g1 F1) → POk C g F σ P x
  | .ok a r, h, hk => fun g' F' t' e => hk a r g' F' t' e h
  | .ex x r, h, _ => h σ
  | .bad, h, _ => h
theorem ss_ret (h : SU C e mx) : SS C (.Return (some e) pos) (fun r => (mx r).toS fun u r1 => .rt u r1) := by
  obtain ⟨t, p, i⟩ := h
  refine ⟨_, ps_ret p, fun g r σ F D re dk => ?_⟩
  exact i g r σ F _ re (dk.seq0 fun u r1 g1 F1 t1 re1 k1 v fp o x s => k1 g1 F1 σ v fp t1 re1 o x s)
def asgM (ig : IG) (ma : Env → Res W) : Env → SRes := fun r => (ma r).toS fun w r1 => match bindG ig w r1 with
    | some r2 => .nx r2
    | none => .bad
theorem ss_asg {tg : Expr} {ig : IG} (h : SE C e ma) (hg : SG C tg ig) (hst : notStar tg = true) (hs : swapsWithSole [tg] e pos.line C.X.env = pure false) (hw : swappedStores [tg] e C.X.env = pure none) : SS C (.Assign [tg] e pos) (asgM ig ma) := by
  obtain ⟨t, p, i⟩ := h
  obtain ⟨tg_, pg, ig_⟩ := hg
  refine ⟨_, ps_asg p pg hs hw (by rw [asg_star hst]; rfl), fun g r σ F D re dk => ?_⟩
  refine i g r σ F _ re (DOk.seq (show DOk C D g F ((ma r).toS _) from dk) fun w r1 g1 F1 t1 re1 k1 v rv => ?_)
  cases hb : bindG ig w r1 with
  | none => simp only [hb] at k1; exact False.elim k1
  | some r2 =>
    simp only [hb] at k1
    exact ig_ g1 w v r1 r2 σ F1 _ re1 rv hb fun σ' F' re' t' _ => k1 g1 F' σ' t' re'
def ownM (i : Nat) (mx : Env → Res U) : Env → SRes := fun r => (mx r).toS fun u r1 => match setV r1 i u with
    | some r2 => .nx r2
    | none => .bad
theorem ss_own {i : Nat} {x : Str} {npos : Pos} (hN : C.X.N.Nodup) (hi : C.X.N[i]? = some x) (hx : Loc C.X.env.scope x) (hf : C.X.fn x = true ∨ C.X.env.scope.names.lookup x = some .local) (h : SU C e mx) (hs : swapsWithSole [.Name x npos] e pos.line C.X.env = pure false) : SS C (.Assign [.Name x npos] e pos) (ownM i mx) := by
  obtain ⟨t, p, ii⟩ := h
  refine ⟨_, ps_asg p (pg_name hN hi hx hf) hs rfl (by rw [asg_star rfl]; rfl), fun g r σ F D re dk => ?_⟩
  refine ii g r σ F _ re (DOk.seq0 (show DOk C D g F ((mx r).toS _) from dk) fun u r1 g1 F1 t1 re1 k1 v fp o y s => ?_)
  cases hb : setV r1 i u with
  | none => simp only [hb] at k1; exact False.elim k1
  | some r2 =>
    simp only [hb] at k1
    obtain ⟨rfl, hlt⟩ := setV_eq hb
    exact k1 g1 _ _ (Go.bind re1 t1 s) (re1.bind hlt o y)
def parM (i j : Nat) (ma mb : Env → Res W) : Env → SRes := fun r => (ma r).toS fun x r1 => (mb r1).toS fun y r2 => match (setV r2 i (.d x)).bind fun r3 => setV r3 j (.d y) with
    | some r4 => .nx r4
    | none => .bad
theorem ss_par {i j : Nat} {x y : Str} {px py pt : Pos} {kt k2 pt2} (hc : C.X.calm = true) (hN : C.X.N.Nodup) (hi : C.X.N[i]? = some x) (hj : C.X.N[j]? = some y) (hij : i ≠ j) (hx : C.X.env.scope.names.lookup x = some .local) (hy : C.X.env.scope.names.lookup y = some .local)
    (hw : swappedStores [.Tuple [.Name x px, .Name y py] kt pt] (.Tuple [a, b] k2 pt2) C.X.env = pure (some [x, y])) (hsa : notStar a = true) (hsb : notStar b = true) (ha : SE C a ma) (hb : SE C b mb) :
    SS C (.Assign [.Tuple [.Name x px, .Name y py] kt pt] (.Tuple [a, b] k2 pt2) pos) (parM i j ma mb) := by
  obtain ⟨ta, pa, ia⟩ := ha
  obtain ⟨tb, pb, ib⟩ := hb
  refine ⟨_, ps_par hc hN hi hj hij hx hy (pa_cons pa (pa_cons pb pa_nil (star_ hsb)) (star_ hsa)) hw, fun g r σ F D re dk => ?_⟩
  refine ia g r σ F _ re (DOk.seq (show DOk C D g F ((ma r).toS _) from dk) fun w r1 g1 F1 t1 re1 k1 v rv => ?_)
  refine ib g1 r1 σ F1 _ re1 (DOk.seq (show DOk C D g1 F1 ((mb r1).toS _) from k1) fun u r2 g2 F2 t2 re2 k2 v2 rv2 => ?_)
  cases hs : (setV r2 i (.d w)).bind fun r3 => setV r3 j (.d u) with
  | none => simp only [hs] at k2; exact False.elim k2
  | some r4 =>
    simp only [hs] at k2
    obtain ⟨r3, h1, h2⟩ := Option.bind_eq_some_iff.mp hs
    obtain ⟨rfl, l1⟩ := setV_eq h1
    obtain ⟨rfl, l2⟩ := setV_eq h2
    have re3 := re2.bind (u := .d w) (v := v) (fp := []) l1 ⟨rfl, rv.kp (t2.kp re1)⟩ tmp_nil
    have re4 := re3.bind (u := .d u) (v := v2) (fp := []) l2 ⟨rfl, rv2⟩ tmp_nil
    exact ⟨v, v2, rfl, k2 g2 _ _ ((Go.set (fp := []) fun _ m => nomatch m).trans (Go.set (fp := []) fun _ m => nomatch m)) re4⟩
theorem starB (h : notStar a = true) : (match (generalizing := false) a with | .Starred .. => true | _ => false) = false := by cases a <;> first | rfl | cases h
/-- x, y = a, b by names -/
theorem swap2 {x y : Str} {px py pt : Pos} {kt k2 pt2} {env : PySem.Env} (hk : env.scope.kind = .function) (hx : env.scope.names.lookup x = some .local) (hy : env.scope.names.lookup y = some .local) (hxy : x ≠ y) (hl : py.line = px.line)
    (hsa : notStar a = true) (hsb : notStar b = true) (hf : (foldedForSure 8 a && foldedForSure 8 b) = false) (hc : (constantsAlone 8 a && constantsAlone 8 b) = false) : swappedStores [.Tuple [.Name x px, .Name y py] kt pt] (.Tuple [a, b] k2 pt2) env = pure (some [x, y]) := by
  have hb : env.blockKind = .function := by unfold Env.blockKind; rw [hk]; rfl
  have kx : env.kindOf x = some .local := hx
  have ky : env.kindOf y = some .local := hy
  have s1 := starB hsa
  have s2 := starB hsb
  have e1 : (x == y) = false := beq_eq_false_iff_ne.mpr hxy
  have e2 : (y == x) = false := beq_eq_false_iff_ne.mpr (Ne.symm hxy)
  unfold swappedStores
  simp only [List.length_cons, List.length_nil, hb, List.any_cons, List.any_nil, s1, s2, List.filterMap_cons, List.filterMap_nil, kx, ky, Expr.pos, hl, List.all_cons, List.all_nil, Bool.and_true, hf, hc, List.head?_cons, Option.map_some, Option.getD_some, List.eraseDups_cons, List.filter_cons, List.filter_nil, e1, e2, beq_self_eq_true, Bool.and_self, if_true, Bool.true_and, List.eraseDups_nil, Bool.not_false, Bool.false_eq_true, if_false]
  rw [if_neg (by decide)]
  refine (if_neg ?_).trans (if_neg (by decide))
  rw [Bool.or_eq_true, Bool.or_eq_true]
  intro h
  rcases h with h | h | h
  · exact Bool.noConfusion (h.symm.trans s1)
  · exact Bool.noConfusion (h.symm.trans s2)
  · cases h
theorem OUs.dset {Z : Kx} {g : Sg} {w : W} {v : V} (h : RW Z g w v) : ∀ {us : List U} {xs : List V} {fp : List Addr} {ws : List W} (j : Nat), dats us = some ws → OUs Z g us xs fp → OUs Z g (us.set j (.d w)) (xs.set j v) fp
  | [], xs, fp, _, j, _, o => by obtain ⟨rfl, rfl⟩ := o; exact ⟨rfl, rfl⟩
  | u :: us, xs, fp, _, j, e, o => by
    obtain ⟨x, r, f1, f2, rfl, o1, o2, rfl⟩ := o
    cases u <;> first | (cases e; done) | skip
    obtain ⟨ws', e2, _⟩ := Option.map_eq_some_iff.mp e
    obtain ⟨rfl, o1⟩ := o1
    cases j with
    | zero => exact ⟨v, r, [], f2, rfl, ⟨rfl, h⟩, o2, rfl⟩
    | succ j => exact ⟨x, _, [], f2, rfl, ⟨rfl, o1⟩, OUs.dset h j e2 o2, rfl⟩
/-- name[k] = value, of a list whose items are data -/
def subM (i : Nat) (mb md : Env → Res W) : Env → SRes := fun r => (md r).toS fun v r1 => match lookU r1 i with
    | some (.l _) => (mb r1).toS fun n r2 => putS i v n r2
    | _ => .bad
theorem ss_sub {x : Str} {i : Nat} {npos pos' : Pos} (hN : C.X.N[i]? = some x) (hv : Vis C.X.env.scope x) (hdb : (x == ("__debug__" : Str)) = false) (hcd : (x == ("__classdict__" : Str)) = false) (hb : SE C b mb) (hd : SE C d md) (hn : notComp d = true) : SS C (.Assign [.Subscript (.Name x npos) b pos'] d pos) (subM i mb md) := by
  obtain ⟨tb, pb, ib⟩ := hb
  obtain ⟨td, pd, id⟩ := hd
  have pa := pe_var (pos := npos) hN hv hdb hcd
  have P : PS C.X (.Assign [.Subscript (.Name x npos) b pos'] d pos) (fun D σ H => td σ H fun v H1 => tVar i σ H1 fun x H2 => tb σ H2 fun y H3 => rSetL x y v H3 fun H4 => D.nx σ H4) := by
    refine ⟨fun pins s σ H D I h => ?_⟩
    refine wpAny_Assign_Subscript (thn (pd.run pins s σ H _ I h) fun r s1 ⟨v, H1, I1, rv, q1⟩ => thn (pa.run pins s1 σ H1 _ I1 q1) fun u s2 ⟨x, H2, I2, rx, q2⟩ => thn (pb.run pins s2 σ H2 _ I2 q2) fun iv s3 ⟨y, H3, I3, ry, q3⟩ => ?_) (sw_no hn)
    exact thn (set_list pins s3 σ H3 x y v u iv r _ I3 rx ry rv q3) fun _ s4 ⟨H4, I4, q4⟩ => ⟨σ, H4, I4, q4⟩
  refine ⟨_, P, fun g r σ F D re dk => ?_⟩
  refine id g r σ F _ re (DOk.seq (show DOk C D g F ((md r).toS _) from dk) fun wv r1 g1 F1 t1 re1 k1 v1 rv1 => ?_)
  cases hl1 : lookU r1 i with
  | none => simp only [hl1] at k1; exact False.elim k1
  | some u1 =>
    simp only [hl1] at k1
    cases u1 with
    | l us1 =>
      obtain ⟨v, _, _, _, hσ, _⟩ := re1.look hl1
      refine ⟨v, hσ, ?_⟩
      refine ib g1 r1 σ F1 _ re1 (DOk.seq (show DOk C D g1 F1 ((mb r1).toS _) from k1) fun wn r2 g2 F2 t2 re2 k2 v2 rv2 => ?_)
      unfold putS at k2
      cases hl : lookU r2 i with
      | none => simp only [hl] at k2; exact False.elim k2
      | some u =>
        simp only [hl] at k2
        cases u with
        | l us =>
          cases wn with
          | int n =>
            simp only [] at k2
            cases hj : ix us.length n with
            | none => simp only [hj] at k2; exact False.elim k2
            | some j =>
              cases hda : dats us with
              | none => simp only [hj, hda] at k2; exact False.elim k2
              | some ws =>
              simp only [hj, hda] at k2
              cases rv2
              obtain ⟨v', _, _, _, hσ2, p, xs, fs, rfl, hx, ou, hF⟩ := re2.look hl
              rw [hσ] at hσ2
              cases hσ2
              have rv1' := rv1.kp (t2.kp re1)
              obtain ⟨kp, _, kf⟩ := re2.chg (o := .lst (xs.set j v1)) hF
              have ou2 : OU C.Z ⟨upd g2.H p (.lst (xs.set j v1)), g2.L⟩ (.l (us.set j (.d wv))) (.ref p) (p :: fs) := ⟨p, xs.set j v1, fs, rfl, upd_same, OUs.dset (rv1'.kp kp) j hda (ou.kp kp kf), rfl⟩
              obtain ⟨r3, hp3, re3, t3⟩ := re2.mut hl hF hσ ou2
              simp only [hp3] at k2
              exact ⟨p, xs, n, j, rfl, rfl, hx, by rw [← ou.length]; exact (ix_N hj).1, k2 _ F2 σ t3 re3⟩
          | _ => exact False.elim k2
        | _ => cases wn <;> exact False.elim k2
    | _ => exact False.elim k1
/-! dicts -/
theorem dset_len {α : Type} (k : W) (v : α) : ∀ {ks : List W} {vs : List α}, ks.length = vs.length → (FM.dset k v ks vs).length = vs.length
  | [], [], _ => rfl
  | [], _ :: _, h => by simp at h
  | _ :: _, [], h => by simp at h
  | l :: ks, u :: vs, h => by simp only [FM.dset, List.length_cons]; rw [dset_len k v (by simpa using h)]
theorem KeysR.append : ∀ {a b : List W} {x y : List Key}, KeysR a x → KeysR b y → KeysR (a ++ b) (x ++ y)
  | [], _, _, _, h, h' => by cases h; exact h'
  | _ :: _, _, _, _, h, h' => by
    obtain ⟨k, t, rfl, h1, h2⟩ := h
    exact ⟨k, _, rfl, h1, KeysR.append h2 h'⟩
theorem dset_map {Z : Kx} {g : Sg} {w u : W} {k : Key} {v : V} (hk : keyR w k) (hu : RW Z g u v) : ∀ {ks ws : List W} {ys : List (Key × V)}, KeysR ks (ys.map (·.1)) → RWs Z g ws (ys.map (·.2)) → KeysR ks ((ys.map fun kv => if kv.1 = k then (kv.1, v) else kv).map (·.1)) ∧ RWs Z g (FM.dset w u ks ws) ((ys.map fun kv => if kv.1 = k then (kv.1, v) else kv).map (·.2))
  | [], ws, ys, h, hw => by
    have : ys = [] := List.map_eq_nil_iff.mp h
    subst this
    exact ⟨rfl, by cases ws <;> first | rfl | (cases hw; done)⟩
  | l :: ks, ws, ys, h, hw => by
    obtain ⟨q, r, e, h1, h2⟩ := h
    cases ys with
    | nil => cases e
    | cons y ys =>
      cases e
      cases ws with
      | nil => cases hw
      | cons z ws =>
        obtain ⟨x, t, et, hx, hw2⟩ := hw
        cases et
        obtain ⟨i1, i2⟩ := dset_map hk hu h2 hw2
        have e2 := keyR_beq h1 hk
        simp only [FM.dset, e2, List.map_cons]
        by_cases hl : y.1 = k
        · rw [if_pos hl]
          simp only [hl, decide_true, if_true]
          exact ⟨⟨_, _, rfl, by rw [← hl]; exact h1, i1⟩, v, _, rfl, hu, i2⟩
        · rw [if_neg hl]
          simp only [decide_eq_false hl, Bool.false_eq_true, if_false]
          exact ⟨⟨_, _, rfl, h1, i1⟩, y.2, _, rfl, hx, i2⟩
theorem dput_put {Z : Kx} {g : Sg} {w u : W} {k : Key} {v : V} (hk : keyR w k) (hu : RW Z g u v) {ks ws : List W} {ys : List (Key × V)} (h : KeysR ks (ys.map (·.1))) (hw : RWs Z g ws (ys.map (·.2))) : KeysR (dput w u ks ws).1 ((putK ys k v).map (·.1)) ∧ RWs Z g (dput w u ks ws).2 ((putK ys k v).map (·.2)) := by
  have f := dhas_val hk h
  unfold dput putK
  rw [valV_any, ← f]
  cases e : dhas w ks with
  | true => simp only [if_true]; exact dset_map hk hu h hw
  | false =>
    simp only [Bool.false_eq_true, if_false, List.map_append, List.map_cons, List.map_nil]
    exact ⟨h.append ⟨k, [], rfl, hk, rfl⟩, hw.append ⟨v, [], rfl, hu, rfl⟩⟩
def dsubM (i : Nat) (mb md : Env → Res W) : Env → SRes := fun r => (md r).toS fun v r1 => match lookU r1 i with
    | some (.c _ _) => (mb r1).toS fun n r2 => dputS i v n r2
    | _ => .bad
theorem ss_dsub {x : Str} {i : Nat} {npos pos' : Pos} (hu : C.X.A.units + 1 < cLine) (hN : C.X.N[i]? = some x) (hv : Vis C.X.env.scope x) (hdb : (x == ("__debug__" : Str)) = false) (hcd : (x == ("__classdict__" : Str)) = false) (hb : SE C b mb) (hd : SE C d md) (hn : notComp d = true) : SS C (.Assign [.Subscript (.Name x npos) b pos'] d pos) (dsubM i mb md) := by
  obtain ⟨tb, pb, ib⟩ := hb
  obtain ⟨td, pd, id⟩ := hd
  refine ⟨_, ps_dput hu (pe_var (pos := npos) hN hv hdb hcd) pb pd (sw_no hn), fun g r σ F D re dk => ?_⟩
  refine id g r σ F _ re (DOk.seq (show DOk C D g F ((md r).toS _) from dk) fun wv r1 g1 F1 t1 re1 k1 v1 rv1 => ?_)
  cases hl1 : lookU r1 i with
  | none => simp only [hl1] at k1; exact False.elim k1
  | some u1 =>
    simp only [hl1] at k1
    cases u1 with
    | c ks1 us1 =>
      obtain ⟨v, _, _, _, hσ, _⟩ := re1.look hl1
      refine ⟨v, hσ, ?_⟩
      refine ib g1 r1 σ F1 _ re1 (DOk.seq (show DOk C D g1 F1 ((mb r1).toS _) from k1) fun wn r2 g2 F2 t2 re2 k2 v2 rv2 => ?_)
      unfold dputS at k2
      cases hl : lookU r2 i with
      | none => simp only [hl] at k2; exact False.elim k2
      | some u =>
        simp only [hl] at k2
        cases u with
        | c ks us =>
          simp only [] at k2
          cases hda : dats us with
          | none => simp only [hda] at k2; exact False.elim k2
          | some ws =>
            simp only [hda] at k2
            split at k2
            · rename_i hk
              rw [Bool.and_eq_true] at hk
              obtain ⟨v', _, _, _, hσ2, p, xs, fs, rfl, ⟨ys, hy, hks, rfl⟩, ou, hF⟩ := re2.look hl
              rw [hσ] at hσ2
              cases hσ2
              obtain ⟨k, rfl, kr⟩ := key_of hk.1 rv2
              have rv1' := rv1.kp (t2.kp re1)
              obtain ⟨rfl, rws⟩ := OUs.of_dats hda ou
              obtain ⟨kp, _, _⟩ := re2.chg (o := .dK (putK ys k v1)) hF
              obtain ⟨n1, n2⟩ := dput_put kr (rv1'.kp kp) hks (rws.kp kp)
              have ou2 : OU C.Z ⟨upd g2.H p (.dK (putK ys k v1)), g2.L⟩ (.c (dput wn wv ks ws).1 ((dput wn wv ks ws).2.map U.d)) (.ref p) [p] := ⟨p, _, [], rfl, ⟨putK ys k v1, upd_same, n1, rfl⟩, OUs.dat n2, rfl⟩
              obtain ⟨r3, hp3, re3, t3⟩ := re2.mut hl hF hσ ou2
              simp only [hp3] at k2
              refine ⟨p, _, rfl, DPut.k hy ?_, k2 _ F2 σ t3 re3⟩
              have := hks.length
              rw [List.length_map] at this
              rw [← this]
              exact sizeLine_lt (by simpa [Nat.blt_eq] using hk.2)
            · exact False.elim k2
        | _ => exact False.elim k2
    | _ => exact False.elim k1
theorem ss_pass : SS C (.Pass pos) (fun r => .nx r) := ⟨_, ps_pass, fun g r σ F D re dk => dk g F σ (.refl g F) re⟩
theorem ss_brk : SS C (.Break pos) (fun r => .bk r) := ⟨_, ps_break, fun g r σ F D re dk => dk g F σ (.refl g F) re⟩
theorem ss_cont : SS C (.Continue pos) (fun r => .ct r) := ⟨_, ps_continue, fun g r σ F D re dk => dk g F σ (.refl g F) re⟩
theorem ss_unk {st : Stmt} : SS C st (fun _ => .bad) := ⟨fun _ _ _ => False, ⟨fun _ _ _ _ _ _ h => h.elim⟩, fun g r σ F D re dk => dk⟩
theorem sss_nil : SSs C [] (fun r => .nx r) := ⟨_, pss_nil, fun g r σ F D re dk => dk g F σ (.refl g F) re⟩
theorem sss_cons {st : Stmt} {sts : List Stmt} {m ms : Env → SRes} (h1 : SS C st m) (h2 : SSs C sts ms) : SSs C (st :: sts) (fun r => match m r with
    | .nx r1 => ms r1
    | x => x) := by
  obtain ⟨t, p, i⟩ := h1
  obtain ⟨u, q, j⟩ := h2
  refine ⟨_, pss_cons p q, fun g r σ F D re dk => ?_⟩
  refine i g r σ F { D with nx := u D } re ?_
  cases em : m r with
  | nx r1 =>
    simp only [em] at dk
    intro g' F' σ' t' re'
    exact j g' r1 σ' F' D re' (dk.mono t')
  | rt w r1 => simp only [em] at dk; exact dk
  | bk r1 => simp only [em] at dk; exact dk
  | ct r1 => simp only [em] at dk; exact dk
  | ex x r1 => simp only [em] at dk; exact dk
  | bad => simp only [em] at dk; exact dk
/-- the rest of a block whose text nobody reads -/
theorem sss_unk {sts : List Stmt} : SSs C sts (fun _ => .bad) := ⟨fun _ _ _ => False, ⟨fun _ _ _ _ _ _ h => h.elim⟩, fun g r σ F D re dk => dk⟩
theorem ss_if {A B : List Stmt} {m1 m2 : Env → SRes} (ht : STt C e mt) (h1 : SSs C A m1) (h2 : SSs C B m2) : SS C (.If e A B pos) (fun r => (mt r).toS fun c r1 => if c then m1 r1 else m2 r1) := by
  obtain ⟨t, p, i⟩ := ht
  obtain ⟨ta, pa, ia⟩ := h1
  obtain ⟨tb, pb, ib⟩ := h2
  refine ⟨_, ps_if p pa pb, fun g r σ F D re dk => ?_⟩
  refine i g r σ F _ re (dk.seq fun c r1 g1 F1 t1 re1 k1 => ?_)
  cases c with
  | true => exact iteT (ia g1 r1 σ F1 D re1 k1)
  | false => exact iteF (ib g1 r1 σ F1 D re1 k1)
def forM (ig : IG) (mi : Env → Res Wk) (mb : Env → SRes) : Env → SRes := fun r => (mi r).toS fun k r1 => if k.ks.isEmpty then forL (fun w r2 => match bindG ig w r2 with
      | some r3 => mb r3
      | none => .bad) k.ws r1 else .bad
theorem ss_for {tg iter : Expr} {body : List Stmt} {ig : IG} {mi : Env → Res Wk} {mb : Env → SRes} (hp : PassesOwn (model C.X.prog C.X.w) C.X.A C.X.env C.X.xe) (hc : C.X.calm = true) (hi : SI C tg iter mi) (hg : SG C tg ig) (hb : SSs C body mb) (hs : ∀ x, foldedSetIterable iter C.X.env x = pure x) :
    SS C (.For tg iter body [] pos) (forM ig mi mb) := by
  obtain ⟨ti, pi, ii⟩ := hi
  obtain ⟨tg_, pg, ig_⟩ := hg
  obtain ⟨tb, pb, ib⟩ := hb
  refine ⟨_, ps_for hp hc pi pg pb hs, fun g r σ F D re dk => ?_⟩
  refine ii g r σ F _ re (DOk.seq (show DOk C D g F ((mi r).toS _) from dk) fun kw r1 g1 F1 t1 re1 k1 J wk => ?_)
  have k1 : DOk C D g1 F1 (if kw.ks.isEmpty then forL (fun w r2 => match bindG ig w r2 with
      | some r3 => mb r3
      | none => .bad) kw.ws r1 else .bad) := k1
  split at k1
  · rename_i hks
    have hks : kw.ks = [] := List.isEmpty_iff.mp hks
    have same : ∀ σ', Same kw.ks σ σ' := fun σ' q hq => by rw [hks] at hq; cases hq
    have still : ∀ r', kw.still r' = true := fun r' => by unfold Wk.still; rw [hks]; rfl
    refine ⟨fun i m σ' H => ∃ (g' : Sg) (F' : Fp) (r' : Env), g'.H = H ∧ Go g1 F1 g' F' ∧ RE C.Z C.B C.T g' r' σ' F' ∧ m = kw.ws.length - i ∧ i ≤ kw.ws.length ∧ DOk C D g' F' (forL (fun w r2 => match bindG ig w r2 with
      | some r3 => mb r3
      | none => .bad) (kw.ws.drop i) r'), ⟨_, g1, F1, r1, rfl, .refl g1 F1, re1, rfl, Nat.zero_le _, k1⟩, ?_⟩
    rintro i m σ' H ⟨g', F', r', rfl, t', re', rfl, hi, dk'⟩
    obtain ⟨wy, wst⟩ := wk g' F' r' σ' i t' re' (same σ') (still r')
    by_cases hlt : i < kw.ws.length
    · have ed : kw.ws.drop i = kw.ws[i] :: kw.ws.drop (i + 1) := List.drop_eq_getElem_cons hlt
      rw [ed] at dk'
      simp only [forL] at dk'
      obtain ⟨hgo, hy⟩ := wy kw.ws[i] (by simp [hlt])
      refine .inr ⟨hgo, _, fun σ2 H' hN => ⟨kw.ws.length - (i + 1), by omega, hN⟩, fun x H' hx => ?_⟩
      obtain ⟨g2, t2, re2, rfl, r2⟩ := hy x H' hx
      cases hb : bindG ig kw.ws[i] r' with
      | none => simp only [hb] at dk'; exact False.elim dk'
      | some rb =>
        simp only [hb] at dk'
        refine ig_ g2 kw.ws[i] x r' rb σ' F' _ re2 r2 hb fun σ2 F2 re3 t3 _ => ?_
        refine ib g2 rb σ2 F2 _ re3 ?_
        have t23 := t2.trans t3
        have nxt : ∀ {r3 : Env}, DOk C D g' F' (forL (fun w r2 => match bindG ig w r2 with
            | some r3 => mb r3
            | none => .bad) (kw.ws.drop (i + 1)) r3) → ∀ g4 F4 σ4, Go g2 F2 g4 F4 → RE C.Z C.B C.T g4 r3 σ4 F4 → ∃ (g' : Sg) (F' : Fp) (r' : Env), g'.H = g4.H ∧ Go g1 F1 g' F' ∧ RE C.Z C.B C.T g' r' σ4 F' ∧ kw.ws.length - (i + 1) = kw.ws.length - (i + 1) ∧ i + 1 ≤ kw.ws.length ∧ DOk C D g' F' (forL (fun w r2 => match bindG ig w r2 with
            | some r3 => mb r3
            | none => .bad) (kw.ws.drop (i + 1)) r') := fun {r3} hd g4 F4 σ4 t4 re4 =>
          ⟨g4, F4, r3, rfl, (t'.trans t23).trans t4, re4, rfl, hlt, hd.mono (t23.trans t4)⟩
        cases eb : mb rb with
        | nx r3 => simp only [eb] at dk'; exact fun g4 F4 σ4 t4 re4 => nxt dk' g4 F4 σ4 t4 re4
        | ct r3 => simp only [eb] at dk'; exact fun g4 F4 σ4 t4 re4 => nxt dk' g4 F4 σ4 t4 re4
        | bk r3 => simp only [eb] at dk'; exact fun g4 F4 σ4 t4 re4 => dk' g4 F4 σ4 (t23.trans t4) re4
        | rt w3 r3 => simp only [eb] at dk'; exact DOk.mono (x := .rt w3 r3) t23 dk'
        | ex x3 r3 => simp only [eb] at dk'; exact DOk.mono (x := .ex x3 r3) t23 dk'
        | bad => simp only [eb] at dk'; exact dk'
    · have hie : i = kw.ws.length := by omega
      subst hie
      rw [List.drop_eq_nil_of_le (Nat.le_refl _)] at dk'
      exact .inl ⟨wst rfl, dk' g' F' σ' (.refl g' F') re'⟩
  · exact False.elim k1
/-- while, by the levels of the evaluator -/
theorem ss_whl {c : CF} {t : IT} {body : List IS} {sts : List Stmt} {n : Nat} (hp : PassesOwn (model C.X.prog C.X.w) C.X.A C.X.env C.X.xe) (ht : ∀ m, m < n → STt C e ((lvl c m).T t)) (hb : ∀ m, m < n → SSs C sts ((lvl c m).S body)) : SS C (.While e sts [] pos) ((lvl c n).Wh t body) := by
  have ht' : ∀ m : {m // m < n}, STt C e ((lvl c m).T t) := fun m => ht m m.2
  have hb' : ∀ m : {m // m < n}, SSs C sts ((lvl c m).S body) := fun m => hb m m.2
  have pt : PT C.X e (fun σ H Q => ∃ m : {m // m < n}, (ht' m).choose σ H Q) := ⟨fun pins s σ H Q I ⟨m, h⟩ => (ht' m).choose_spec.1.run pins s σ H Q I h⟩
  have pb : PSs C.X sts (fun D σ H => ∃ m : {m // m < n}, (hb' m).choose D σ H) := ⟨fun pins s σ H D I ⟨m, h⟩ => (hb' m).choose_spec.1.run pins s σ H D I h⟩
  refine ⟨_, ps_while hp pt pb, fun g r σ F D re dk => ?_⟩
  refine ⟨fun m σ' H => ∃ (g' : Sg) (F' : Fp) (r' : Env), g'.H = H ∧ RE C.Z C.B C.T g' r' σ' F' ∧ m ≤ n ∧ DOk C D g' F' ((lvl c m).Wh t body r'), ⟨n, g, F, r, rfl, re, Nat.le_refl _, dk⟩, ?_⟩
  rintro m σ' H ⟨g', F', r', rfl, re', hm, dk'⟩
  cases m with
  | zero => exact False.elim dk'
  | succ m =>
    have dk' : DOk C D g' F' (stepWh (lvl c m) t body r') := dk'
    unfold stepWh at dk'
    refine ⟨⟨m, by omega⟩, (ht' ⟨m, by omega⟩).choose_spec.2 g' r' σ' F' _ re' (dk'.seq fun b r1 g1 F1 t1 re1 k1 => ?_)⟩
    cases b with
    | false => exact iteF (k1 g1 F1 σ' (.refl g1 F1) re1)
    | true =>
      refine iteT ⟨_, fun σ2 H2 h => ⟨m, Nat.lt_succ_self _, h⟩, ⟨⟨m, by omega⟩, (hb' ⟨m, by omega⟩).choose_spec.2 g1 r1 σ' F1 _ re1 ?_⟩⟩
      have k1 : DOk C D g1 F1 (match (lvl c m).S body r1 with
        | .nx r2 => (lvl c m).Wh t body r2
        | .ct r2 => (lvl c m).Wh t body r2
        | .bk r2 => .nx r2
        | x => x) := k1
      show DOk C _ g1 F1 ((lvl c m).S body r1)
      have nxt : ∀ {r3 : Env}, DOk C D g1 F1 ((lvl c m).Wh t body r3) → ∀ g4 F4 σ4, Go g1 F1 g4 F4 → RE C.Z C.B C.T g4 r3 σ4 F4 → ∃ (g' : Sg) (F' : Fp) (r' : Env), g'.H = g4.H ∧ RE C.Z C.B C.T g' r' σ4 F' ∧ m ≤ n ∧ DOk C D g' F' ((lvl c m).Wh t body r') := fun {r3} hd g4 F4 σ4 t4 re4 =>
        ⟨g4, F4, r3, rfl, re4, by omega, hd.mono t4⟩
      cases eb : (lvl c m).S body r1 with
      | nx r3 => simp only [eb] at k1; exact fun g4 F4 σ4 t4 re4 => nxt k1 g4 F4 σ4 t4 re4
      | ct r3 => simp only [eb] at k1; exact fun g4 F4 σ4 t4 re4 => nxt k1 g4 F4 σ4 t4 re4
      | bk r3 => simp only [eb] at k1; exact fun g4 F4 σ4 t4 re4 => k1 g4 F4 σ4 t4 re4
      | rt w3 r3 => simp only [eb] at k1; exact k1
      | ex x3 r3 => simp only [eb] at k1; exact k1
      | bad => simp only [eb] at k1; exact k1
/-- name = [..] on one line; b: a list that is owned -/
def lcS (bo : Bool) (i : Nat) (m : Env → Res (List W)) : Env → SRes := fun r => (m r).toS fun ws r1 => match setV r1 i (if bo then .l (ws.map U.d) else .d (.lis ws)) with
    | some r2 => .nx r2
    | none => .bad
theorem ss_lc {bo : Bool} {i : Nat} {y : Str} {py spos : Pos} {elt tg iter : Expr} {ifs : List Expr} {scope : Scope} {own : List (Str × Nat)} {ig : IG} {mi : Env → Res Wk} {mt : Option (Env → Res Bool)} {me : Env → Res W} (hc : C.X.calm = true) (hN : C.X.N.Nodup) (hy : C.X.N[i]? = some y) (hyl : C.X.env.scope.names.lookup y = some .local)
    (hsw : swapsWith (.ListComp elt [⟨tg, iter, ifs, 0⟩] scope pos) (some (.Name y py)) spos.line C.X.env = pure true) (hi : SI C tg iter mi) (ok : BlkOk C.X.N C.X.env.scope scope own)
    (hg : ∀ s H c cl fp, SG (C.blk scope s H c cl fp) tg ig) (ht : TestOk C scope ifs mt) (he : ∀ s H c cl fp, SE (C.blk scope s H c cl fp) elt me) (hs : ∀ x, foldedSetIterable iter C.X.env x = pure x) (ho : ∀ i ∈ slotsG ig, i ∈ own.map (·.2)) :
    SS C (.Assign [.Name y py] (.ListComp elt [⟨tg, iter, ifs, 0⟩] scope pos) spos) (lcS bo i (lcM me ig (own.map (·.2)) mi mt)) := by
  obtain ⟨ti, pi, ii⟩ := hi
  obtain ⟨tg_, pg, ig_⟩ := blk_g hg
  obtain ⟨tt, pt, it⟩ := blk_ts ht
  obtain ⟨te, pe, ie⟩ := blk_e he
  refine ⟨_, ps_setLc hc hN hy hyl hsw pi ok pg pt pe hs, fun g r σ F D re dk => ?_⟩
  refine lc_imp ii ig_ it ie ho g r σ F _ re (DOk.seq0 (show DOk C D g F ((lcM me ig (own.map (·.2)) mi mt r).toS _) from dk) fun ws r1 g1 F1 t1 re1 k1 v fp o x s => ?_)
  cases hb : setV r1 i (if bo then U.l (ws.map U.d) else U.d (.lis ws)) with
  | none => simp only [hb] at k1; exact False.elim k1
  | some r2 =>
    simp only [hb] at k1
    obtain ⟨rfl, hlt⟩ := setV_eq hb
    cases bo with
    | true => exact k1 g1 _ _ (Go.bind re1 t1 s) (re1.bind (u := .l (ws.map U.d)) hlt o x)
    | false =>
      have al : ∀ a ∈ fp, ∃ o, g1.H a = some o := fun a ma => let ⟨o, q, _⟩ := o.mu ma; ⟨o, q⟩
      obtain ⟨re2, kp⟩ := re1.frz x al
      have rv := o.fz kp fun a ma => ⟨.inr ma, rfl⟩
      have ef : FM.fz (.l (ws.map U.d)) = .lis ws := by
        have : ∀ ws : List W, fzs (ws.map U.d) = ws := by
          intro ws
          induction ws with
          | nil => rfl
          | cons w ws ih => simp only [List.map_cons, fzs, ih, FM.fz]
        simp only [FM.fz, this]
      rw [ef] at rv
      exact k1 ⟨g1.H, fun a => g1.L a ∨ a ∈ fp⟩ _ _ ((t1.frz s).trans (Go.set (fp := []) fun _ m => nomatch m)) (re2.bind (u := .d (.lis ws)) hlt ⟨rfl, rv⟩ tmp_nil)
end
end FM


set_option Elab.async false
set_option linter.all false
set_option maxRecDepth 100000
set_option maxHeartbeats 2000000
/-! An own exception class: __init__(self, f): super().__init__(f); self.f = f -/
namespace PySem
namespace OwnX
open PySem.W PySem.Calls PyProof.Rows PySem.HandSPX

def iA (f : Str) (p1 p2 : Pos) : Arguments := { posonlyargs := [], args := [{ arg := "self", annotation := none, pos := p1 }, { arg := f, annotation := none, pos := p2 }], vararg := none, kwonlyargs := [], kw_defaults := [], kwarg := none, defaults := [] }
def iB (f : Str) (q1 q2 q3 q4 q5 q6 q7 q8 q9 q10 : Pos) : List Stmt :=
  [.Expr (.Call (.Attribute (.Call (.Name "super" q1) [] [] q2) "__init__" q3) [.Name f q4] [] q5) q6, .Assign [.Attribute (.Name "self" q7) f q8] (.Name f q9) q10]
/-- what a built-in base must say -/
structure BaseX (B newId initId : String) (bmB : List Value) : Prop where
  fb : ExcBaseFacts B newId initId bmB
  sf : StoreFacts B bmB "object.__setattr__" "object"
  kf : KxsFacts B initId
/-- what the written part says of a class at C, and of its __init__, at fI; n its name, f its field -/
structure XTxt (P : Program) (K : Frag) (mg : Str → Option Value) (n f : Str) (C fI : Addr) (sc : Scope) (ar : Arguments) (bd : List Stmt) (B newId initId : String) (bmB : List Value) : Prop where
  bx : BaseX B newId initId bmB
  gC : mg n = some (.ref C)
  cls : excInitIn K C bmB newId = true
  ov : excOver K C bmB = true
  hdC : hasDictIn K C = true
  sa : findIn K (.ref C) "__setattr__" = some (some (.builtin "object.__setattr__"))
  ga : findIn K (.ref C) "__getattribute__" = some (some (.builtin "BaseException.__getattribute__"))
  gg : findIn K (.ref C) "__getattr__" = some none
  noN : findIn K (.ref C) f = some none
  tk : takerIn K C f = some none
  iC : findIn K (.ref C) "__init__" = some (some (.ref fI))
  tC : isFn K (.ref fI) = true
  kC : keepIn K (.ref C) = true
  exC : subIn K (.ref C) (.type "BaseException") = some true
  exB : subIn K (.ref C) (.type B) = some true
  slf : mroIn K C (.ref C) = some true
  tyC : typeIn K (.ref C) = some (.type "type")
  th : nsIn K cStatics "thirdparty.any" = some none
  su : mg "super" = none
  sI : ks_superIn K C C "__init__" = some (some (.builtin initId))
  fn : ∃ (oc : Value) (od : Option Addr) (q : Str) (doc pm : Value) (an : Option Addr) (cda cc : Addr) (ct : Value) (osl : Array (Option Value)),
    K.lookup fI = some ⟨oc, od, .func (ksFn "__init__" q ar bd sc .none .none doc pm an (.ref cda) ct cc), osl⟩ ∧ codeIn K (.ref cda) q = true ∧
    (∃ ccl cdd vs ccs file tf, K.lookup cda = some ⟨ccl, cdd, .fields vs, ccs⟩ ∧ vs[2]? = some (.str file tf) ∧ ((P.main.file : Str) == file) = true) ∧
    ∃ cl cld csl, K.lookup cc = some ⟨cl, cld, .cell (some (.ref C)), csl⟩
  top : (P.main.scope.names.lookup ("super" : Str)).isSome = false
  arg : ∃ p1 p2, ar = iA f p1 p2
  bod : ∃ q1 q2 q3 q4 q5 q6 q7 q8 q9 q10, bd = iB f q1 q2 q3 q4 q5 q6 q7 q8 q9 q10 ∧ (q3.endLine == q5.line) = true
  bi : ∀ (q : Str) (doc pm : Value) (an : Option Addr) (cdv ct : Value) (cc : Addr) (x v : Value), bindArgs (ksFn "__init__" q ar bd sc .none .none doc pm an cdv ct cc) ⟨[x, v], []⟩ = pure [(("self" : Str), x), (f, v)]
  fne : f ≠ "self" ∧ (f == ("__debug__" : Str)) = false
  sk : sc.kind = .function
  sco : sc.isCoroutine = false
  sge : sc.isGenerator = false
  ssu : sc.names.lookup ("super" : Str) = some .globalImplicit
  scl : sc.names.lookup ("__class__" : Str) = some .free
  sse : sc.names.lookup ("self" : Str) = some .local
  sfl : sc.names.lookup f = some .local
  snc : ∀ x ∈ sc.names, x.2 ≠ .cell
theorem one_size (v : Value) : [v].length ≤ sizeLine := by
  rw [sizeLine_eq]
  exact (by decide : 1 ≤ 16777216)
/-- what __init__ leaves of a fresh exception at x -/
structure InitEnd (h h' : Heap) (x C dx t1 : Addr) (f : Str) (v : Value) : Prop where
  keep : ∀ b o, b ≠ x → h.get? b = some o → h'.get? b = some o
  obj : h'.get? x = some { cls := .ref C, dict := some dx, data := .fields #[.ref t1, .none, .none, .none, .bool false, .none] }
  dbig : h.objs.size ≤ dx
  dne : dx ≠ x
  ns : h'.Ns1 dx (fun y => if y = f then some v else none)
/-- one made -/
structure OwnMade (h h' : Heap) (e C d : Addr) (f : Str) (v : Value) : Prop where
  keep : ∀ b o, h.get? b = some o → h'.get? b = some o
  new : h.objs.size ≤ e
  obj : ∃ oe vs, h'.get? e = some oe ∧ oe.cls = .ref C ∧ oe.dict = some d ∧ oe.data = .fields vs ∧ vs[1]? = some .none
  dbig : h.objs.size ≤ d
  dne : d ≠ e
  ns : h'.Ns1 d (fun y => if y = f then some v else none)
section
variable {prog : Program} {w : World} {A : Around} {E : Value → Shared → Prop} {R : Result → Shared → Prop} {s : Shared} {K : Frag} {mg : Str → Option Value} {n f : Str} {C fI : Addr} {sc : Scope} {ar : Arguments} {bd : List Stmt} {B newId initId : String} {bmB : List Value}
/-- super().__init__(..) called -/
theorem call_mw (FB : ExcBaseFacts B newId initId bmB) (X : K.In s.heap) (q : excInitIn K C bmB newId = true) {u e t0 : Addr} {rest : List Value} {Q : Value → Shared → Prop}
    (he : s.heap.get? e = some (excO C t0)) (hu : s.heap.get? u = some (kxs_mw initId e)) (hrest : rest.length ≤ sizeLine)
    (hq : ∀ h' t1, (∀ b o, b ≠ e → s.heap.get? b = some o → h'.get? b = some o) → h'.get? e = some (excO C t1) → Q .none { s with heap := h' }) :
    wpAny (model prog w) A (call (.ref u) rest) Q E s := by
  obtain ⟨nm, N', qn, bs, bm, hdct, sn, sub, ab, col, dd, k0, k1, k2, k3, k5, hC, hT⟩ := excInit_of X q
  obtain ⟨hh, g, d, tk, os⟩ := s
  refine wpAny_call (codeAny_of_tree ?_)
  show wpAny _ A.in1 (callAny (.ref u) ⟨rest, []⟩) _ _ _
  simp only [callAny]
  refine wpAny_bind (wpAny_load hu ?_)
  simp only [kxs_mw, show (Value.type "method-wrapper" == Value.type "method" || Value.type "method-wrapper" == Value.type "builtin_function_or_method" || Value.type "method-wrapper" == Value.type "method-wrapper") = true by decide, if_true]
  refine KFB.if_so (by decide) ?_
  refine wpAny_bind (check_bound_init FB.toExcCallFacts hC he rfl ?_)
  refine wpAny_bind (wpAny_pure (wpAny_pure ?_))
  refine ⟨plainId_quiet FB.init.plain _, codeAny_builtin FB.initEntry ?_⟩
  exact exc_init_tree (cls := .ref C) (t0 := t0) (dv := none) (c2 := .none) (c3 := .none) (b4 := .bool false) he hrest fun h' k e' t' => hq h' _ k e'
theorem osa0 {x : Addr} {fv : Array Value} {name : Str} {tk : Tok} {v : Value} (SF : StoreFacts B bmB "object.__setattr__" "object") (X : K.In s.heap) (hx : s.heap.get? x = some { cls := .ref C, data := .fields fv }) (hp : excOver K C bmB = true) (ht : takerIn K C name = some none) (hh : hasDictIn K C = true)
    (hq : ∀ h' tk' dx, (∀ b o, b ≠ x → s.heap.get? b = some o → h'.get? b = some o) → s.heap.objs.size ≤ dx → dx ≠ x → h'.get? x = some { cls := .ref C, dict := some dx, data := .fields fv } →
      h'.Ns1 dx (fun y => if y = name then some v else none) → R (.ok (.ret .none)) { s with heap := h', toks := tk' }) :
    codeAny (model prog w) A (.call (.builtin "object.__setattr__") ⟨[.ref x, .str name tk, v], []⟩) R s := by
  obtain ⟨hp', g, d, t, os⟩ := s
  have hxs : x ≠ hp'.objs.size := Nat.ne_of_lt (Heap.lt_size hx)
  refine osa_openX (od := none) SF X ⟨hx, rfl, rfl, trivial⟩ hp ht fun b => ?_
  obtain ⟨cd, hc, hd'⟩ := any_some hh
  have hcls : W.Looks (model prog w) hp' (classData C) cd := W.looks_clsIn X hc
  obtain ⟨nm, bs, mro, ns, qn, hd, sn, sb, ab, col, del⟩ := cd
  dsimp only at hd'
  subst hd'
  show wpAny _ _ (Builtin.ObjectAttr.storeInOwnDict (.ref x) (.ref C) (.str name tk) name v b) _ _ _
  unfold Builtin.ObjectAttr.storeInOwnDict Builtin.ObjectAttr.ownDictForStores
  repeat (first | with_reducible refine HandSPX.store_in_new ?_ ?_ | with_reducible refine wpAny_loadPart_at hx ?_ | with_reducible refine hcls.at ?_ | wp_step)
  · exact ⟨_, #[], _, (Heap.get?_update_ne _ _ _ _ hxs.symm).trans (Heap.get?_push_at rfl rfl), rfl, fun e he => absurd he (by simp), fun _ => rfl⟩
  · intro h' tk' hn' hs
    have hx₁ : (hp'.push { cls := .type "dict", data := .dict #[] }).get? x = some { cls := .ref C, data := .fields fv } := Heap.get?_push_of_some _ hx
    refine hq h' tk' hp'.objs.size (fun b o hb ho => ?_) (Nat.le_refl _) hxs.symm ?_ hn'
    · exact (hs.2 b (Nat.ne_of_lt (Heap.lt_size ho))).trans ((Heap.get?_update_ne _ _ _ _ hb).trans (Heap.get?_push_of_some _ ho))
    · exact (hs.2 x hxs).trans (Heap.get?_update_self _ hx₁ rfl)
end
end OwnX
end PySem


set_option Elab.async false
set_option linter.all false
set_option maxRecDepth 100000
set_option maxHeartbeats 2000000
namespace PySem
namespace OwnX
open PySem.W PySem.Calls PyProof.Rows PySem.HandSPX
section
variable {prog : Program} {w : World} {A : Around} {E : Value → Shared → Prop} {R : Result → Shared → Prop} {s : Shared} {K : Frag} {mg : Str → Option Value} {n f : Str} {C fI : Addr} {sc : Scope} {ar : Arguments} {bd : List Stmt} {B newId initId : String} {bmB : List Value}
theorem own_init (T : XTxt prog K mg n f C fI sc ar bd B newId initId bmB) {x t0 : Addr} {v : Value} (X : K.In s.heap) (hlim : s.heap.NoLimit) (G : s.heap.Ns mainGlobals mg) (Bl : ∃ mb, s.heap.Ns builtinsNs mb ∧ ∀ x : Str, x ≠ "__name__" → mb x = bootBuiltins x)
    (hx : s.heap.get? x = some (excO C t0)) (hnx : K.lookup x = none) (hroom : A.depth < recursionLimit)
    (hq : ∀ h' tk dx t1, InitEnd s.heap h' x C dx t1 f v → R (.ok (.ret .none)) { s with heap := h', toks := tk }) :
    codeAny (model prog w) A (.call (.ref fI) ⟨[.ref x, v], []⟩) R s := by
  obtain ⟨oc, od, q, doc, pm, an, cda, cc, ct, osl, ho, hcd, ⟨ccl, cdd, vs, ccs, file, tf, hcode, hvs, hfile⟩, cl, cld, csl, hcell⟩ := T.fn
  obtain ⟨p1, p2, rfl⟩ := T.arg
  obtain ⟨q1, q2, q3, q4, q5, q6, q7, q8, q9, q10, rfl, hln⟩ := T.bod
  obtain ⟨mb, hmb, hbt⟩ := Bl
  have I0 : InstAt s.heap x (excO C t0) C none := ⟨hx, rfl, rfl, trivial⟩
  obtain ⟨cdC, hcC, _⟩ := any_some T.hdC
  obtain ⟨oD, hD1, hD2⟩ : ∃ oD, s.heap.get? C = some oD ∧ oD.data = .cls cdC := by
    have hc := hcC
    unfold clsIn at hc
    split at hc
    · rename_i c d cd' sl hoo
      cases hc
      exact ⟨_, X _ _ hoo, rfl⟩
    · cases hc
  have hxC : x ≠ C := ks_ne X I0 hcC
  have hfs : (f == ("self" : Str)) = false := by simpa using T.fne.1
  refine ks_codeAny_call_defAt (fd := ksFn "__init__" q (iA f p1 p2) (iB f q1 q2 q3 q4 q5 q6 q7 q8 q9 q10) sc .none .none doc pm an (.ref cda) ct cc) (body := iB f q1 q2 q3 q4 q5 q6 q7 q8 q9 q10) (binds := [("self", .ref x), (f, v)])
    hroom (X _ _ ho) rfl hlim (codeRec_of X hcd) rfl (BindsTo.of_eq (T.bi _ _ _ _ _ _ _ _ _)) T.snc (fun y hy => ?_) (fun h₁ hns k₁ => ?_) T.sco T.sge T.sk
  · simp only [List.mem_cons, List.not_mem_nil, or_false] at hy
    rcases hy with rfl | rfl
    · exact T.sse
    · exact T.sfl
  have X₁ : K.In h₁ := X.keeps k₁
  obtain ⟨hp, g, d, t, os⟩ := s
  have vself : (fun y => List.lookup y ([((("self" : Str)), (Value.ref x)), (f, v)] : List (Str × Value)).reverse) "self" = some (.ref x) := by
    show List.lookup ("self" : Str) [(f, v), (("self" : Str), Value.ref x)] = _
    have e : (("self" : Str) == f) = false := by
      rw [beq_eq_false_iff_ne]
      exact fun z => T.fne.1 z.symm
    rw [List.lookup_cons, e]
    simp [List.lookup]
  have vf : (fun y => List.lookup y ([((("self" : Str)), (Value.ref x)), (f, v)] : List (Str × Value)).reverse) f = some v := by
    show List.lookup f [(f, v), (("self" : Str), Value.ref x)] = _
    simp [List.lookup]
  show wpAt _ _ _ (execs (_ :: _) _) _ _ _
  refine ks_wpAt_execs_cons (ks_wpAt_Expr_any (ks_wpAt_MethodCall (pl := ?pl) ?_ ?he) ?_ ?_)
  case he =>
    show (do
      let ov ← attributeBase (.Call (.Name "super" q1) [] [] q2) "__init__" (ksEnv q sc hp.objs.size fI (.ref cda) cc) (eval (.Call (.Name "super" q1) [] [] q2) (ksEnv q sc hp.objs.size fI (.ref cda) cc))
      standAt q3.atName
      methodCall (.Call (.Name "super" q1) [] [] q2) "__init__" q3 q5 (ksEnv q sc hp.objs.size fI (.ref cda) cc) ov 1 (backTo q5 (starEach [.Name f q4] (ksEnv q sc hp.objs.size fI (.ref cda) cc))) []) = _
    unfold methodCall methodCallPos
    simp only [hln, Bool.or_true, if_true]
    rfl
  · refine ks_wpAt_super_base (env := ksEnv q sc hp.objs.size fI (.ref cda) cc) (ar := { arg := "self", annotation := none, pos := p1 }) T.ssu T.scl (by decide +kernel) rfl (X₁ _ _ ho) rfl rfl rfl (X₁ _ _ hcode) rfl hvs hfile T.top ?_
    refine ks_loadName_global T.sk T.ssu (loadGlobal_builtin (env := ksEnv q sc hp.objs.size fI (.ref cda) cc) (G.keeps k₁) T.su (hmb.keeps k₁) ((hbt "super" (by decide)).trans (by kernel_rfl)) ⟨rfl, ?_⟩)
    refine wpAny_loadName_free T.sk T.scl rfl ⟨_, X₁ _ _ hcell, rfl⟩ ?_
    refine wpAny_loadName_local T.sk T.sse hns vself ?_
    refine ks_wpAny_isType_cls (k₁ _ _ hD1) hD2 ⟨rfl, ?_⟩
    refine ks_wpAny_call_super (k₁ _ _ hD1) hD2 (k₁ _ _ hx) rfl (fun c e => by cases e) (looks_mroIn X₁ T.slf) (fun h₂ e₂ k₂ => ?_)
    have X₂ : K.In h₂ := X₁.keeps k₂
    have hx₂ := k₂ _ _ (k₁ _ _ hx)
    have I₂ : InstAt h₂ x (excO C t0) C none := ⟨hx₂, rfl, rfl, trivial⟩
    have hI : Looks (model prog w) h₂ (isInstance (.ref x) (.type B)) true := I₂.type.andThen (looks_subIn X₂ T.exB)
    have hm := T.sI
    unfold ks_superIn at hm
    rw [hcC] at hm
    refine kxs_getMethod T.bx.kf e₂ (looks_opaque X₂ T.th) (l₀ := cdC.mro) (fun A Q E s k q => wpAny_bind ((looks_clsIn X₂ hcC) A _ E s k (wpAny_pure q))) rfl X₂ hm hI hxC (by decide +kernel) ?_
    refine kxs_callWith (i := initId) (x := x) rfl ?_
    refine evalArgs_plain (spliced_cons ?_)
    have gb : ∀ b o, hp.get? b = some o → h₂.get? b = some o := fun b o z => k₂ b o (k₁ b o z)
    have k₃ : ∀ b o, h₂.get? b = some o → (h₂.push (kxs_mw initId x)).get? b = some o := fun b o z => Heap.get?_push_of_some _ z
    refine wpAny_Name (wpAny_loadName_local T.sk T.sfl ((hns.keeps k₂).keeps k₃) vf ?_) T.fne.2
    refine spliced_nil ⟨(show (h₂.push (kxs_mw initId x)).get? h₂.objs.size = some (kxs_mw initId x) from Heap.get?_push_at rfl rfl), ?_⟩
    show wpAny _ _ (call (.ref h₂.objs.size) [v]) _ _ _
    refine call_mw T.bx.fb (X₂.keeps k₃) T.cls (k₃ _ _ hx₂) (show (h₂.push (kxs_mw initId x)).get? h₂.objs.size = some (kxs_mw initId x) from Heap.get?_push_at rfl rfl) (one_size v) fun h₄ t1 k₄ hx₄ => ?_
    have X₄ : K.In h₄ := fun b o e => k₄ b o (fun z => by rw [z, hnx] at e; cases e) (k₃ _ _ (X₂ _ _ e))
    have hL : hp.objs.size ≠ x := Nat.ne_of_gt (Heap.lt_size hx)
    have hns₄ : h₄.Ns hp.objs.size _ := ((hns.keeps k₂).keeps k₃).at (fun o z => k₄ _ _ hL z)
    refine wpAt_of_wpAny ?_
    refine wpAny_execs_cons (plainObj_wpAny_Assign_Attribute ?_)
    refine wpAny_Name (wpAny_loadName_local T.sk T.sfl hns₄ vf ?_) T.fne.2
    refine wpAny_Name (wpAny_loadName_local T.sk T.sse hns₄ vself ?_) (by decide)
    refine set_plain X₄ (ox := excO C t1) (od := none) ⟨hx₄, rfl, rfl, trivial⟩ T.sa ?_
    refine osa0 T.bx.sf X₄ hx₄ T.ov T.tk T.hdC (fun h₅ tk₅ dx k₅ dn dne hx₅ hn₅ => ?_)
    have z : hp.objs.size ≤ h₄.objs.size := Nat.le_of_lt hns₄.lt
    exact wpAny_execs_nil (hq h₅ tk₅ dx t1 ⟨fun b o hb e => k₅ b o hb (k₄ b o hb (k₃ _ _ (gb b o e))), hx₅, Nat.le_trans z dn, dne, hn₅⟩)
  · show (sc.kind == .module && _) = false
    rw [T.sk]
    rfl
  · rfl
theorem own_made (T : XTxt prog K mg n f C fI sc ar bd B newId initId bmB) {v : Value} (X : K.In s.heap) (hlim : s.heap.NoLimit) (G : s.heap.Ns mainGlobals mg) (Bl : ∃ mb, s.heap.Ns builtinsNs mb ∧ ∀ x : Str, x ≠ "__name__" → mb x = bootBuiltins x) (hroom : A.depth + 1 < recursionLimit)
    (hq : ∀ h' tk e d, OwnMade s.heap h' e C d f v → R (.ok (.ret (.ref e))) { s with heap := h', toks := tk }) :
    codeAny (model prog w) A (.call (.ref C) ⟨[v], []⟩) R s := by
  obtain ⟨nm, N', qn, bs, bm, hdct, sn, sub, ab, col, dd, k0, k1, k2, k3, k5, hC, hT⟩ := excInit_of X T.cls
  obtain ⟨oI, hoI, hcI⟩ : ∃ oI, s.heap.get? fI = some oI ∧ oI.cls = .type "function" := by
    obtain ⟨o, ho, hc⟩ := Option.map_eq_some_iff.mp (show (K.lookup fI).map (·.cls) = some (.type "function") from beq_iff_eq.mp T.tC)
    exact ⟨o, X _ _ ho, hc⟩
  obtain ⟨hp, g, dr, tk, os⟩ := s
  have k : ∀ b o, hp.get? b = some o → ((hp.push (kdv_tup [v])).push (excO C hp.objs.size)).get? b = some o := fun b o e => Heap.get?_push_of_some _ (Heap.get?_push_of_some _ e)
  have hget : ((hp.push (kdv_tup [v])).push (excO C hp.objs.size)).get? (hp.objs.size + 1) = some (excO C hp.objs.size) := by heap_get
  have hnx : K.lookup (hp.objs.size + 1) = none := by
    cases e : K.lookup (hp.objs.size + 1) with
    | none => rfl
    | some o =>
      have z : hp.get? (hp.objs.size + 1) = some o := X _ _ e
      exact absurd (Nat.lt_of_succ_lt (Heap.lt_size z)) (Nat.lt_irrefl _)
  obtain ⟨mb, hmb, hbt⟩ := Bl
  refine call_own T.bx.fb hT hC (looks_findIn X T.iC) (fun self => exc_bind hoI hcI self) (one_size v) ?_
  refine own_init (s := ⟨(hp.push (kdv_tup [v])).push (excO C hp.objs.size), g, dr, tk, os⟩) T (X.keeps k) (hlim.keeps k) (G.keeps k) ⟨mb, hmb.keeps k, hbt⟩ hget hnx ?_ fun h' tk' dx t1 ⟨k', hx, dn, dne, hns⟩ => ?_
  · show A.depth + 1 < recursionLimit
    exact hroom
  · have old : ∀ b o, hp.get? b = some o → h'.get? b = some o := fun b o e => k' b o (Nat.ne_of_lt (Nat.lt_succ_of_lt (Heap.lt_size e))) (k b o e)
    have z : hp.objs.size + 1 + 1 ≤ dx := by
      first
        | (simpa only [Heap.size_push] using dn)
        | exact dn
        | (have q := dn; rw [Heap.size_push, Heap.size_push] at q; exact q)
    exact ⟨rfl, hq h' tk' (hp.objs.size + 1) dx ⟨old, Nat.le_succ _, ⟨_, _, hx, rfl, rfl, rfl, rfl⟩, Nat.le_trans (Nat.le_trans (Nat.le_succ _) (Nat.le_succ _)) z, dne, hns⟩⟩
end
end OwnX
end PySem


set_option Elab.async false
set_option linter.all false
set_option maxRecDepth 100000
set_option maxHeartbeats 2000000
namespace PySem.W
open PySem PySem.Spec PySem.Calls PyProof.Rows
section
variable {prog : Program} {w : World} {A : Around} {E : Value → Shared → Prop} {s : Shared} {K : Frag} {x D : Addr} {ox : Obj} {od : Option Obj}
theorem findObj_dataD {C : Addr} {name : Str} {a g : Value} (hc : (clsIn K C).isSome = true) (ha : findIn K (.ref C) name = some (some a)) (hg : specialIn K a "__get__" = some (some g)) (ht : takesIn K a = some true) : findObj K C od name = some (.bind g a) := by
  obtain ⟨cd, hc⟩ := Option.isSome_iff_exists.mp hc
  unfold findObj
  rw [hc, Option.bind_some, ha, Option.bind_some]
  simp [hg, ht]
theorem kin_classD {Q : Option Value → Shared → Prop} (hga : findIn K (.ref D) "__getattribute__" = some (some (.builtin "BaseException.__getattribute__"))) (hgt : findIn K (.ref D) "__getattr__" = some none) (hsub : subIn K (.ref D) (.type "BaseException") = some true)
    (hdct : hasDictIn K D = true) (ha : findIn K (.ref D) "__class__" = some (some (.builtin "object.__class__")))
    (hn : specialIn K (.builtin "object.__class__") "__get__" = some (some (.builtin "getset_descriptor.__get__"))) (htk : takesIn K (.builtin "object.__class__") = some true) (hm : mroIn K D (.type "object") = some true)
    (X : K.In s.heap) (I : InstAt s.heap x ox D od) (h : Q (some (.ref D)) { s with toks := s.toks + 1 }) : wpAny (model prog w) A (getAttr? (.ref x) "__class__") Q E s := by
  have hf : findObj K D od "__class__" = some (.bind (.builtin "getset_descriptor.__get__") (.builtin "object.__class__")) := findObj_dataD (by obtain ⟨cd, hc, _⟩ := any_some hdct; rw [hc]; rfl) ha hn htk
  obtain ⟨hp, g, d, t, os⟩ := s
  have L0 := I.type (M := model prog w)
  have L1 := looks_findIn (M := model prog w) X hga
  have L2 := looks_findIn (M := model prog w) X hgt
  have L3 := looks_find (M := model prog w) X I hf
  have sub : Looks (model prog w) hp (isInstance (.ref x) (.type "BaseException")) true := L0.andThen (looks_subIn X hsub)
  have hx0 : (false && onTheHeap (Value.builtin "BaseException.__getattribute__")) = false := rfl
  have hx2 : (Value.builtin "BaseException.__getattribute__" == Value.builtin "object.__getattribute__") = false := by decide +kernel
  have hx1 : (onTheHeap (Value.ref D) && Value.builtin "BaseException.__getattribute__" == Value.builtin "object.__getattribute__") = false := by rw [hx2]; rfl
  unfold getAttr? getAttrBy? getAttrBy
  refine wpAny_bind (wpAny_mkText (wpAny_bind (wpAny_attempt (wpAny_holding (wpAny_bind (L0.at (wpAny_bind (L1.at ?_))))))))
  show wpAny _ _ (if (onTheHeap (Value.ref D) && Value.builtin "BaseException.__getattribute__" == Value.builtin "object.__getattribute__") = true then _ else _) _ _ _
  rw [hx1, if_neg Bool.false_ne_true]
  unfold getAttrByItsOwn hookBefore
  refine wpAny_bind ?_
  rw [if_pos (show onTheHeap (Value.ref D) = true from rfl)]
  refine L2.at ?_
  refine wpAny_bind (wpAny_attempt (wpAny_holding ?_))
  unfold callGetattribute
  rw [hx0, if_neg Bool.false_ne_true]
  unfold boundAndCalled
  rw [PySem.F.excAttr_ValueError.ga.bind (.ref x)]
  refine wpAny_bind (wpAny_pure ?_)
  show wpAny _ _ (call (.builtin "BaseException.__getattribute__") [.ref x, .str "__class__" t]) _ _ _
  refine wpAny_call (codeAny_call_builtin PySem.F.excAttr_ValueError.ga.plain PySem.F.entry_bexc_ga ?_)
  refine @check_slot (model prog w) _ _ ⟨hp, g, d, t + 1, os⟩ "BaseException.__getattribute__" "BaseException" "__getattribute__" (.ref x) [.str "__class__" t] [] _ (by decide +kernel) (by decide +kernel) sub (PySem.F.args_bexc_ga (.ref x) (.str "__class__" t)) ?_
  unfold Builtin.«object.__getattribute__»
  refine wpAny_bind (wpAny_of_eq (a := ((Value.ref x : Value), [Value.str "__class__" t])) (by first | rfl | (simp only [slotArgs]; rfl)) ?_)
  refine wpAny_bind (wpAny_pure (wpAny_bind (L0.at (wpAny_bind (L3.at ?_)))))
  show wpAny _ _ (holding [Value.builtin "object.__class__"] (call (.builtin "getset_descriptor.__get__") [.builtin "object.__class__", .ref x, .ref D]) >>= ret) _ _ _
  refine wpAny_bind (wpAny_holding (wpAny_call (class_get (s := ⟨hp, g, d, t + 1, os⟩) (ox := ox) (od := od) X I hm ?_)))
  refine wpAny_pure ?_
  show wpAny _ _ (handedOut (.ref D)) _ _ _
  rw [handedOut_of (v := .ref D) rfl]
  first
    | exact wpAny_pure (wpAny_pure h)
    | exact wpAny_pure h
    | exact wpAny_pure (wpAny_bind (wpAny_pure (wpAny_pure h)))
theorem kitx_excD (C : L2.ExcC K D) : KitX K (.ref x) (.ref D) (fun h => InstAt h x ox D od) where
  ty := fun _ _ _ I => I.type
  it := fun _ _ X _ => by
    obtain ⟨cdD, hcD, _⟩ := any_some C.hd
    unfold clsIn at hcD
    split at hcD
    · rename_i c' d' cd' sl' ho
      intro A' Q' E' s' k q
      unfold isType loadHead
      exact wpAny_bind (wpAny_loadPart (k _ _ (X _ _ ho)) (wpAny_pure q))
    · cases hcD
  ne := fun h tp dd its n sl X htp => by
    obtain ⟨cdD, hcD, _⟩ := any_some C.hd
    refine Bool.eq_false_iff.mpr fun q => ?_
    have e : D = tp := Value.ref.inj (beq_iff_eq.mp q)
    subst e
    unfold clsIn at hcD
    split at hcD
    · rename_i c' d' cd' sl' ho
      have z := (X _ _ ho).symm.trans htp
      cases z
    · cases hcD
  ca := fun X I k => kin_classD C.hg C.hk C.hs C.hd C.ha C.hn C.ht C.hm X I k
end
end PySem.W
namespace L2
open PySem PySem.Spec PyProof.Rows PySem.OwnX
theorem relO_own {f : Str} {v : V} {v' : Value} (r : RelV v v') (y : Str) : RelO (List.lookup y [(f, v)]) (if y = f then some v' else none) := by
  by_cases hw : y = f
  · subst hw
    rw [if_pos rfl]
    have q : List.lookup y [(y, v)] = some v := by simp [List.lookup]
    rw [q]
    exact r
  · rw [if_neg hw]
    have qw : (y == f) = false := by simpa using hw
    have q2 : List.lookup y [(f, v)] = none := by simp [List.lookup, qw]
    rw [q2]
    trivial
section
variable {X : Cx} {n f : Str} {C fI : Addr} {sc : Scope} {ar : Arguments} {bd : List Stmt} {B newId initId : String} {bmB : List Value}
/-- Cls(e) -/
def tMkOwn (C : Addr) (f : Str) (te : TE) : St → Hp → XK → Prop := fun σ H Q => te σ H fun v H1 => ∀ d, H1 d = none → Q (.ref C) (some d) (upd H1 d (.xd [(f, v)]))
theorem pmk_ownF {a : Expr} {te : TE} {p pos : Pos} {k : Nat} (T : XTxt X.prog X.K X.mg n f C fI sc ar bd B newId initId bmB) (hr : Room k X.A) (ha : PE X a te) (hg : Gl X n) (hdb : (n == ("__debug__" : Str)) = false)
    (he : starEach (a :: []) X.env = (false, eval a X.env) :: starEach [] X.env) :
    PMk X (.Call (.Name n p) [a] [] pos) (tMkOwn C f te) := by
  intro pins s σ H Q I h
  refine wpAny_Call_Name_kw (ld_glob I hg T.gC ?_ hdb)
  refine PySem.W.callWith_K (h₀ := X.base) I.ok.mod.kin T.kC (thn ((pa_cons ha pa_nil he).run pos pins s σ H (fun vs H1 => match vs with | [v] => ∀ d, H1 d = none → Q (.ref C) (some d) (upd H1 d (.xd [(f, v)])) | _ => False) I h) fun us s1 hh => ?_) he rfl
  obtain ⟨vs, H1, I1, r1, q1⟩ := hh
  refine ⟨I1.kIn, ?_⟩
  cases r1 with
  | nil => exact q1.elim
  | cons rv rn =>
    rename_i v v' vs' us'
    cases rn with
    | cons _ _ => exact q1.elim
    | nil =>
    have q1 : ∀ d, H1 d = none → Q (.ref C) (some d) (upd H1 d (.xd [(f, v)])) := q1
    show wpAny _ _ (call (.ref C) [v']) _ _ _
    have hlim := I1.nolimit
    have hglob : s1.heap.Ns mainGlobals X.mg := I1.mod.glob.keeps I1.bk
    obtain ⟨mb, hb1, hb2⟩ := I1.mod.blt
    obtain ⟨hp, g, dr, tk, os⟩ := s1
    refine wpAny_call (own_made T I1.kIn hlim hglob ⟨mb, hb1.keeps I1.bk, hb2⟩ (by have := hr.dp; omega) fun h' tk' e d M => ?_)
    show MkP X pins σ Q (.ref e) ⟨h', g, dr, tk', os⟩
    obtain ⟨oe, fv, hoe, hc, hd, hdat, h1⟩ := M.obj
    have hns := M.ns
    obtain ⟨G', g1, g2⟩ := restrict h' fun b => decide (b ≠ e)
    have gk : ∀ b, b ≠ e → G'.get? b = h'.get? b := fun b hb => g1 b (decide_eq_true hb)
    have ge : G'.get? e = none := g2 e (by simp)
    have old : ∀ b o, hp.get? b = some o → G'.get? b = some o := fun b o q => (gk b (Nat.ne_of_lt (Nat.lt_of_lt_of_le (Heap.lt_size q) M.new))).trans (M.keep b o q)
    have ob : ObjOk X.prog X.w (upd H1 d (.xd [(f, v)])) G' d (.xd [(f, v)]) :=
      ⟨_, hns.at (fun o q => (gk d M.dne).trans q), fun y => relO_own rv y⟩
    have J : Inv X pins σ (upd H1 d (.xd [(f, v)])) ⟨G', g, dr, tk', os⟩ := I1.laid (t' := tk') old M.dbig ob
    refine ⟨e, oe, fv, ⟨G', g, dr, tk', os⟩, _, .ref C, some d, rfl, J, fun b o q => ?_, ge, hoe, ⟨hc, hd⟩, hdat, h1, ?_, rfl, I1.bare, raises_own T.exC T.tyC, q1 d (I1.hok.fresh M.dbig)⟩
    · by_cases hb : b = e
      · have q' : G'.get? b = some o := q
        rw [hb, ge] at q'; cases q'
      · exact (gk b hb).symm.trans q
    · rw [upd_ne (Ne.symm M.dne)]
      exact I1.hok.fresh M.new
/-- e.f, e the exception that the suite holds (at a; its class cls, its dict d) -/
def tByOwn (f : Str) (a : Addr) (dd : Addr) (te : TE) : TE := fun σ H Q => te σ H fun x H1 => x = .ref a ∧ ∃ (v : V), H1 dd = some (.xd [(f, v)]) ∧ Q v H1
theorem pe_byOwn {a dd : Addr} {oe : Obj} {pn : List (Addr × Obj)} {e : Expr} {te : TE} {pos : Pos} (ga : PySem.W.findIn X.K (.ref C) "__getattribute__" = some (some (.builtin "BaseException.__getattribute__"))) (gg : PySem.W.findIn X.K (.ref C) "__getattr__" = some none) (exC : PySem.W.subIn X.K (.ref C) (.type "BaseException") = some true) (hdC : PySem.W.hasDictIn X.K C = true) (noN : PySem.W.findIn X.K (.ref C) f = some none)
    (hz : Zc (.ref C) (some dd) oe) (hf : ∃ vs, oe.data = .fields vs) (he : PE (X.suite a ((a, oe) :: pn)) e te)
    (hb : attributeBase e f X.env (eval e X.env) = eval e X.env) :
    PE (X.suite a ((a, oe) :: pn)) (.Attribute e f pos) (tByOwn f a dd te) := by
  refine ⟨fun pins s σ H Q I h => ?_⟩
  refine attr_of hb (thn (he.run pins s σ H _ I h) fun u s1 hh => ?_)
  obtain ⟨x, H1, I1, rx, ex, v, ea, q⟩ := hh
  subst ex
  obtain rfl : u = Value.ref a := rx
  obtain ⟨ha, _⟩ := I1.pin (a, oe) (List.mem_append_left _ List.mem_cons_self)
  obtain ⟨vs, hd⟩ := hf
  have hx : ObjOk X.prog X.w H1 s1.heap dd (.xd [(f, v)]) := I1.hok dd _ ea
  obtain ⟨mA, hns, hr⟩ := hx
  obtain ⟨od, ho, hl⟩ := lookIn_ns hns
  have l : List.lookup f [(f, v)] = some v := by simp [List.lookup]
  obtain ⟨u, hu, ru⟩ := RelO.some_of (v := v) (o := mA f) (by rw [← l]; exact hr f)
  have J : PySem.W.InstAt s1.heap a oe C (some od) := ⟨ha, hz.1, by unfold PySem.W.notCls; rw [hd] <;> rfl, by rw [hz.2]; exact ho⟩
  exact HandSPX.exc_get I1.kIn J ga gg exC (PySem.W.findObj_own hdC noN rfl (by rw [hl, hu])) (handed_of ru) ⟨v, H1, I1.tok _, ru, q⟩
/-- isinstance(e, c), e the exception that the suite holds, with a dict of its own -/
def rIsD (K : PySem.W.Frag) (D a dd : Addr) : List V → Hp → VK → Prop := fun xs H Q => ∃ (c : V) (cv : Value) (b : Bool) (fs : List (Str × V)), xs = [.ref a, c] ∧ (∀ u, RelV c u → u = cv) ∧ PySem.W.kitOne K (.ref D) cv = some b ∧ H dd = some (.xd fs) ∧ Q (.bl b) H
theorem call_isD {a D dd : Addr} {oe : Obj} {pn : List (Addr × Obj)} (C : ExcC X.K D) (hz : Zc (.ref D) (some dd) oe) (hf : ∃ vs, oe.data = .fields vs) : CallR (X.suite a ((a, oe) :: pn)) (.builtin "isinstance") (rIsD X.K D a dd) := by
  intro pins s σ H xs us Q I r h
  obtain ⟨c, cv, b, fs, rfl, hcv, e, hdd, q⟩ := h
  cases r with
  | cons rx rr =>
    cases rr with
    | cons rt rr =>
      cases rr
      cases rx
      have ec := hcv _ rt
      subst ec
      obtain ⟨hget, _⟩ := I.pin (a, oe) (List.mem_append.mpr (.inl List.mem_cons_self))
      obtain ⟨vs, hv⟩ := hf
      have hx : ObjOk X.prog X.w H s.heap dd (.xd fs) := I.hok dd _ hdd
      obtain ⟨mA, hns, _⟩ := hx
      obtain ⟨od, ho, _⟩ := lookIn_ns hns
      have J : PySem.W.InstAt s.heap a oe D (some od) := ⟨hget, hz.1, by unfold PySem.W.notCls; rw [hv] <;> rfl, by rw [hz.2]; exact ho⟩
      exact PySem.W.kia_one (PySem.W.kitx_excD C) I.kIn J e (fun z => nomatch z) fun tk => ⟨.bl b, H, I.kept (t' := tk) fun _ _ z => z, rfl, q⟩
end
end L2


set_option Elab.async false
set_option linter.all false
set_option maxRecDepth 100000
set_option maxHeartbeats 2000000
namespace FM
open PySem L2
section
variable {C : Cz} {a b d e : Expr} {es : List Expr} {pos : Pos} {ma mb md : Env → Res W} {va vb vd : Env → Res Arg} {mt mu : Env → Res Bool} {mx : Env → Res U}
/-- a new exception's dict is laid, and nobody changes it -/
theorem RE.layX {Z : Kx} {B : Nat → Option V} {T : Option Ct} {g : Sg} {r : Env} {σ : L2.St} {F : Fp} (re : RE Z B T g r σ F) {a : Addr} {o : HO} (n : g.H a = none) :
    RE Z B T ⟨upd g.H a o, fun b => g.L b ∨ b ∈ [a]⟩ r σ F ∧ Go g F ⟨upd g.H a o, fun b => g.L b ∨ b ∈ [a]⟩ F ∧ Kp Z g ⟨upd g.H a o, fun b => g.L b ∨ b ∈ [a]⟩ := by
  obtain ⟨re2, t2⟩ := re.lay (o := o) n
  have x := tmp_new re n
  have x2 : Tmp { g with H := upd g.H a o } F [a] := ⟨x.nod, x.nl, x.nf⟩
  obtain ⟨re3, kp⟩ := re2.frz x2 (fun b m => by rw [List.mem_singleton.mp m]; exact ⟨o, upd_same⟩)
  have t3 : Go g F ⟨upd g.H a o, fun b => g.L b ∨ b ∈ [a]⟩ F := t2.frz (fun b m => by rw [List.mem_singleton.mp m]; exact .inl n)
  exact ⟨re3, t3, t3.kp re⟩
/-- raise Cls(e) -/
def rseM (c k : Nat) (ma : Env → Res W) : Env → SRes := fun r => (ma r).toS fun w r1 => .ex ⟨c, [k], [w]⟩ r1
theorem ss_rse {c k j : Nat} {n : Str} {p pos2 : Pos} {fI : Addr} {sc : Scope} {ar : Arguments} {bd : List Stmt} {Bn newId initId : String} {bmB : List Value} (T : OwnX.XTxt C.X.prog C.X.K C.X.mg n (nmS k) (C.ca c) fI sc ar bd Bn newId initId bmB)
    (hc : C.X.calm = true) (tk : Takes C.X C.W) (hr : Room j C.X.A) (ha : SE C a ma) (hs : notStar a = true) (hg : Gl C.X n) (hdb : (n == ("__debug__" : Str)) = false) :
    SS C (.Raise (some (.Call (.Name n p) [a] [] pos)) none pos2) (rseM c k ma) := by
  obtain ⟨t, pa, i⟩ := ha
  refine ⟨_, ps_raise hc tk (pmk_ownF T hr pa hg hdb (star_ hs)), fun g r σ F D re dk => ?_⟩
  refine i g r σ F _ re (DOk.seq (show DOk C D g F ((ma r).toS _) from dk) fun w r1 g1 F1 t1 re1 k1 v rv d hd => ?_)
  obtain ⟨re2, t2, kp⟩ := re1.layX (o := .xd [(nmS k, v)]) hd
  exact k1 σ ⟨upd g1.H d (.xd [(nmS k, v)]), fun b => g1.L b ∨ b ∈ [d]⟩ F1 d [v] t2 re2 ⟨_, upd_same, rfl, rfl⟩ (.inr List.mem_cons_self) ⟨v, [], rfl, rv.kp kp, rfl⟩
/-- the canonical reading of a suite -/
def tCan (C : Cz) (m : Env → SRes) : TS := fun D σ H => ∃ g r F, g.H = H ∧ RE C.Z C.B C.T g r σ F ∧ DOk C D g F (m r)
theorem SSs.can {sts : List Stmt} {m : Env → SRes} (h : SSs C sts m) : PSs C.X sts (tCan C m) := by
  obtain ⟨t, p, i⟩ := h
  refine ⟨fun pins s σ H D I q => ?_⟩
  obtain ⟨g, r, F, rfl, re, dk⟩ := q
  exact p.run pins s σ g.H D I (i g r σ F D re dk)
/-- the exception's name is bound -/
theorem RE.inX {Z : Kx} {B : Nat → Option V} {g : Sg} {r : Env} {σ : L2.St} {F : Fp} {i c : Nat} {ks : List Nat} {ws : List W} {xs : List V} {a d : Addr} {e : En} (re : RE Z B none g r σ F) (hi : nth r i = some e) (hp : plainE e = true) (xd : XD g ks xs d) (ld : g.L d) (rw : RWs Z g ws xs) :
    RE Z B (some ⟨i, a, c, d⟩) g (r.set i (.x c ks ws)) (σ.set i (some (.ref a))) F := by
  rw [nth_iff] at hi
  have hF : F i = [] := by
    obtain ⟨o, _, h⟩ := re.at_ i e hi
    cases e with
    | no => exact h
    | m u => cases u with
      | d w => obtain ⟨v, _, h2⟩ := h; exact h2.1
      | _ => cases hp
    | _ => cases hp
  refine ⟨by rw [List.length_set, List.length_set]; exact re.len, fun j x hx => ?_, fun j hj => re.out j (by rwa [List.length_set] at hj), re.nod, re.dis, re.nl, re.la⟩
  by_cases hj : j = i
  · subst hj
    have hl := lt_of_get hi
    rw [List.getElem?_set_self hl] at hx
    cases hx
    refine ⟨some (.ref a), List.getElem?_set_self (by rw [← re.len]; exact hl), hF, ⟨j, a, c, d⟩, rfl, rfl, rfl, rfl, xs, xd, ld, rw⟩
  · rw [List.getElem?_set_ne (Ne.symm hj)] at hx
    obtain ⟨o, h1, h2⟩ := re.at_ j x hx
    refine ⟨o, by rw [List.getElem?_set_ne (Ne.symm hj)]; exact h1, ?_⟩
    cases x with
    | no => exact h2
    | m u => exact h2
    | t u => exact h2
    | x c' ks' ws' => obtain ⟨_, t, ht, _⟩ := h2; cases ht
/-- and gone -/
theorem RE.outX {Z : Kx} {B : Nat → Option V} {g : Sg} {r : Env} {σ : L2.St} {F : Fp} {i c : Nat} {a d : Addr} (re : RE Z B (some ⟨i, a, c, d⟩) g r σ F) : RE Z B none g (r.set i .no) (σ.set i none) (F.set i []) := by
  refine ⟨by rw [List.length_set, List.length_set]; exact re.len, fun j x hx => ?_, fun j hj => ?_, fun j => ?_, fun j k b hj hk => ?_, fun j b hj => ?_, re.la⟩
  · by_cases hj : j = i
    · subst hj
      have hl : j < r.length := by
        have := lt_of_get hx
        rwa [List.length_set] at this
      rw [List.getElem?_set_self hl] at hx
      cases hx
      exact ⟨none, List.getElem?_set_self (by rw [← re.len]; exact hl), Fp.set_same⟩
    · rw [List.getElem?_set_ne (Ne.symm hj)] at hx
      obtain ⟨o, h1, h2⟩ := re.at_ j x hx
      refine ⟨o, by rw [List.getElem?_set_ne (Ne.symm hj)]; exact h1, ?_⟩
      rw [Fp.set_ne hj]
      cases x with
      | no => exact h2
      | m u => exact h2
      | t u => exact h2
      | x c' ks' ws' => obtain ⟨_, t, ht, hi, _⟩ := h2; cases ht; exact absurd hi.symm hj
  · by_cases hji : j = i
    · subst hji; exact Fp.set_same
    · rw [Fp.set_ne hji]; exact re.out j (by rwa [List.length_set] at hj)
  · by_cases hji : j = i
    · subst hji; rw [Fp.set_same]; exact List.nodup_nil
    · rw [Fp.set_ne hji]; exact re.nod j
  · have h1 : j ≠ i := fun z => by subst z; rw [Fp.set_same] at hj; cases hj
    have h2 : k ≠ i := fun z => by subst z; rw [Fp.set_same] at hk; cases hk
    rw [Fp.set_ne h1] at hj
    rw [Fp.set_ne h2] at hk
    exact re.dis j k b hj hk
  · have h1 : j ≠ i := fun z => by subst z; rw [Fp.set_same] at hj; cases hj
    rw [Fp.set_ne h1] at hj
    exact re.nl j b hj
theorem Go.outX {g g' : Sg} {F F' : Fp} {i : Nat} (t : Go g F g' F') : Go g F g' (F'.set i []) := ⟨t.l, t.k, t.a, t.n, fun j b hj => by
  by_cases h : j = i
  · subst h; rw [Fp.set_same] at hj; cases hj
  · rw [Fp.set_ne h] at hj; exact t.s j b hj⟩
theorem Tmp.outX {g : Sg} {F : Fp} {i : Nat} {fp : List Addr} (t : Tmp g F fp) : Tmp g (F.set i []) fp := ⟨t.nod, t.nl, fun a m j hj => by
  by_cases h : j = i
  · subst h; rw [Fp.set_same] at hj; cases hj
  · rw [Fp.set_ne h] at hj; exact t.nf a m j hj⟩
/-- the context of a suite -/
def Cz.suite (C : Cz) (a : Addr) (oe : Obj) (pn : List (Addr × Obj)) (i c : Nat) (d : Addr) : Cz := ⟨C.X.suite a ((a, oe) :: pn), C.ca, fun _ _ _ _ => False, C.B, some ⟨i, a, c, d⟩⟩
def tryM (cs no : List Nat) (i : Nat) (mb ms : Env → SRes) : Env → SRes := fun r => match mb r with
  | .ex x r1 => if cs.any (Nat.beq x.c) then (match nth r1 i with
    | some e => if plainE e then unX i (ms (r1.set i (.x x.c x.ks x.ws))) else .bad
    | none => .bad) else if no.any (Nat.beq x.c) then .ex x r1 else .bad
  | y => y
def endX (i : Nat) (D : Ends) : Ends := { nx := fun σ' H' => D.nx (σ'.set i none) H', rt := D.rt, bk := fun σ' H' => D.bk (σ'.set i none) H', ct := fun σ' H' => D.ct (σ'.set i none) H' }
theorem DOk.unX {C' : Cz} {g : Sg} {F : Fp} {D : Ends} {i c : Nat} {a d : Addr} (hT : C.T = none) (hz : C'.Z = C.Z) (hB : C'.B = C.B) (hT' : C'.T = some ⟨i, a, c, d⟩) : ∀ {x : SRes}, DOk C D g F (FM.unX i x) → DOk C' (endX i D) g F x
  | .nx r, h => fun g' F' σ t re => h g' _ _ t.outX (by rw [hT, ← hz, ← hB]; rw [hT'] at re; exact re.outX)
  | .bk r, h => fun g' F' σ t re => h g' _ _ t.outX (by rw [hT, ← hz, ← hB]; rw [hT'] at re; exact re.outX)
  | .ct r, h => fun g' F' σ t re => h g' _ _ t.outX (by rw [hT, ← hz, ← hB]; rw [hT'] at re; exact re.outX)
  | .rt u r, h => fun g' F' σ v fp t re o x s => h g' _ (σ.set i none) v fp t.outX (by rw [hT, ← hz, ← hB]; rw [hT'] at re; exact re.outX) (by rw [← hz]; exact o) x.outX s
  | .ex x r, h => False.elim h
  | .bad, h => False.elim h
theorem ss_try {cs no : List Nat} {i : Nat} {x n : Str} {c : Nat} {body suite : List Stmt} {b₀ : Stmt} {np pos' : Pos} {mb ms : Env → SRes} (hT : C.T = none) (hs : C.X.stack = C.X.env :: C.X.outer) (hf : C.X.env.frame = some C.X.env.locals) (hN : C.X.N.Nodup) (hi : C.X.N[i]? = some n) (hln : C.X.env.kindOf n = some .local) (hc : Names C.X x (.ref (C.ca c))) (tk : Takes C.X C.W)
    (hcs : ∀ k ∈ cs, PySem.W.exmOne C.X.K (.ref (C.ca k)) (.ref (C.ca c)) = some true) (hno : ∀ k ∈ no, PySem.W.exmOne C.X.K (.ref (C.ca k)) (.ref (C.ca c)) = some false)
    (hb : ∀ (W : WX) (pn : List (Addr × Obj)) (xe : Value → Shared → Prop), Takes (C.X.tr pn xe) W → PassesOwn (model C.X.prog C.X.w) C.X.A C.X.env xe → SSs ⟨C.X.tr pn xe, C.ca, W, C.B, C.T⟩ body mb)
    (hsu : ∀ (a : Addr) (oe : Obj) (k : Nat) (d : Addr) (pn : List (Addr × Obj)), k ∈ cs → Zc (.ref (C.ca k)) (some d) oe → (∃ vs, oe.data = .fields vs) → SSs (C.suite a oe pn i k d) (b₀ :: suite) ms) :
    SS C (.Try body [.ExceptHandler (some (.Name x np)) (some n) (b₀ :: suite) pos'] [] [] pos) (tryM cs no i mb ms) := by
  let ts : Addr → Value → Option Addr → TS := fun a cls d D σ H => ∃ k dd, k ∈ cs ∧ cls = .ref (C.ca k) ∧ d = some dd ∧ tCan ⟨C.X, C.ca, fun _ _ _ _ => False, C.B, some ⟨i, a, k, dd⟩⟩ ms D σ H
  have P := ps_try_as (X := C.X) (pos := pos) (np := np) (pos' := pos') (body := body) (suite := suite) (b₀ := b₀) (Wout := C.W) (ts := ts) (tb := fun W => tCan ⟨C.X, C.ca, W, C.B, C.T⟩ mb) hs hf hN hi hln hc tk
    (fun W pn xe t p => (hb W pn xe t p).can)
    (fun a oe cls d pn hz hv => ⟨fun pins s σ H D I h => by
      obtain ⟨k, dd, hk, rfl, rfl, h⟩ := h
      exact (hsu a oe k dd pn hk hz hv).can.run pins s σ H D I h⟩)
  refine ⟨_, P, fun g r σ F D re dk => ?_⟩
  refine ⟨g, r, F, rfl, re, ?_⟩
  unfold tryM at dk
  cases hm : mb r with
  | nx r1 => rw [hm] at dk; exact dk
  | rt u r1 => rw [hm] at dk; exact dk
  | bk r1 => rw [hm] at dk; exact dk
  | ct r1 => rw [hm] at dk; exact dk
  | bad => rw [hm] at dk; exact dk
  | ex y r1 =>
    rw [hm] at dk
    dsimp only at dk
    intro σ1 g' F' d xs t1 re1 xd ld rw
    show ∃ b, PySem.W.exmOne C.X.K (.ref (C.ca y.c)) (.ref (C.ca c)) = some b ∧ _
    cases h1 : cs.any (Nat.beq y.c) with
    | true =>
      obtain ⟨k, hk, ek⟩ := List.any_eq_true.mp h1
      have ek := Nat.eq_of_beq_eq_true ek
      subst ek
      rw [h1, if_pos rfl] at dk
      refine ⟨true, hcs _ hk, fun _ a na => ?_, fun z => nomatch z⟩
      cases hn : nth r1 i with
      | none => rw [hn] at dk; exact False.elim dk
      | some e =>
        rw [hn] at dk
        cases hp : plainE e with
        | false => simp only [hp] at dk; exact False.elim dk
        | true =>
          simp only [hp, if_true] at dk
          refine ⟨y.c, d, hk, rfl, rfl, g', r1.set i (.x y.c y.ks y.ws), F', rfl, ?_, ?_⟩
          · have re1' : RE C.Z C.B none g' r1 σ1 F' := by
              have := re1
              rw [show (⟨C.X, C.ca, _, C.B, C.T⟩ : Cz).T = none from hT] at this
              exact this
            exact re1'.inX (c := y.c) hn hp xd ld rw
          · exact DOk.unX (C := C) (C' := ⟨C.X, C.ca, fun _ _ _ _ => False, C.B, some ⟨i, a, y.c, d⟩⟩) hT rfl rfl rfl (DOk.mono (C := C) t1 dk)
    | false =>
      rw [h1] at dk
      simp only [Bool.false_eq_true, if_false] at dk
      cases h2 : no.any (Nat.beq y.c) with
      | false => simp only [h2, Bool.false_eq_true, if_false] at dk; exact False.elim dk
      | true =>
        simp only [h2, if_true] at dk
        obtain ⟨k, hk, ek⟩ := List.any_eq_true.mp h2
        have ek := Nat.eq_of_beq_eq_true ek
        subst ek
        exact ⟨false, hno _ hk, fun z => Bool.noConfusion z, fun _ => dk σ1 g' F' d xs t1 re1 xd ld rw⟩
def xflM (i k : Nat) : Env → Res W := fun r => match nth r i with
    | some (.x _ [l] [w]) => if Nat.beq l k then .ok w r else .bad
    | _ => .bad
theorem se_xfl {i j k c : Nat} {n f : Str} {oe : Obj} {pn : List (Addr × Obj)} {at_ dd : Addr} {npos : Pos} (E : ExcC C.X.K (C.ca c)) (hf : f = nmS k) (noN : PySem.W.findIn C.X.K (.ref (C.ca c)) f = some none) (hz : Zc (.ref (C.ca c)) (some dd) oe) (hv : ∃ vs, oe.data = .fields vs)
    (hN : C.X.N[i]? = some n) (hvis : Vis C.X.env.scope n) (hd : (n == ("__debug__" : Str)) = false) (hcd : (n == ("__classdict__" : Str)) = false) :
    SE (C.suite at_ oe pn j c dd) (.Attribute (.Name n npos) f pos) (xflM i k) := by
  have P := pe_byOwn (X := C.X) (C := C.ca c) (f := f) (a := at_) (dd := dd) (oe := oe) (pn := pn) (pos := pos) E.hg E.hk E.hs E.hd noN hz hv (pe_var (X := C.X.suite at_ ((at_, oe) :: pn)) (pos := npos) hN hvis hd hcd) rfl
  refine ⟨_, P, fun g r σ F Q re k1 => ?_⟩
  unfold xflM at k1
  cases hn : nth r i with
  | none => rw [hn] at k1; exact False.elim k1
  | some e =>
    rw [hn] at k1
    cases e with
    | x c' ks ws =>
      rcases ks with _ | ⟨l, _ | ⟨l2, ks⟩⟩
      · exact False.elim k1
      rotate_left
      · exact False.elim k1
      rcases ws with _ | ⟨w, _ | ⟨w2, ws⟩⟩
      · exact False.elim k1
      rotate_left
      · exact False.elim k1
      · dsimp only at k1
        split at k1
        · rename_i hl
          have hl := Nat.eq_of_beq_eq_true hl
          subst hl
          rw [nth_iff] at hn
          obtain ⟨o, ho, _, t, ht, hi, hc, rfl, xs, ⟨fs, xd1, xd2, xd3⟩, ld, rw⟩ := re.at_ i _ hn
          cases ht
          obtain ⟨v, r', rfl, rv, rr⟩ := rw
          cases rr
          refine ⟨_, ho, rfl, v, ?_, k1.now re v rv⟩
          match fs, xd2, xd3 with
          | [(a1, a2)], e1, e2 =>
            have q1 : a1 = nmS l := List.head_eq_of_cons_eq e1
            have q2 : a2 = v := List.head_eq_of_cons_eq e2
            rw [q1, q2] at xd1
            rw [hf]
            exact xd1
        · exact False.elim k1
    | no => exact False.elim k1
    | m u => exact False.elim k1
    | t u => exact False.elim k1
/-- isinstance(e, c) of the caught exception -/
def xisM (i : Nat) (cs no : List Nat) : Env → Res W := fun r => match nth r i with
    | some (.x c [_] [_]) => if cs.any (Nat.beq c) then .ok (.bl true) r else if no.any (Nat.beq c) then .ok (.bl false) r else .bad
    | _ => .bad
theorem se_xis {i j c : Nat} {cs no : List Nat} {n : Str} {oe : Obj} {pn : List (Addr × Obj)} {at_ dd : Addr} {npos p : Pos} {ce : Expr} {cw : V} {cv : Value} (E : ExcC C.X.K (C.ca c)) (hz : Zc (.ref (C.ca c)) (some dd) oe) (hv : ∃ vs, oe.data = .fields vs)
    (hN : C.X.N[i]? = some n) (hvis : Vis C.X.env.scope n) (hd : (n == ("__debug__" : Str)) = false) (hcd : (n == ("__classdict__" : Str)) = false) (hg : Gl C.X "isinstance") (hm : C.X.mg "isinstance" = none)
    (pc : PE (C.X.suite at_ ((at_, oe) :: pn)) ce (tC cw)) (hcv : ∀ u, RelV cw u → u = cv) (hst : notStar ce = true) (hcs : ∀ k ∈ cs, PySem.W.kitOne C.X.K (.ref (C.ca k)) cv = some true) (hno : ∀ k ∈ no, PySem.W.kitOne C.X.K (.ref (C.ca k)) cv = some false) :
    SE (C.suite at_ oe pn j c dd) (.Call (.Name "isinstance" p) [.Name n npos, ce] [] pos) (xisM i cs no) := by
  have P := pe_blt (X := C.X.suite at_ ((at_, oe) :: pn)) (pos := pos) (p := p) (.inl ⟨_, rfl⟩) (call_isD (X := C.X) (a := at_) (D := C.ca c) (dd := dd) (oe := oe) (pn := pn) E hz hv) hg hm (by decide +kernel) (pa_cons (pe_var (X := C.X.suite at_ ((at_, oe) :: pn)) (pos := npos) hN hvis hd hcd) (pa_cons pc pa_nil (star_ hst)) rfl) (by decide +kernel) (by decide +kernel) (by rw [List.all_cons, List.all_cons, hst]; rfl)
  refine ⟨_, P, fun g r σ F Q re k1 => ?_⟩
  unfold xisM at k1
  cases hn : nth r i with
  | none => rw [hn] at k1; exact False.elim k1
  | some e =>
    rw [hn] at k1
    cases e with
    | x c' ks ws =>
      rcases ks with _ | ⟨l, _ | ⟨l2, ks⟩⟩
      · exact False.elim k1
      rotate_left
      · exact False.elim k1
      rcases ws with _ | ⟨w, _ | ⟨w2, ws⟩⟩
      · exact False.elim k1
      rotate_left
      · exact False.elim k1
      · dsimp only at k1
        rw [nth_iff] at hn
        obtain ⟨o, ho, _, t, ht, hi, hc, rfl, xs, ⟨fs, xd1, xd2, xd3⟩, ld, rw⟩ := re.at_ i _ hn
        cases ht
        dsimp only at hc
        subst hc
        split at k1
        · rename_i h1
          obtain ⟨k, hk, ek⟩ := List.any_eq_true.mp h1
          have ek := Nat.eq_of_beq_eq_true ek
          subst ek
          exact ⟨_, ho, cw, cv, true, fs, rfl, hcv, hcs _ hk, xd1, k1.now re _ rfl⟩
        · split at k1
          · rename_i h1
            obtain ⟨k, hk, ek⟩ := List.any_eq_true.mp h1
            have ek := Nat.eq_of_beq_eq_true ek
            subst ek
            exact ⟨_, ho, cw, cv, false, fs, rfl, hcv, hno _ hk, xd1, k1.now re _ rfl⟩
          · exact False.elim k1
    | no => exact False.elim k1
    | m u => exact False.elim k1
    | t u => exact False.elim k1
end
end FM


set_option Elab.async false
set_option linter.all false
set_option maxRecDepth 100000
set_option maxHeartbeats 2000000
namespace L2
open PySem PySem.Spec PyProof.Rows
/-- match: cases that are texts -/
def tCs (r : R2) : List (Str × TS) → V → TS
  | [], _ => fun D σ H => D.nx σ H
  | (k, tb) :: l, v => fun D σ H => r v (.str k) H fun x H' => ∃ b, x = .bl b ∧ if b = true then tb D σ H' else tCs r l v D σ H'
inductive CasesOk (X : Cx) : List MatchCase → List (Str × TS) → Prop
  | nil : CasesOk X [] []
  | cons {k : Str} {j : Nat} {cp vp : Pos} {body : List Stmt} {tb : TS} {rest : List MatchCase} {l : List (Str × TS)} (hb : PSs X body tb) (r : CasesOk X rest l) :
      CasesOk X (⟨.MatchValue (.Constant (.str k) j cp) vp, none, body⟩ :: rest) ((k, tb) :: l)
section
variable {X : Cx}
theorem cases_run {r : R2} (ho : OpR X (compareOp .Eq) r) {cs : List MatchCase} {l : List (Str × TS)} (h : CasesOk X cs l) : ∀ (first : Bool) (pins : List (Addr × Obj)) (s : Shared) (σ : St) (H : Hp) (D : Ends) (v : V) (u : Value), Inv X pins σ H s → RelV v u → tCs r l v D σ H →
    wpAny (model X.prog X.w) X.A (matchCases cs X.env u first) (SP X pins D) X.xe s := by
  induction h with
  | nil => exact fun first pins s σ H D v u I rv q => wpAny_matchCases_nil ⟨σ, H, I, q⟩
  | @cons k j cp vp body tb rest l hb hr ih =>
    intro first pins s σ H D v u I rv q
    refine wpAny_matchCases_cons (wpAny_matchPattern_Value ?_)
    refine thn (pe_str.run pins s σ H (fun x H1 => x = .str k ∧ r v (.str k) H1 fun x H' => ∃ b, x = .bl b ∧ if b = true then tb D σ H' else tCs r l v D σ H') I ⟨rfl, q⟩) fun x s1 ⟨y, H1, I1, r1, e, q1⟩ => ?_
    subst e
    refine thn (ho pins s1 σ H1 v (.str k) u x _ I1 rv r1 q1) fun c s2 ⟨z, H2, I2, r2, b, e, q2⟩ => ?_
    subst e
    cases r2
    refine wpAny_truthy_bool ?_
    cases b with
    | true => exact wpAny_assignInOrder_none (hb.run pins s2 σ H2 D I2 q2)
    | false => exact ih false pins s2 σ H2 D v u I2 rv q2
theorem ps_mat {r : R2} {e : Expr} {te : TE} {pos : Pos} {cs : List MatchCase} {l : List (Str × TS)} (ho : OpR X (compareOp .Eq) r) (he : PE X e te) (h : CasesOk X cs l) : PS X (.Match e cs pos) (fun D σ H => te σ H fun v H1 => tCs r l v D σ H1) :=
  ⟨fun pins s σ H D I q => wpAny_Match (thn (he.run pins s σ H _ I q) fun u s1 ⟨v, H1, I1, rv, q1⟩ => cases_run ho h true pins s1 σ H1 D v u I1 rv q1)⟩
end
end L2
namespace FM
open PySem L2
section
variable {C : Cz} {a b d e : Expr} {es : List Expr} {pos : Pos} {ma mb md : Env → Res W}
def pickM (w : W) (r : Env) : List (W × (Env → SRes)) → SRes
  | [] => .nx r
  | (k, b) :: cs => match eqW w k with
    | some true => b r
    | some false => pickM w r cs
    | none => .bad
/-- the cases and their readings -/
inductive MatR (C : Cz) : List MatchCase → List (W × (Env → SRes)) → Prop
  | nil : MatR C [] []
  | cons {s : List Nat} {k : Str} {j : Nat} {cp vp : Pos} {body : List Stmt} {m : Env → SRes} {rest : List MatchCase} {l : List (W × (Env → SRes))} (hk : k = sv s) (hb : SSs C body m) (r : MatR C rest l) :
      MatR C (⟨.MatchValue (.Constant (.str k) j cp) vp, none, body⟩ :: rest) ((.str s, m) :: l)
theorem mat_ok {r : R2} (hr : ∀ (g : Sg) (x y : W) (b : Bool) (vx vy : V) (Q : VK), cmpW .eq x y = some b → BR C.Z g x vx → BR C.Z g y vy → Q (.bl b) g.H → r vx vy g.H Q) {cs : List MatchCase} {l : List (W × (Env → SRes))} (h : MatR C cs l) :
    ∃ tl, CasesOk C.X cs tl ∧ ∀ (g : Sg) (ρ : Env) (σ : L2.St) (F : Fp) (D : Ends) (w : W) (v : V), RE C.Z C.B C.T g ρ σ F → RW C.Z g w v → DOk C D g F (pickM w ρ l) → tCs r tl v D σ g.H := by
  induction h with
  | nil => exact ⟨[], .nil, fun g ρ σ F D w v re rv dk => dk g F σ (.refl g F) re⟩
  | @cons s k j cp vp body m rest l hk hb hr' ih =>
    obtain ⟨tl, c, q⟩ := ih
    obtain ⟨t, p, i⟩ := hb
    refine ⟨(k, t) :: tl, .cons p c, fun g ρ σ F D w v re rv dk => ?_⟩
    unfold pickM at dk
    cases he : eqW w (.str s) with
    | none => rw [he] at dk; exact False.elim dk
    | some b =>
      refine hr g w (.str s) b v (.str k) _ he rv.br (show V.str k = V.str (sv s) by rw [hk]) ⟨b, rfl, ?_⟩
      rw [he] at dk
      cases b with
      | true => rw [if_pos rfl]; exact i g ρ σ F D re dk
      | false => rw [if_neg (by decide)]; exact q g ρ σ F D w v re rv dk
def matM (ma : Env → Res W) (l : List (W × (Env → SRes))) : Env → SRes := fun r => (ma r).toS fun w r1 => pickM w r1 l
theorem ss_mat (hu : C.X.A.units + 64 < cLine) {cs : List MatchCase} {l : List (W × (Env → SRes))} (h : SE C e ma) (hc : MatR C cs l) : SS C (.Match e cs pos) (matM ma l) := by
  obtain ⟨t, p, i⟩ := h
  obtain ⟨r, ho, hr⟩ := cmpR (C := C) hu .eq
  obtain ⟨tl, c, q⟩ := mat_ok hr hc
  refine ⟨_, ps_mat ho p c, fun g ρ σ F D re dk => ?_⟩
  exact i g ρ σ F _ re (DOk.seq (show DOk C D g F ((ma ρ).toS _) from dk) fun w r1 g1 F1 t1 re1 k1 v rv => q g1 r1 σ F1 D w v re1 rv k1)

/-! ### {k: v, ..} -/
def RPs (Z : Kx) (g : Sg) : List (W × W) → List (V × V) → Prop
  | [], vs => vs = []
  | q :: qs, vs => ∃ x y r, vs = (x, y) :: r ∧ RW Z g q.1 x ∧ RW Z g q.2 y ∧ RPs Z g qs r
theorem RPs.kp {Z : Kx} {g g' : Sg} (t : Kp Z g g') : ∀ {qs : List (W × W)} {vs : List (V × V)}, RPs Z g qs vs → RPs Z g' qs vs
  | [], _, h => h
  | q :: qs, _, h => by
    obtain ⟨x, y, r, e, h1, h2, h3⟩ := h
    exact ⟨x, y, r, e, h1.kp t, h2.kp t, RPs.kp t h3⟩
def SP2 (C : Cz) (pos : Pos) (ks : List (Option Expr)) (vs : List Expr) (m : Env → Res (List (W × W))) : Prop := ∃ trs, PPs C.X pos ks vs trs ∧ ∀ (g : Sg) (r : Env) (σ : L2.St) (F : Fp) (Q : List (V × V) → Hp → Prop), RE C.Z C.B C.T g r σ F →
  POk C g F σ (fun ws g' _ => ∀ vs, RPs C.Z g' ws vs → Q vs g'.H) (m r) → tPairs trs σ g.H Q
def prM (f : IE → Env → Res W) (p : IE × IE) (r : Env) : Res (W × W) := (f p.1 r).bind fun k r1 => (f p.2 r1).bind fun v r2 => .ok (k, v) r2
theorem sp_nil {f : IE → Env → Res W} : SP2 C pos [] [] (evs (prM f) []) := ⟨_, pps_nil, fun g r σ F Q re k => k.now re [] rfl⟩
theorem sp_cons {f : IE → Env → Res W} {x y : Expr} {ks : List (Option Expr)} {vs : List Expr} {p : IE × IE} {is : List (IE × IE)} (h1 : SE C x (f p.1)) (h2 : SE C y (f p.2)) (h3 : SP2 C pos ks vs (evs (prM f) is)) : SP2 C pos (some x :: ks) (y :: vs) (evs (prM f) (p :: is)) := by
  obtain ⟨ta, pa, ia⟩ := h1
  obtain ⟨tb, pb, ib⟩ := h2
  obtain ⟨tc, pc, ic⟩ := h3
  refine ⟨_, pps_cons pa pb pc, fun g r σ F Q re k => ?_⟩
  have k : POk C g F σ (fun ws g' _ => ∀ vs, RPs C.Z g' ws vs → Q vs g'.H) ((f p.1 r).bind fun k r1 => (f p.2 r1).bind fun v r2 => (evs (prM f) is r2).bind fun ws r3 => .ok ((k, v) :: ws) r3) := by
    have e : evs (prM f) (p :: is) r = ((f p.1 r).bind fun k r1 => (f p.2 r1).bind fun v r2 => (evs (prM f) is r2).bind fun ws r3 => .ok ((k, v) :: ws) r3) := by
      show (prM f p r).bind _ = _
      unfold prM
      cases f p.1 r with
      | ok k r1 =>
        show ((f p.2 r1).bind fun v r2 => Res.ok (k, v) r2).bind _ = (f p.2 r1).bind _
        cases f p.2 r1 <;> rfl
      | ex x r1 => rfl
      | bad => rfl
    rw [← e]
    exact k
  refine ia g r σ F _ re (k.seq fun w r1 g1 F1 t1 re1 k1 v rv => ?_)
  refine ib g1 r1 σ F1 _ re1 (k1.seq fun w2 r2 g2 F2 t2 re2 k2 v2 rv2 => ?_)
  refine ic g2 r2 σ F2 _ re2 (k2.seq fun ws r3 g3 F3 t3 re3 k3 vs rvs => ?_)
  exact k3.now re3 ((v, v2) :: vs) ⟨v, v2, vs, rfl, (rv.kp (t2.kp re1)).kp (t3.kp re2), rv2.kp (t3.kp re2), rvs⟩
theorem kp_upd {Z : Kx} {g : Sg} {a : Addr} {u o : HO} (hu : g.H a = some u) (mu : mutO u = true) (nl : ¬ g.L a) : Kp Z g ⟨upd g.H a o, g.L⟩ := by
  refine ⟨fun {b xs} h => ?_, fun b o' l q => ⟨l, ?_⟩, fun b ob w h => (upd_ne (fun z => by rw [z, hu] at h; cases h; cases mu)).trans h⟩
  · rcases h with (h | ⟨ob, h⟩) | h
    · exact .inl (.inl ((upd_ne (fun z => by rw [z, hu] at h; cases h; cases mu)).trans h))
    · exact .inl (.inr ⟨ob, (upd_ne (fun z => by rw [z, hu] at h; cases h; cases mu)).trans h⟩)
    · exact .inr h
  · exact (upd_ne (fun z => nl (by rw [← z]; exact l))).trans q
/-- the keys are keys -/
theorem rps_keys {Z : Kx} {g : Sg} : ∀ {qs : List (W × W)} {vs : List (V × V)}, RPs Z g qs vs → (qs.all fun q => keyOk q.1) = true → ∃ kvs : List (Key × V), vs = kvs.map (fun kv => (kV kv.1, kv.2)) ∧ kvs.length = qs.length ∧
    ∀ (ks ws : List W) (ys : List (Key × V)), KeysR ks (ys.map (·.1)) → RWs Z g ws (ys.map (·.2)) → KeysR (dall ks ws qs).1 ((mergeK ys kvs).map (·.1)) ∧ RWs Z g (dall ks ws qs).2 ((mergeK ys kvs).map (·.2))
  | [], _, h, _ => by cases h; exact ⟨[], rfl, rfl, fun ks ws ys h1 h2 => ⟨h1, h2⟩⟩
  | q :: qs, _, h, hk => by
    obtain ⟨x, y, r, rfl, h1, h2, h3⟩ := h
    rw [List.all_cons, Bool.and_eq_true] at hk
    obtain ⟨kvs, e, hl, hm⟩ := rps_keys h3 hk.2
    obtain ⟨k, rfl, hkr⟩ := key_of hk.1 h1
    refine ⟨(k, y) :: kvs, by rw [List.map_cons, ← e], by simp [hl], fun ks ws ys a1 a2 => ?_⟩
    obtain ⟨b1, b2⟩ := dput_put hkr h2 a1 a2
    exact hm _ _ _ b1 b2
def dltM (m : Env → Res (List (W × W))) : Env → Res U := fun r => (m r).bind fun qs r1 => if (qs.all fun q => keyOk q.1) && Nat.ble qs.length 15 && Nat.blt 0 qs.length then .ok (.c (dall [] [] qs).1 ((dall [] [] qs).2.map U.d)) r1 else .bad
theorem su_dlt {ks : List (Option Expr)} {vs : List Expr} {m : Env → Res (List (W × W))} (h : SP2 C pos ks vs m) (hall : ks.all (·.isSome) = true) (hl : ks.length = vs.length) (h0 : ks ≠ []) (h15 : ks.length ≤ 15) : SU C (.Dict ks vs pos) (dltM m) := by
  obtain ⟨trs, p, i⟩ := h
  refine ⟨_, pe_disp p hall hl h0 h15, fun g ρ σ F Q re k p hp => ?_⟩
  obtain ⟨re2, t2⟩ := re.lay (o := .dK []) hp
  have x := tmp_new re hp
  refine i { g with H := upd g.H p (.dK []) } ρ σ F _ re2 ?_
  unfold dltM at k
  cases hm : m ρ with
  | bad => rw [hm] at k; exact False.elim k
  | ex y r1 => rw [hm] at k; exact XOk.mono t2 k
  | ok qs r1 =>
    rw [hm] at k
    intro g1 F1 t1 re1 ws rws
    have k : POk C g F σ (fun u g' F' => ∀ v fp, OU C.Z g' u v fp → Tmp g' F' fp → Src g F fp → Q v g'.H) (if (qs.all fun q => keyOk q.1) && Nat.ble qs.length 15 && Nat.blt 0 qs.length then .ok (.c (dall [] [] qs).1 ((dall [] [] qs).2.map U.d)) r1 else .bad) := k
    have pF : ∀ j, p ∉ F j := fun j => x.nf p List.mem_cons_self j
    have hp1 : g1.H p = some (.dK []) := t1.k p _ upd_same pF
    have t02 := t2.trans t1
    have pF1 : ∀ j, p ∉ F1 j := fun j hj => by
      rcases t1.s j p hj with e | ⟨k, hk⟩
      · rw [show ({ g with H := upd g.H p (.dK []) } : Sg).H p = some (.dK []) from upd_same] at e; cases e
      · exact pF k hk
    have pL1 : ¬ g1.L p := fun l => by
      rcases t1.n p l with l | l | ⟨k, hk⟩
      · exact x.nl p List.mem_cons_self l
      · rw [show ({ g with H := upd g.H p (.dK []) } : Sg).H p = some (.dK []) from upd_same] at l; cases l
      · exact pF k hk
    split at k
    · rename_i hc
      rw [Bool.and_eq_true, Bool.and_eq_true] at hc
      obtain ⟨kvs, e, hlk, hmg⟩ := rps_keys rws hc.1.1
      refine ⟨hp1, kvs, e, by rw [hlk]; exact Nat.le_of_ble_eq_true hc.1.2, ?_⟩
      obtain ⟨b1, b2⟩ := hmg [] [] [] rfl rfl
      have kp : Kp C.Z g1 ⟨upd g1.H p (.dK (mergeK [] kvs)), g1.L⟩ := kp_upd hp1 rfl pL1
      have la : ∀ a, g1.L a → ∃ o, upd g1.H p (.dK (mergeK [] kvs)) a = some o := fun a l => by
        obtain ⟨o, ho⟩ := re1.la a l
        exact ⟨o, (upd_ne (fun z : a = p => pL1 (by rw [← z]; exact l))).trans ho⟩
      have re3 : RE C.Z C.B C.T ⟨upd g1.H p (.dK (mergeK [] kvs)), g1.L⟩ r1 σ F1 := re1.keep kp (fun j a m => upd_ne fun z => pF1 j (z ▸ m)) re1.nl la
      have t3 : Go g F ⟨upd g1.H p (.dK (mergeK [] kvs)), g1.L⟩ F1 := ⟨t02.l, fun b o hb n => (upd_ne fun z => by rw [z, hp] at hb; cases hb).trans (t02.k b o hb n), fun b hb => by
          by_cases z : b = p
          · rw [z]; exact hp
          · exact t02.a b ((upd_ne z).symm.trans hb), t02.n, t02.s⟩
      refine k _ F1 t3 re3 (.ref p) [p] ⟨p, _, [], rfl, ⟨mergeK [] kvs, upd_same, b1, rfl⟩, OUs.dat (b2.kp kp), rfl⟩ ⟨x.nod, fun a m => by rw [List.mem_singleton.mp m]; exact pL1, fun a m j => by rw [List.mem_singleton.mp m]; exact pF1 j⟩ fun a m => by rw [List.mem_singleton.mp m]; exact .inl hp
    · exact False.elim k
end
end FM


set_option Elab.async false
set_option linter.all false
set_option maxRecDepth 100000
set_option maxHeartbeats 2000000
/-! The checker: is this IR the reading of that text. Its soundness: what it accepts, the evaluator tells. -/
namespace FM
open PySem L2

structure Sc where
  N : List Str
  sc : Scope
  top : Bool
  calm : Bool
/-- a program's names: its defs (number, parameters), its constants, the built-ins that no global hides, defs that are called by keywords,
    its raisable exceptions (name, number, field), its exception classes by name, what except clauses and isinstance tell of them -/
structure Pg where
  fns : List (Str × Nat × List Str)
  cs : List (Str × W)
  fr : List Str
  kw : List Str
  xc : List (Str × Nat × Nat)
  oc : List (Str × Nat)
  sub : List (Nat × Nat × Bool)
  isb : List (Nat × Str × Bool)
  fl : List Nat
structure FnAt (P : Pg) (C : Cz) (c : CF) (x : Str) (f : Nat) (ps : List Str) : Prop where
  ex : ∃ (k : Nat) (fa : Addr) (fd : FuncData), FnOk C.X.prog C.X.w C.X.K C.X.mg C.X.base (L2.CX C.X.prog C.X.w) k fa fd ps (spOf C.Z c f ps.length) ∧ Room k C.X.A ∧ C.X.mg x = some (.ref fa) ∧ PySem.W.keepIn C.X.K (.ref fa) = true ∧ Binds C.X.K fd ps []
/-- what the written part says of a raisable class -/
structure XcAt (Pr : Program) (K : PySem.W.Frag) (mg : Str → Option Value) (ca : Nat → Addr) (n : Str) (c k : Nat) : Prop where
  tx : ∃ fI sc ar bd Bn newId initId bmB, OwnX.XTxt Pr K mg n (nmS k) (ca c) fI sc ar bd Bn newId initId bmB
  ec : ExcC K (ca c)
/-- what the written part says -/
structure Wr (P : Pg) (Pr : Program) (K : PySem.W.Frag) (mg : Str → Option Value) (ca : Nat → Addr) : Prop where
  cs : ∀ x w, P.cs.lookup x = some w → ∃ u v, mg x = some u ∧ RelV v u ∧ ∀ g, RW ⟨K, ca⟩ g w v
  fr : ∀ x ∈ P.fr, mg x = none
  xc : ∀ n c k, (n, c, k) ∈ P.xc → XcAt Pr K mg ca n c k
  oc : ∀ n c, P.oc.lookup n = some c → mg n = some (.ref (ca c))
  nof : ∀ n c k, (n, c, k) ∈ P.xc → ∀ f ∈ P.fl, PySem.W.findIn K (.ref (ca c)) (nmS f) = some none
  sub : ∀ a b v, (a, b, v) ∈ P.sub → PySem.W.exmOne K (.ref (ca a)) (.ref (ca b)) = some v
  isb : ∀ a n v, (a, n, v) ∈ P.isb → ∀ cv, (mg n = some cv ∨ (mg n = none ∧ bootBuiltins n = some cv)) → PySem.W.kitOne K (.ref (ca a)) cv = some v
structure Good (P : Pg) (c : CF) (S : Sc) (C : Cz) : Prop where
  n : C.X.N = S.N
  sc : C.X.env.scope = S.sc
  kd : S.sc.kind = .function
  nd : C.X.N.Nodup
  un : C.X.A.units + 64 < cLine
  rm : S.calm = true → Room 0 C.X.A
  fn : S.top = true → ∀ x, C.X.fn x = true
  fns : S.calm = true → ∀ x f ps, P.fns.lookup x = some (f, ps) → FnAt P C c x f ps
  wr : Wr P C.X.prog C.X.K C.X.mg C.ca
  calm : S.calm = true → C.X.calm = true ∧ PassesOwn (model C.X.prog C.X.w) C.X.A C.X.env C.X.xe
  tk : Takes C.X C.W
  topC : S.top = true → S.calm = true → C.T = none ∧ C.X.stack = C.X.env :: C.X.outer ∧ C.X.env.frame = some C.X.env.locals
  su : S.calm = false → ∃ (C0 : Cz) (a : Addr) (oe : Obj) (pn : List (Addr × Obj)) (i k : Nat) (d : Addr), C = C0.suite a oe pn i k d ∧ (∃ n f, (n, k, f) ∈ P.xc) ∧ Zc (.ref (C0.ca k)) (some d) oe ∧ ∃ vs, oe.data = .fields vs
def Sc.blk (S : Sc) (scope : Scope) : Sc := ⟨S.N, relS scope S.sc, false, S.calm⟩
theorem Good.blk {P : Pg} {c : CF} {S : Sc} {C : Cz} (G : Good P c S C) (hc : S.calm = true) {scope : Scope} (hk : scope.kind = .function) (s : Shared) (H : Hp) (a : Addr) (cl : List (Str × Addr)) (fp : List Addr) : Good P c (S.blk scope) (C.blk scope s H a cl fp) where
  n := G.n
  sc := by
    show relabel scope C.X.env = relS scope S.sc
    rw [← G.sc]
    rfl
  kd := hk
  nd := G.nd
  un := G.un
  rm := G.rm
  fn := fun z => by cases z
  fns := fun hc x f ps h => ⟨(G.fns hc x f ps h).ex⟩
  wr := G.wr
  calm := fun h => ⟨(G.calm h).1, PassesOwn.never⟩
  tk := takes0
  topC := fun z => by cases z
  su := fun z => by rw [show (S.blk scope).calm = S.calm from rfl, hc] at z; cases z
theorem Good.tr {P : Pg} {c : CF} {S : Sc} {C : Cz} (G : Good P c S C) (hc : S.calm = true) {W : WX} {pn : List (Addr × Obj)} {xe : Value → Shared → Prop} (t : Takes (C.X.tr pn xe) W) (p : PassesOwn (model C.X.prog C.X.w) C.X.A C.X.env xe) : Good P c S ⟨C.X.tr pn xe, C.ca, W, C.B, C.T⟩ where
  n := G.n
  sc := G.sc
  kd := G.kd
  nd := G.nd
  un := G.un
  rm := G.rm
  fn := G.fn
  fns := fun hc x f ps h => ⟨(G.fns hc x f ps h).ex⟩
  wr := G.wr
  calm := fun h => ⟨(G.calm h).1, p⟩
  tk := t
  topC := G.topC
  su := fun z => by rw [hc] at z; cases z
def Sc.sui (S : Sc) : Sc := ⟨S.N, S.sc, S.top, false⟩
theorem Good.sui {P : Pg} {c : CF} {S : Sc} {C : Cz} (G : Good P c S C) {a : Addr} {oe : Obj} {pn : List (Addr × Obj)} {i k : Nat} {d : Addr} (hk : ∃ n f, (n, k, f) ∈ P.xc) (hz : Zc (.ref (C.ca k)) (some d) oe) (hv : ∃ vs, oe.data = .fields vs) : Good P c S.sui (C.suite a oe pn i k d) where
  n := G.n
  sc := G.sc
  kd := G.kd
  nd := G.nd
  un := G.un
  rm := fun h => by cases h
  fn := G.fn
  fns := fun h => by cases h
  wr := G.wr
  calm := fun h => by cases h
  tk := takes0
  topC := fun _ h => by cases h
  su := fun _ => ⟨C, a, oe, pn, i, k, d, rfl, hk, hz, hv⟩

/-! ### names -/
def pl (x : Str) : Bool := !(x == ("__debug__" : Str)) && !(x == ("__classdict__" : Str))
def visB (S : Sc) (x : Str) : Bool := match S.sc.names.lookup x with
  | some .local => true
  | some .cell => true
  | some .free => true
  | _ => false
def locB (S : Sc) (x : Str) : Bool := match S.sc.names.lookup x with
  | some .local => true
  | some .cell => S.top
  | _ => false
def loc1 (S : Sc) (x : Str) : Bool := match S.sc.names.lookup x with
  | some .local => true
  | _ => false
def glB (S : Sc) (x : Str) : Bool := match S.sc.names.lookup x with
  | some .globalImplicit => true
  | _ => false
def atB (S : Sc) (i : Nat) (x : Str) : Bool := decide (S.N[i]? = some x)
def frB (P : Pg) (x : Str) : Bool := P.fr.any fun y => decide (y = x)
def all2 {α β : Type} (f : α → β → Bool) : List α → List β → Bool
  | [], [] => true
  | a :: as, b :: bs => f a b && all2 f as bs
  | _, _ => false
section
variable {P : Pg} {c : CF} {S : Sc} {C : Cz} {x : Str} {i : Nat}
theorem pl_ok (h : pl x = true) : (x == ("__debug__" : Str)) = false ∧ (x == ("__classdict__" : Str)) = false := by
  unfold pl at h
  rw [Bool.and_eq_true, Bool.not_eq_true', Bool.not_eq_true'] at h
  exact h
theorem vis_ok (G : Good P c S C) (h : visB S x = true) : Vis C.X.env.scope x := by
  rw [G.sc]
  unfold visB at h
  split at h
  · exact .inl ‹_›
  · exact .inr (.inl ‹_›)
  · exact .inr (.inr ‹_›)
  · cases h
theorem loc_ok (G : Good P c S C) (h : locB S x = true) : Loc C.X.env.scope x ∧ (C.X.fn x = true ∨ C.X.env.scope.names.lookup x = some .local) := by
  rw [G.sc]
  unfold locB at h
  split at h
  · exact ⟨.inl ‹_›, .inr ‹_›⟩
  · exact ⟨.inr ‹_›, .inl (G.fn h x)⟩
  · cases h
theorem loc1_ok (G : Good P c S C) (h : loc1 S x = true) : C.X.env.scope.names.lookup x = some .local := by
  rw [G.sc]
  unfold loc1 at h
  split at h
  · assumption
  · cases h
theorem gl_ok (G : Good P c S C) (h : glB S x = true) : Gl C.X x := by
  show C.X.env.scope.names.lookup x = _
  rw [G.sc]
  unfold glB at h
  split at h
  · assumption
  · cases h
theorem at_ok (G : Good P c S C) (h : atB S i x = true) : C.X.N[i]? = some x := by
  rw [G.n]
  exact of_decide_eq_true h
theorem fr_ok (G : Good P c S C) (h : frB P x = true) : C.X.mg x = none := by
  obtain ⟨y, hy, e⟩ := List.any_eq_true.mp h
  have e := of_decide_eq_true e
  subst e
  exact G.wr.fr _ hy
end

/-! ### targets -/
mutual
def ckG (S : Sc) : IG → Expr → Bool
  | .nm i, .Name x _ => atB S i x && locB S x
  | .tp gs, .Tuple es _ _ => S.calm && ckGs S gs es
  | _, _ => false
def ckGs (S : Sc) : List IG → List Expr → Bool
  | [], [] => true
  | g :: gs, e :: es => ckG S g e && ckGs S gs es
  | _, _ => false
end
section
variable {P : Pg} {c : CF} {S : Sc} {C : Cz}
theorem ckGs_len : ∀ {gs : List IG} {es : List Expr}, ckGs S gs es = true → es.length = gs.length ∧ es.all notStar = true
  | [], [], _ => ⟨rfl, rfl⟩
  | [], _ :: _, h => by simp [ckGs] at h
  | _ :: _, [], h => by simp [ckGs] at h
  | g :: gs, e :: es, h => by
    simp only [ckGs, Bool.and_eq_true] at h
    obtain ⟨h1, h2⟩ := ckGs_len h.2
    refine ⟨congrArg Nat.succ h1, ?_⟩
    rw [List.all_cons, h2, Bool.and_true]
    cases g <;> cases e <;> first | rfl | (simp [ckG] at h)
mutual
theorem ckG_ok (G : Good P c S C) : ∀ {g : IG} {e : Expr}, ckG S g e = true → SG C e g
  | .nm i, e, h => by
    cases e with
    | Name x pos =>
      simp only [ckG, Bool.and_eq_true] at h
      obtain ⟨l1, l2⟩ := loc_ok G h.2
      exact sg_nm G.nd (at_ok G h.1) l1 l2
    | _ => simp [ckG] at h
  | .tp gs, e, h => by
    cases e with
    | Tuple es k pos =>
      simp only [ckG, Bool.and_eq_true] at h
      obtain ⟨l1, l2⟩ := ckGs_len h.2
      exact sg_tp (G.calm h.1).1 l2 l1 (ckGs_ok G h.2)
    | _ => simp [ckG] at h
theorem ckGs_ok (G : Good P c S C) : ∀ {gs : List IG} {es : List Expr}, ckGs S gs es = true → SGs C es gs
  | [], [], _ => sgs_nil
  | [], _ :: _, h => by simp [ckGs] at h
  | _ :: _, [], h => by simp [ckGs] at h
  | g :: gs, e :: es, h => by
    have hl := (ckGs_len h).2
    rw [List.all_cons, Bool.and_eq_true] at hl
    simp only [ckGs, Bool.and_eq_true] at h
    exact sgs_cons hl.1 (ckG_ok G h.1) (ckGs_ok G h.2)
end
end

/-! ### one level over another -/
structure CK where
  E : Sc → IE → Expr → Bool
  V : Sc → IV → Expr → Bool
  T : Sc → IT → Expr → Bool
  U : Sc → IU → Expr → Bool
  S : Sc → List IS → List Stmt → Bool
structure Snd (P : Pg) (c : CF) (k : CK) (s : SF) : Prop where
  E : ∀ {S : Sc} {C : Cz} {i : IE} {e : Expr}, Good P c S C → k.E S i e = true → SE C e (s.E i)
  V : ∀ {S : Sc} {C : Cz} {i : IV} {e : Expr}, Good P c S C → k.V S i e = true → SV C e (s.V i)
  T : ∀ {S : Sc} {C : Cz} {i : IT} {e : Expr}, Good P c S C → k.T S i e = true → STt C e (s.T i)
  U : ∀ {S : Sc} {C : Cz} {i : IU} {e : Expr}, Good P c S C → k.U S i e = true → SU C e (s.U i)
  S : ∀ {S : Sc} {C : Cz} {i : List IS} {e : List Stmt}, Good P c S C → k.S S i e = true → SSs C e (s.S i)

section
variable (P : Pg) (k : CK) (S : Sc)
def ckVar (i : Nat) : Expr → Bool
  | .Name x _ => atB S i x && visB S x && pl x
  | _ => false
def ckCst (w : W) : Expr → Bool
  | .Constant (.int i) _ _ => (match w with | .int j => decide (i = j) | _ => false)
  | .Constant (.bool i) _ _ => (match w with | .bl j => i == j | _ => false)
  | .Constant .none _ _ => (match w with | .non => true | _ => false)
  | .Constant (.str x) _ _ => (match w with | .str s => decide (x = sv s) | _ => false)
  | .Name x _ => glB S x && pl x && (match P.cs.lookup x with | some u => beqW u w | none => false)
  | _ => false
def ckA (es : List IE) (xs : List Expr) : Bool := all2 (fun e x => notStar x && k.E S e x) es xs
def ckAV (es : List IV) (xs : List Expr) : Bool := all2 (fun e x => notStar x && k.V S e x) es xs
def ckA1 : IA → Expr → Bool
  | .d e, x => k.E S e x
  | .r i, x => ckVar S i x
  | .u u, x => k.U S u x
def ckAA (es : List IA) (xs : List Expr) : Bool := all2 (fun e x => notStar x && ckA1 k S e x) es xs
def ckTup (es : List IE) : Expr → Bool
  | .Tuple xs _ _ => ckA k S es xs && Nat.ble es.length size
  | _ => false
def ckBin (op : B2) (a b : IV) : Expr → Bool
  | .BinOp x o y _ => decide (o = op.op) && k.V S a x && k.V S b y
  | _ => false
def ckNeg (a : IE) : Expr → Bool
  | .UnaryOp .USub x _ => k.E S a x
  | _ => false
def ckNot (a : IE) : Expr → Bool
  | .UnaryOp .Not x _ => k.E S a x
  | _ => false
def ckCmp (op : C2) (a b : IV) : Expr → Bool
  | .Compare x [o] [y] _ => decide (o = op.op) && !behindInMarks op.op y && k.V S a x && k.V S b y
  | _ => false
def ckChn (op op' : C2) (a b d : IV) : Expr → Bool
  | .Compare x [o, o'] [y, z] _ => decide (o = op.op) && decide (o' = op'.op) && !lastMarks [op.op, op'.op] [y, z] && k.V S a x && k.V S b y && k.V S d z
  | _ => false
def ckAnd (es : List IE) : Expr → Bool
  | .BoolOp .And xs _ => all2 (k.E S) es xs && !xs.isEmpty
  | _ => false
def ckOr (es : List IE) : Expr → Bool
  | .BoolOp .Or xs _ => all2 (k.E S) es xs && !xs.isEmpty
  | _ => false
def ckIte (t : IT) (a b : IE) : Expr → Bool
  | .IfExp z x y _ => k.T S t z && k.E S a x && k.E S b y
  | _ => false
def ckIdx (a : IV) (i : IE) : Expr → Bool
  | .Subscript x y _ => plainIx y && k.V S a x && k.E S i y
  | _ => false
def ckDget (i : Nat) (e d : IE) : Expr → Bool
  | .Call (.Attribute (.Name x npos) m apos) [y, z] [] pos => decide (m = "get") && ckVar S i (.Name x npos) && notStar y && notStar z && (apos.endLine == pos.line) && k.E S e y && k.E S d z
  | _ => false
def ckApp (i : Nat) (e : IE) : Expr → Bool
  | .Call (.Attribute (.Name x npos) m apos) [y] [] pos => decide (m = "append") && ckVar S i (.Name x npos) && notStar y && (apos.endLine == pos.line) && k.E S e y
  | _ => false
def ckExt (i : Nat) (e : IV) : Expr → Bool
  | .Call (.Attribute (.Name x npos) m apos) [y] [] pos => decide (m = "extend") && ckVar S i (.Name x npos) && notStar y && (apos.endLine == pos.line) && k.V S e y
  | _ => false
def fnB (x : Str) (f n : Nat) : Bool := match P.fns.lookup x with
  | some (g, ps) => Nat.beq g f && Nat.beq ps.length n
  | none => false
def ckCall (f : Nat) (es : List IA) : Expr → Bool
  | .Call (.Name x _) xs [] _ => S.calm && glB S x && pl x && fnB P x f xs.length && ckAA k S es xs
  | _ => false
def ckIsi (a : IV) (t : Ty) : Expr → Bool
  | .Call (.Name x _) [y, .Name z _] [] _ => decide (x = "isinstance") && decide (z = t.name) && glB S x && frB P x && glB S z && frB P z && notStar y && k.V S a y
  | _ => false
def ckBlt (f : Bt) (vs : List IV) : Expr → Bool
  | .Call (.Name x _) (y :: ys) [] _ => S.calm && decide (x = f.name) && glB S x && frB P x && ckAV k S vs (y :: ys)
  | _ => false
def ckXfl (i kf : Nat) : Expr → Bool
  | .Attribute (.Name x npos) f _ => !S.calm && ckVar S i (.Name x npos) && decide (f = nmS kf) && decide (kf ∈ P.fl)
  | _ => false
def xisB (z : Str) (cs no : List Nat) : Bool := (cs.all fun c => decide ((c, z, true) ∈ P.isb)) && no.all fun c => decide ((c, z, false) ∈ P.isb)
def ckXis (i : Nat) (cs no : List Nat) : Expr → Bool
  | .Call (.Name x _) [.Name y npos, .Name z _] [] _ => !S.calm && decide (x = "isinstance") && glB S x && frB P x && ckVar S i (.Name y npos) && glB S z && pl z && xisB P z cs no &&
    (match P.oc.lookup z with
     | some _ => true
     | none => frB P z && decide (z ≠ "__name__") && (match bootBuiltins z with | some (.type _) => true | _ => false))
  | _ => false
def ckO (a : Option IE) (e : Option Expr) : Bool := match a, e with
  | none, none => true
  | some a, some e => k.E S a e
  | _, _ => false
def ckSlc (a : IV) (lo hi : Option IE) : Expr → Bool
  | .Subscript x (.Slice l u none _) _ => k.V S a x && ckO k S lo l && ckO k S hi u
  | _ => false
def ckE : IE → Expr → Bool
  | .var i => ckVar S i
  | .cst w => ckCst P S w
  | .tup es => ckTup k S es
  | .frz u => k.U S u
  | .bin op a b => ckBin k S op a b
  | .neg a => ckNeg k S a
  | .cmp op a b => ckCmp k S op a b
  | .chn op op' a b d => ckChn k S op op' a b d
  | .and es => ckAnd k S es
  | .or es => ckOr k S es
  | .not a => ckNot k S a
  | .ite t a b => ckIte k S t a b
  | .idx a i => ckIdx k S a i
  | .slc a lo hi => ckSlc k S a lo hi
  | .didx a i => ckIdx k S a i
  | .dget i e d => ckDget k S i e d
  | .isi e t => ckIsi P k S e t
  | .blt f vs => ckBlt P k S f vs
  | .app i e => ckApp k S i e
  | .ext i e => ckExt k S i e
  | .xfl i kf => ckXfl P S i kf
  | .xis i cs no => ckXis P S i cs no
  | .unk => fun _ => true
def ckV : IV → Expr → Bool
  | .e i => k.E S i
  | .s i => ckVar S i
  | .u u => k.U S u
def plainT : Expr → Bool
  | .Call _ _ _ _ => true
  | .Name _ _ => true
  | .Subscript _ _ _ => true
  | .Constant _ _ _ => true
  | _ => false
def ckVal (i : IE) (e : Expr) : Bool := plainT e && k.E S i e
def ckAndT (es : List IT) : Expr → Bool
  | .BoolOp .And xs _ => all2 (k.T S) es xs && !xs.isEmpty
  | _ => false
def ckOrT (es : List IT) : Expr → Bool
  | .BoolOp .Or xs _ => all2 (k.T S) es xs && !xs.isEmpty
  | _ => false
def ckNotT (a : IT) : Expr → Bool
  | .UnaryOp .Not x _ => k.T S a x
  | _ => false
def ckT : IT → Expr → Bool
  | .val i => ckVal k S i
  | .cmp op a b => ckCmp k S op a b
  | .chn op op' a b d => ckChn k S op op' a b d
  | .and ts => ckAndT k S ts
  | .or ts => ckOrT k S ts
  | .not t => ckNotT k S t
def isTup : Expr → Bool
  | .Tuple _ _ _ => true
  | _ => false
def ckRng (a : IE) : Expr → Bool
  | .Call (.Name x _) [y] [] _ => decide (x = "range") && glB S x && frB P x && notStar y && k.E S a y
  | _ => false
def ckRng2 (a b : IE) : Expr → Bool
  | .Call (.Name x _) [y, z] [] _ => decide (x = "range") && glB S x && frB P x && notStar y && notStar z && k.E S a y && k.E S b z
  | _ => false
def ckZip (a b : IV) : Expr → Bool
  | .Call (.Name x _) [y, z] [] _ => decide (x = "zip") && glB S x && frB P x && notStar y && notStar z && k.V S a y && k.V S b z
  | _ => false
def ckEnm (a : IV) : Expr → Bool
  | .Call (.Name x _) [y] [] _ => decide (x = "enumerate") && glB S x && frB P x && notStar y && k.V S a y
  | _ => false
def ckI (tg : Expr) : II → Expr → Bool
  | .v a, e => k.V S a e
  | .rng a, e => ckRng P k S a e
  | .rng2 a b, e => ckRng2 P k S a b e
  | .zip a b, e => isTup tg && ckZip P k S a b e
  | .enm a, e => isTup tg && ckEnm P k S a e
def ownN (N : List Str) (own : List Nat) : List (Str × Nat) := own.map fun i => ((N[i]?).getD "", i)
def notSet : Expr → Bool
  | .Set _ _ _ => false
  | _ => true
def fnK (scope : Scope) : Bool := match scope.kind with
  | .function => true
  | _ => false
def ckIfs (S : Sc) (t : Option IT) : List Expr → Bool
  | [] => (match t with | none => true | some _ => false)
  | [e] => (match t with | some t => k.T S t e | none => false)
  | _ => false
def ckComp (elt : IE) (g : IG) (own : List Nat) (it : II) (t : Option IT) (elt' tg iter : Expr) (ifs : List Expr) (scope : Scope) : Bool :=
  S.calm && fnK scope && ckI P k S tg it iter && blkC S.N S.sc scope (ownN S.N own) && ckG (S.blk scope) g tg && ckIfs k (S.blk scope) t ifs && k.E (S.blk scope) elt elt' && notSet iter && (slotsG g).all fun i => decide (i ∈ own)
def ckLc (elt : IE) (g : IG) (own : List Nat) (it : II) (t : Option IT) : Expr → Bool
  | .ListComp elt' [⟨tg, iter, ifs, 0⟩] scope _ => ckComp P k S elt g own it t elt' tg iter ifs scope
  | _ => false
def ckLst (es : List IE) : Expr → Bool
  | .List xs _ => ckA k S es xs && Nat.ble es.length size
  | _ => false
def ckCat (a b : IV) : Expr → Bool
  | .BinOp x .Add y _ => k.V S a x && k.V S b y
  | _ => false
def ckRep (a : IV) (n : IE) : Expr → Bool
  | .BinOp x .Mult y _ => k.V S a x && k.E S n y
  | _ => false
def ckOf (f : Str) (a : IV) : Expr → Bool
  | .Call (.Name x _) [y] [] _ => decide (x = f) && glB S x && frB P x && notStar y && k.V S a y
  | _ => false
def ckDic : Expr → Bool
  | .Dict [] [] _ => true
  | _ => false
def ckPrs : List (IE × IE) → List (Option Expr) → List Expr → Bool
  | [], [], [] => true
  | p :: ps, some x :: xs, y :: ys => k.E S p.1 x && k.E S p.2 y && ckPrs ps xs ys
  | _, _, _ => false
def ckDlt (ps : List (IE × IE)) : Expr → Bool
  | .Dict xs ys _ => ckPrs k S ps xs ys && Nat.ble ps.length 15 && Nat.blt 0 ps.length
  | _ => false
def ckU : IU → Expr → Bool
  | .d e => k.E S e
  | .mv i => ckVar S i
  | .lst es => ckLst k S es
  | .comp elt g own it t => ckLc P k S elt g own it t
  | .cat a b => ckCat k S a b
  | .rep a n => ckRep k S a n
  | .slc a lo hi => ckSlc k S a lo hi
  | .lof a => ckOf P k S "list" a
  | .srt a => fun e => S.calm && ckOf P k S "sorted" a e
  | .ndic => ckDic
  | .dlt ps => ckDlt k S ps
  | .call f es => ckCall P k S f es
  | .callK _ _ => fun _ => false
end
end FM


set_option Elab.async false
set_option linter.all false
set_option maxRecDepth 100000
set_option maxHeartbeats 2000000
namespace FM
open PySem L2
section
variable {P : Pg} {k : CK} {S : Sc} {C : Cz} {c : CF} {s : SF} (Y : Snd P c k s) (G : Good P c S C)
include G
theorem var_is {i : Nat} {e : Expr} (h : ckVar S i e = true) : ∃ x pos, e = .Name x pos ∧ C.X.N[i]? = some x ∧ Vis C.X.env.scope x ∧ (x == ("__debug__" : Str)) = false ∧ (x == ("__classdict__" : Str)) = false := by
  unfold ckVar at h
  split at h
  · simp only [Bool.and_eq_true] at h
    obtain ⟨p1, p2⟩ := pl_ok h.2
    exact ⟨_, _, rfl, at_ok G h.1.1, vis_ok G h.1.2, p1, p2⟩
  · cases h
theorem var_ok {i : Nat} {e : Expr} (h : ckVar S i e = true) : SE C e (stepE s (.var i)) := by
  obtain ⟨x, pos, rfl, h1, h2, h3, h4⟩ := var_is G h
  exact se_var h1 h2 h3 h4
theorem cst_ok {w : W} {e : Expr} (h : ckCst P S w e = true) : SE C e (stepE s (.cst w)) := by
  unfold ckCst at h
  split at h
  · split at h
    · have e := of_decide_eq_true h
      subst e
      exact se_const pe_int fun _ => rfl
    · cases h
  · split at h
    · have e := eq_of_beq h
      subst e
      exact se_const pe_bl fun _ => rfl
    · cases h
  · split at h
    · exact se_const pe_non fun _ => rfl
    · cases h
  · split at h
    · have e := of_decide_eq_true h
      subst e
      exact se_const pe_str fun _ => rfl
    · cases h
  · rename_i x pos
    simp only [Bool.and_eq_true] at h
    obtain ⟨⟨h1, h2⟩, h3⟩ := h
    split at h3
    · rename_i u hu
      have e := beqW_iff h3
      subst e
      obtain ⟨v, z, m, r, q⟩ := G.wr.cs _ _ hu
      exact se_const (pe_glob (gl_ok G h1) m r (pl_ok h2).1) q
    · cases h3
  · cases h
include Y
theorem a_ok : ∀ {es : List IE} {xs : List Expr}, ckA k S es xs = true → SA C xs (evs s.E es) ∧ xs.all notStar = true ∧ xs.length = es.length
  | [], [], _ => ⟨sa_nil, rfl, rfl⟩
  | [], _ :: _, h => by simp [ckA, all2] at h
  | _ :: _, [], h => by simp [ckA, all2] at h
  | e :: es, x :: xs, h => by
    simp only [ckA, all2, Bool.and_eq_true] at h
    obtain ⟨h1, h2, h3⟩ := a_ok (es := es) (xs := xs) h.2
    exact ⟨sa_cons h.1.1 (Y.E G h.1.2) h1, by rw [List.all_cons, h2, h.1.1]; rfl, congrArg Nat.succ h3⟩
theorem av_ok : ∀ {es : List IV} {xs : List Expr}, ckAV k S es xs = true → SAV C xs (evs s.V es) ∧ xs.all notStar = true ∧ xs.length = es.length
  | [], [], _ => ⟨sav_nil, rfl, rfl⟩
  | [], _ :: _, h => by simp [ckAV, all2] at h
  | _ :: _, [], h => by simp [ckAV, all2] at h
  | e :: es, x :: xs, h => by
    simp only [ckAV, all2, Bool.and_eq_true] at h
    obtain ⟨h1, h2, h3⟩ := av_ok (es := es) (xs := xs) h.2
    exact ⟨sav_cons h.1.1 (Y.V G h.1.2) h1, by rw [List.all_cons, h2, h.1.1]; rfl, congrArg Nat.succ h3⟩
theorem a1_ok : ∀ {i : IA} {e : Expr}, ckA1 k S i e = true → SA1 C e (stepA s i)
  | .d i, e, h => sa1_d (Y.E G h)
  | .u i, e, h => sa1_u (Y.U G h)
  | .r i, e, h => by
    obtain ⟨x, pos, rfl, h1, h2, h3, h4⟩ := var_is G (show ckVar S i e = true from h)
    exact sa1_r h1 h2 h3 h4
theorem aa_ok : ∀ {es : List IA} {xs : List Expr}, ckAA k S es xs = true → SAA C xs (evs (stepA s) es) ∧ xs.all notStar = true ∧ xs.length = es.length
  | [], [], _ => ⟨saa_nil, rfl, rfl⟩
  | [], _ :: _, h => by simp [ckAA, all2] at h
  | _ :: _, [], h => by simp [ckAA, all2] at h
  | e :: es, x :: xs, h => by
    simp only [ckAA, all2, Bool.and_eq_true] at h
    obtain ⟨h1, h2, h3⟩ := aa_ok (es := es) (xs := xs) h.2
    exact ⟨saa_cons h.1.1 (a1_ok Y G h.1.2) h1, by rw [List.all_cons, h2, h.1.1]; rfl, congrArg Nat.succ h3⟩
theorem tup_ok {es : List IE} {e : Expr} (h : ckTup k S es e = true) : SE C e (stepE s (.tup es)) := by
  unfold ckTup at h
  split at h
  · rw [Bool.and_eq_true] at h
    obtain ⟨h1, h2, h3⟩ := a_ok Y G h.1
    exact se_tup h1 (Nat.ble_eq.mp h.2)
  · cases h
theorem bin_ok {op : B2} {a b : IV} {e : Expr} (h : ckBin k S op a b e = true) : SE C e (stepE s (.bin op a b)) := by
  unfold ckBin at h
  split at h
  · simp only [Bool.and_eq_true, decide_eq_true_eq] at h
    obtain ⟨⟨rfl, h1⟩, h2⟩ := h
    exact se_bin (Y.V G h1) (Y.V G h2)
  · cases h
theorem neg_ok {a : IE} {e : Expr} (h : ckNeg k S a e = true) : SE C e (stepE s (.neg a)) := by
  unfold ckNeg at h
  split at h
  · exact se_neg (Y.E G h)
  · cases h
theorem not_ok {a : IE} {e : Expr} (h : ckNot k S a e = true) : SE C e (stepE s (.not a)) := by
  unfold ckNot at h
  split at h
  · exact se_not (Y.E G h)
  · cases h
theorem cmp_ok {op : C2} {a b : IV} {e : Expr} (h : ckCmp k S op a b e = true) : SE C e (stepE s (.cmp op a b)) := by
  unfold ckCmp at h
  split at h
  · simp only [Bool.and_eq_true, decide_eq_true_eq, Bool.not_eq_true'] at h
    obtain ⟨⟨⟨rfl, h0⟩, h1⟩, h2⟩ := h
    exact se_cmp G.un (Y.V G h1) (Y.V G h2) h0
  · cases h
theorem chn_ok {op op' : C2} {a b d : IV} {e : Expr} (h : ckChn k S op op' a b d e = true) : SE C e (stepE s (.chn op op' a b d)) := by
  unfold ckChn at h
  split at h
  · simp only [Bool.and_eq_true, decide_eq_true_eq, Bool.not_eq_true'] at h
    obtain ⟨⟨⟨⟨⟨rfl, rfl⟩, h0⟩, h1⟩, h2⟩, h3⟩ := h
    exact se_chn G.un (Y.V G h1) (Y.V G h2) (Y.V G h3) h0
  · cases h
theorem and_oks {pos : Pos} : ∀ {es : List IE} {xs : List Expr}, all2 (k.E S) es xs = true → xs ≠ [] → SE C (.BoolOp .And xs pos) (andE s es)
  | [], [], _, n => absurd rfl n
  | [], _ :: _, h, _ => by simp [all2] at h
  | _ :: _, [], h, _ => by simp [all2] at h
  | [e], [x], h, _ => by
    simp only [all2, Bool.and_eq_true] at h
    exact se_one (Y.E G h.1)
  | [e], x :: y :: xs, h, _ => by simp [all2] at h
  | e :: f :: es, [x], h, _ => by simp [all2] at h
  | e :: f :: es, x :: y :: xs, h, _ => by
    rw [all2, Bool.and_eq_true] at h
    exact se_and (Y.E G h.1) (and_oks (es := f :: es) (xs := y :: xs) h.2 (by simp))
theorem or_oks {pos : Pos} : ∀ {es : List IE} {xs : List Expr}, all2 (k.E S) es xs = true → xs ≠ [] → SE C (.BoolOp .Or xs pos) (orE s es)
  | [], [], _, n => absurd rfl n
  | [], _ :: _, h, _ => by simp [all2] at h
  | _ :: _, [], h, _ => by simp [all2] at h
  | [e], [x], h, _ => by
    simp only [all2, Bool.and_eq_true] at h
    exact se_one (Y.E G h.1)
  | [e], x :: y :: xs, h, _ => by simp [all2] at h
  | e :: f :: es, [x], h, _ => by simp [all2] at h
  | e :: f :: es, x :: y :: xs, h, _ => by
    rw [all2, Bool.and_eq_true] at h
    exact se_or (Y.E G h.1) (or_oks (es := f :: es) (xs := y :: xs) h.2 (by simp))
theorem and_ok {es : List IE} {e : Expr} (h : ckAnd k S es e = true) : SE C e (stepE s (.and es)) := by
  unfold ckAnd at h
  split at h
  · simp only [Bool.and_eq_true, Bool.not_eq_true', List.isEmpty_eq_false_iff] at h
    exact and_oks Y G h.1 h.2
  · cases h
theorem or_ok {es : List IE} {e : Expr} (h : ckOr k S es e = true) : SE C e (stepE s (.or es)) := by
  unfold ckOr at h
  split at h
  · simp only [Bool.and_eq_true, Bool.not_eq_true', List.isEmpty_eq_false_iff] at h
    exact or_oks Y G h.1 h.2
  · cases h
theorem ite_ok {t : IT} {a b : IE} {e : Expr} (h : ckIte k S t a b e = true) : SE C e (stepE s (.ite t a b)) := by
  unfold ckIte at h
  split at h
  · simp only [Bool.and_eq_true] at h
    exact se_ite (Y.T G h.1.1) (Y.E G h.1.2) (Y.E G h.2)
  · cases h
theorem idx_ok {a : IV} {i : IE} {e : Expr} (h : ckIdx k S a i e = true) : SE C e (stepE s (.idx a i)) := by
  unfold ckIdx at h
  split at h
  · simp only [Bool.and_eq_true] at h
    exact se_idx (Y.V G h.1.2) (Y.E G h.2) h.1.1
  · cases h
omit Y in
theorem un1 : C.X.A.units + 1 < cLine := Nat.lt_of_le_of_lt (Nat.add_le_add_left (by decide : 1 ≤ 64) _) G.un
theorem didx_ok {a : IV} {i : IE} {e : Expr} (h : ckIdx k S a i e = true) : SE C e (stepE s (.didx a i)) := by
  unfold ckIdx at h
  split at h
  · simp only [Bool.and_eq_true] at h
    exact se_didx (un1 G) (Y.V G h.1.2) (Y.E G h.2) h.1.1
  · cases h
theorem dget_ok {i : Nat} {e d : IE} {x : Expr} (h : ckDget k S i e d x = true) : SE C x (stepE s (.dget i e d)) := by
  unfold ckDget at h
  split at h
  · simp only [Bool.and_eq_true, decide_eq_true_eq] at h
    obtain ⟨⟨⟨⟨⟨⟨rfl, h1⟩, h2⟩, h3⟩, h4⟩, h5⟩, h6⟩ := h
    obtain ⟨x, pos, ex, v1, v2, v3, v4⟩ := var_is G h1
    cases ex
    exact se_dget v1 v2 v3 v4 (un1 G) (Y.E G h5) (Y.E G h6) h2 h3 h4
  · cases h
theorem app_ok {i : Nat} {e : IE} {x : Expr} (h : ckApp k S i e x = true) : SE C x (stepE s (.app i e)) := by
  unfold ckApp at h
  split at h
  · simp only [Bool.and_eq_true, decide_eq_true_eq] at h
    obtain ⟨⟨⟨⟨rfl, h1⟩, h2⟩, h4⟩, h5⟩ := h
    obtain ⟨x, pos, ex, v1, v2, v3, v4⟩ := var_is G h1
    cases ex
    exact se_app v1 v2 v3 v4 (Y.E G h5) h2 h4
  · cases h
theorem ext_ok {i : Nat} {e : IV} {x : Expr} (h : ckExt k S i e x = true) : SE C x (stepE s (.ext i e)) := by
  unfold ckExt at h
  split at h
  · simp only [Bool.and_eq_true, decide_eq_true_eq] at h
    obtain ⟨⟨⟨⟨rfl, h1⟩, h2⟩, h4⟩, h5⟩ := h
    obtain ⟨x, pos, ex, v1, v2, v3, v4⟩ := var_is G h1
    cases ex
    exact se_ext v1 v2 v3 v4 (Y.V G h5) h2 h4
  · cases h
theorem call_ok {f : Nat} {es : List IA} {e : Expr} (h : ckCall P k S f es e = true) : SU C e (stepU c s (.call f es)) := by
  unfold ckCall at h
  split at h
  · rename_i x p xs pos
    simp only [Bool.and_eq_true] at h
    obtain ⟨⟨⟨⟨hc, h1⟩, h2⟩, h3⟩, h4⟩ := h
    obtain ⟨a1, a2, a3⟩ := aa_ok Y G h4
    unfold fnB at h3
    split at h3
    · rename_i g ps hl
      rw [Bool.and_eq_true, Nat.beq_eq, Nat.beq_eq] at h3
      obtain ⟨rfl, h5⟩ := h3
      obtain ⟨n, fa, fd, F, hr, hm, hk, hb⟩ := (G.fns hc _ _ _ hl).ex
      cases xs with
      | nil =>
        cases es with
        | cons _ _ => cases a3
        | nil => exact su_call0 (h := stepA s) F G.tk hr (gl_ok G h1) hm hk hb (pl_ok h2).1 h5.symm
      | cons y ys => exact su_call F G.tk hr (gl_ok G h1) hm hk hb (pl_ok h2).1 a2 (a3.symm.trans h5.symm) a1
    · cases h3
  · cases h
theorem isi_ok {a : IV} {t : Ty} {e : Expr} (h : ckIsi P k S a t e = true) : SE C e (stepE s (.isi a t)) := by
  unfold ckIsi at h
  split at h
  · simp only [Bool.and_eq_true, decide_eq_true_eq] at h
    obtain ⟨⟨⟨⟨⟨⟨⟨rfl, rfl⟩, h1⟩, h2⟩, h3⟩, h4⟩, h5⟩, h6⟩ := h
    exact se_isi (gl_ok G h1) (fr_ok G h2) (gl_ok G h3) (fr_ok G h4) h5 (Y.V G h6)
  · cases h
theorem blt_ok {f : Bt} {vs : List IV} {e : Expr} (h : ckBlt P k S f vs e = true) : SE C e (stepE s (.blt f vs)) := by
  unfold ckBlt at h
  split at h
  · simp only [Bool.and_eq_true, decide_eq_true_eq] at h
    obtain ⟨⟨⟨⟨hc, rfl⟩, h1⟩, h2⟩, h3⟩ := h
    obtain ⟨a1, a2, a3⟩ := av_ok Y G h3
    exact se_blt (G.calm hc).1 (gl_ok G h1) (fr_ok G h2) a2 a1
  · cases h
omit Y in
theorem xfl_ok {i kf : Nat} {e : Expr} (h : ckXfl P S i kf e = true) : SE C e (stepE s (.xfl i kf)) := by
  unfold ckXfl at h
  split at h
  · simp only [Bool.and_eq_true, decide_eq_true_eq, Bool.not_eq_true'] at h
    obtain ⟨⟨⟨hc, h1⟩, h2⟩, h3⟩ := h
    obtain ⟨C0, a, oe, pn, j, k', d, rfl, ⟨n, f, hx⟩, hz, hv⟩ := G.su hc
    obtain ⟨x, pos, ex, v1, v2, v3, v4⟩ := var_is G h1
    cases ex
    have hx1 := G.wr.xc _ _ _ hx
    have hx2 := G.wr.nof _ _ _ hx kf h3
    rw [← h2] at hx2
    exact se_xfl (C := C0) hx1.ec h2 hx2 hz hv v1 v2 v3 v4
  · cases h
omit Y in
theorem xis_ok {i : Nat} {cs no : List Nat} {e : Expr} (h : ckXis P S i cs no e = true) : SE C e (stepE s (.xis i cs no)) := by
  unfold ckXis at h
  split at h
  · rename_i x p y npos z zp cp
    simp only [Bool.and_eq_true, decide_eq_true_eq, Bool.not_eq_true'] at h
    obtain ⟨⟨⟨⟨⟨⟨⟨⟨hc, rfl⟩, h1⟩, h2⟩, h3⟩, h4⟩, h5⟩, h6⟩, h7⟩ := h
    have mI := fr_ok G h2
    have gI := gl_ok G h1
    have gZ := gl_ok G h4
    have W := G.wr
    obtain ⟨C0, a, oe, pn, j, k', d, rfl, ⟨n, f, hx⟩, hz, hv⟩ := G.su hc
    obtain ⟨x, pos, ex, v1, v2, v3, v4⟩ := var_is G h3
    cases ex
    obtain ⟨b1, b2⟩ : (∀ c ∈ cs, (c, z, true) ∈ P.isb) ∧ ∀ c ∈ no, (c, z, false) ∈ P.isb := by
      unfold xisB at h6
      rw [Bool.and_eq_true] at h6
      exact ⟨fun c hc => of_decide_eq_true (List.all_eq_true.mp h6.1 c hc), fun c hc => of_decide_eq_true (List.all_eq_true.mp h6.2 c hc)⟩
    split at h7
    · rename_i kz hl
      have hm := W.oc _ _ hl
      exact se_xis (C := C0) (cv := .ref (C0.ca kz)) (W.xc _ _ _ hx).ec hz hv v1 v2 v3 v4 gI mI (pe_glob (v := .ref (C0.ca kz)) gZ hm rfl (pl_ok h5).1) (fun u r => r) rfl
        (fun c hc => W.isb _ _ _ (b1 c hc) _ (.inl hm)) (fun c hc => W.isb _ _ _ (b2 c hc) _ (.inl hm))
    · simp only [Bool.and_eq_true, decide_eq_true_eq] at h7
      obtain ⟨⟨h8, h9⟩, h10⟩ := h7
      have hm := fr_ok (C := C0.suite a oe pn j k' d) G h8
      split at h10
      · rename_i T hT
        exact se_xis (C := C0) (cv := .type T) (W.xc _ _ _ hx).ec hz hv v1 v2 v3 v4 gI mI (pe_bltn (v := .ty T) gZ hm hT rfl h9 (pl_ok h5).1) (fun u r => r) rfl
          (fun c hc => W.isb _ _ _ (b1 c hc) _ (.inr ⟨hm, hT⟩)) (fun c hc => W.isb _ _ _ (b2 c hc) _ (.inr ⟨hm, hT⟩))
      · cases h10
  · cases h
theorem o_ok : ∀ {i : Option IE} {e : Option Expr}, ckO k S i e = true → SO C e (optE s i)
  | none, none, _ => so_none
  | some i, some e, h => so_some (Y.E G h)
  | none, some _, h => by cases h
  | some _, none, h => by cases h
theorem slcE_ok {a : IV} {lo hi : Option IE} {e : Expr} (h : ckSlc k S a lo hi e = true) : SE C e (stepE s (.slc a lo hi)) := by
  unfold ckSlc at h
  split at h
  · simp only [Bool.and_eq_true] at h
    exact se_slc (Y.V G h.1.1) (o_ok Y G h.1.2) (o_ok Y G h.2)
  · cases h
theorem e_ok : ∀ {i : IE} {e : Expr}, ckE P k S i e = true → SE C e (stepE s i)
  | .var _, _, h => var_ok G h
  | .cst _, _, h => cst_ok G h
  | .tup _, _, h => tup_ok Y G h
  | .frz _, _, h => SE.frz (Y.U G h)
  | .bin _ _ _, _, h => bin_ok Y G h
  | .neg _, _, h => neg_ok Y G h
  | .cmp _ _ _, _, h => cmp_ok Y G h
  | .chn _ _ _ _ _, _, h => chn_ok Y G h
  | .and _, _, h => and_ok Y G h
  | .or _, _, h => or_ok Y G h
  | .not _, _, h => not_ok Y G h
  | .ite _ _ _, _, h => ite_ok Y G h
  | .idx _ _, _, h => idx_ok Y G h
  | .slc _ _ _, _, h => slcE_ok Y G h
  | .didx _ _, _, h => didx_ok Y G h
  | .dget _ _ _, _, h => dget_ok Y G h
  | .isi _ _, _, h => isi_ok Y G h
  | .blt _ _, _, h => blt_ok Y G h
  | .app _ _, _, h => app_ok Y G h
  | .ext _ _, _, h => ext_ok Y G h
  | .xfl _ _, _, h => xfl_ok G h
  | .xis _ _ _, _, h => xis_ok G h
  | .unk, _, _ => se_unk
theorem v_ok : ∀ {i : IV} {e : Expr}, ckV k S i e = true → SV C e (stepV s i)
  | .e _, _, h => SV.e (Y.E G h)
  | .u _, _, h => SV.u (Y.U G h)
  | .s i, e, h => by
    obtain ⟨x, pos, rfl, h1, h2, h3, h4⟩ := var_is G (show ckVar S i e = true from h)
    exact sv_var h1 h2 h3 h4
/-! ### tests -/
theorem val_ok {i : IE} {e : Expr} (h : ckVal k S i e = true) : STt C e (stepT s (.val i)) := by
  unfold ckVal at h
  rw [Bool.and_eq_true] at h
  refine stt_of (Y.E G h.2) fun t p => pt_val p ?_
  intro whole
  have h1 := h.1
  cases e <;> first | rfl | cases h1
theorem cmpT_ok {op : C2} {a b : IV} {e : Expr} (h : ckCmp k S op a b e = true) : STt C e (stepT s (.cmp op a b)) := by
  unfold ckCmp at h
  split at h
  · simp only [Bool.and_eq_true, decide_eq_true_eq, Bool.not_eq_true'] at h
    obtain ⟨⟨⟨rfl, h0⟩, h1⟩, h2⟩ := h
    exact stt_cmp G.un (Y.V G h1) (Y.V G h2) h0
  · cases h
theorem chnT_ok {op op' : C2} {a b d : IV} {e : Expr} (h : ckChn k S op op' a b d e = true) : STt C e (stepT s (.chn op op' a b d)) := by
  unfold ckChn at h
  split at h
  · simp only [Bool.and_eq_true, decide_eq_true_eq, Bool.not_eq_true'] at h
    obtain ⟨⟨⟨⟨⟨rfl, rfl⟩, h0⟩, h1⟩, h2⟩, h3⟩ := h
    exact stt_chn G.un (Y.V G h1) (Y.V G h2) (Y.V G h3) h0
  · cases h
theorem andT_oks {pos : Pos} : ∀ {es : List IT} {xs : List Expr}, all2 (k.T S) es xs = true → xs ≠ [] → SW C (.BoolOp .And xs pos) (andT s es)
  | [], [], _, n => absurd rfl n
  | [], _ :: _, h, _ => by simp [all2] at h
  | _ :: _, [], h, _ => by simp [all2] at h
  | [e], [x], h, _ => by
    simp only [all2, Bool.and_eq_true] at h
    exact sw_and1 (Y.T G h.1)
  | [e], x :: y :: xs, h, _ => by simp [all2] at h
  | e :: f :: es, [x], h, _ => by simp [all2] at h
  | e :: f :: es, x :: y :: xs, h, _ => by
    rw [all2, Bool.and_eq_true] at h
    exact sw_and (Y.T G h.1) (andT_oks (es := f :: es) (xs := y :: xs) h.2 (by simp))
theorem orT_oks {pos : Pos} : ∀ {es : List IT} {xs : List Expr}, all2 (k.T S) es xs = true → xs ≠ [] → SW C (.BoolOp .Or xs pos) (orT s es)
  | [], [], _, n => absurd rfl n
  | [], _ :: _, h, _ => by simp [all2] at h
  | _ :: _, [], h, _ => by simp [all2] at h
  | [e], [x], h, _ => by
    simp only [all2, Bool.and_eq_true] at h
    exact sw_or1 (Y.T G h.1)
  | [e], x :: y :: xs, h, _ => by simp [all2] at h
  | e :: f :: es, [x], h, _ => by simp [all2] at h
  | e :: f :: es, x :: y :: xs, h, _ => by
    rw [all2, Bool.and_eq_true] at h
    exact sw_or (Y.T G h.1) (orT_oks (es := f :: es) (xs := y :: xs) h.2 (by simp))
theorem andT_ok {es : List IT} {e : Expr} (h : ckAndT k S es e = true) : STt C e (stepT s (.and es)) := by
  unfold ckAndT at h
  split at h
  · simp only [Bool.and_eq_true, Bool.not_eq_true', List.isEmpty_eq_false_iff] at h
    exact (andT_oks Y G h.1 h.2).stt
  · cases h
theorem orT_ok {es : List IT} {e : Expr} (h : ckOrT k S es e = true) : STt C e (stepT s (.or es)) := by
  unfold ckOrT at h
  split at h
  · simp only [Bool.and_eq_true, Bool.not_eq_true', List.isEmpty_eq_false_iff] at h
    exact (orT_oks Y G h.1 h.2).stt
  · cases h
theorem notT_ok {a : IT} {e : Expr} (h : ckNotT k S a e = true) : STt C e (stepT s (.not a)) := by
  unfold ckNotT at h
  split at h
  · exact stt_not (Y.T G h)
  · cases h
theorem t_ok : ∀ {i : IT} {e : Expr}, ckT k S i e = true → STt C e (stepT s i)
  | .val _, _, h => val_ok Y G h
  | .cmp _ _ _, _, h => cmpT_ok Y G h
  | .chn _ _ _ _ _, _, h => chnT_ok Y G h
  | .and _, _, h => andT_ok Y G h
  | .or _, _, h => orT_ok Y G h
  | .not _, _, h => notT_ok Y G h
/-! ### walks -/
theorem rng_ok {tg : Expr} {a : IE} {e : Expr} (h : ckRng P k S a e = true) : SI C tg e (stepI s (.rng a)) := by
  unfold ckRng at h
  split at h
  · simp only [Bool.and_eq_true, decide_eq_true_eq] at h
    obtain ⟨⟨⟨⟨rfl, h1⟩, h2⟩, h3⟩, h4⟩ := h
    exact si_rng (gl_ok G h1) (fr_ok G h2) h3 (Y.E G h4)
  · cases h
theorem rng2_ok {tg : Expr} {a b : IE} {e : Expr} (h : ckRng2 P k S a b e = true) : SI C tg e (stepI s (.rng2 a b)) := by
  unfold ckRng2 at h
  split at h
  · simp only [Bool.and_eq_true, decide_eq_true_eq] at h
    obtain ⟨⟨⟨⟨⟨⟨rfl, h1⟩, h2⟩, h3⟩, h4⟩, h5⟩, h6⟩ := h
    exact si_rng2 (gl_ok G h1) (fr_ok G h2) h3 h4 (Y.E G h5) (Y.E G h6)
  · cases h
theorem zip_ok {tg : Expr} {a b : IV} {e : Expr} (ht : isTup tg = true) (h : ckZip P k S a b e = true) : SI C tg e (stepI s (.zip a b)) := by
  unfold ckZip at h
  split at h
  · simp only [Bool.and_eq_true, decide_eq_true_eq] at h
    obtain ⟨⟨⟨⟨⟨⟨rfl, h1⟩, h2⟩, h3⟩, h4⟩, h5⟩, h6⟩ := h
    cases tg with
    | Tuple es kk tp => exact si_zip (gl_ok G h1) (fr_ok G h2) h3 h4 (Y.V G h5) (Y.V G h6)
    | _ => cases ht
  · cases h
theorem enm_ok {tg : Expr} {a : IV} {e : Expr} (ht : isTup tg = true) (h : ckEnm P k S a e = true) : SI C tg e (stepI s (.enm a)) := by
  unfold ckEnm at h
  split at h
  · simp only [Bool.and_eq_true, decide_eq_true_eq] at h
    obtain ⟨⟨⟨⟨rfl, h1⟩, h2⟩, h3⟩, h5⟩ := h
    cases tg with
    | Tuple es kk tp => exact si_enm (gl_ok G h1) (fr_ok G h2) h3 (Y.V G h5)
    | _ => cases ht
  · cases h
theorem i_ok {tg : Expr} : ∀ {i : II} {e : Expr}, ckI P k S tg i e = true → SI C tg e (stepI s i)
  | .v _, _, h => si_v (Y.V G h)
  | .rng _, _, h => rng_ok Y G h
  | .rng2 _ _, _, h => rng2_ok Y G h
  | .zip _ _, _, h => by
    rw [ckI, Bool.and_eq_true] at h
    exact zip_ok Y G h.1 h.2
  | .enm _, _, h => by
    rw [ckI, Bool.and_eq_true] at h
    exact enm_ok Y G h.1 h.2
/-! ### what is just made -/
omit Y G in
theorem ownN_map (N : List Str) (own : List Nat) : (ownN N own).map (·.2) = own := by
  unfold ownN
  rw [List.map_map]
  exact List.map_id own
omit Y G in
theorem comp_eq {elt : IE} {g : IG} {own : List Nat} {it : II} {t : Option IT} : compM s elt g own it t = lcM (s.E elt) g own (stepI s it) (t.map s.T) := by
  cases t <;> rfl
structure CompOk (P : Pg) (C : Cz) (s : SF) (elt : IE) (g : IG) (own : List Nat) (it : II) (t : Option IT) (elt' tg iter : Expr) (ifs : List Expr) (scope : Scope) : Prop where
  i : SI C tg iter (stepI s it)
  ok : BlkOk C.X.N C.X.env.scope scope (ownN C.X.N own)
  tgt : ∀ st H a cl fp, SG (C.blk scope st H a cl fp) tg g
  t : TestOk C scope ifs (t.map s.T)
  e : ∀ st H a cl fp, SE (C.blk scope st H a cl fp) elt' (s.E elt)
  st : ∀ x, foldedSetIterable iter C.X.env x = pure x
  o : ∀ i ∈ slotsG g, i ∈ (ownN C.X.N own).map (·.2)
omit Y G in
theorem fnK_ok {scope : Scope} (h : fnK scope = true) : scope.kind = .function := by
  unfold fnK at h
  split at h
  · assumption
  · cases h
theorem compOk {elt : IE} {g : IG} {own : List Nat} {it : II} {t : Option IT} {elt' tg iter : Expr} {ifs : List Expr} {scope : Scope} (h : ckComp P k S elt g own it t elt' tg iter ifs scope = true) : S.calm = true ∧ CompOk P C s elt g own it t elt' tg iter ifs scope := by
  unfold ckComp at h
  simp only [Bool.and_eq_true] at h
  obtain ⟨⟨⟨⟨⟨⟨⟨⟨hc, h1⟩, h2⟩, h3⟩, h4⟩, h5⟩, h6⟩, h7⟩, h8⟩ := h
  have B : ∀ st H a cl fp, Good P c (S.blk scope) (C.blk scope st H a cl fp) := fun st H a cl fp => G.blk hc (fnK_ok h1) st H a cl fp
  refine ⟨hc, i_ok Y G h2, ?_, fun st H a cl fp => ckG_ok (B st H a cl fp) h4, ?_, fun st H a cl fp => Y.E (B st H a cl fp) h6, noSet ?_, ?_⟩
  · rw [G.n, G.sc]
    exact blkOk_by h3
  · cases ifs with
    | nil =>
      cases t with
      | none => exact trivial
      | some _ => cases h5
    | cons x ifs =>
      cases ifs with
      | cons _ _ => cases h5
      | nil =>
        cases t with
        | none => cases h5
        | some t => exact fun st H a cl fp => Y.T (B st H a cl fp) h5
  · cases iter <;> first | rfl | cases h7
  · rw [ownN_map]
    intro i hi
    exact of_decide_eq_true (List.all_eq_true.mp h8 i hi)
theorem lc_ok {elt : IE} {g : IG} {own : List Nat} {it : II} {t : Option IT} {e : Expr} (h : ckLc P k S elt g own it t e = true) : SU C e (stepU c s (.comp elt g own it t)) := by
  unfold ckLc at h
  split at h
  · obtain ⟨hc, q⟩ := compOk Y G h
    have := su_comp (pos := ‹Pos›) (G.calm hc).1 G.nd q.i q.ok q.tgt q.t q.e q.st q.o
    rw [ownN_map] at this
    show SU C _ (fun r => (compM s elt g own it t r).bind fun ws r1 => .ok (.l (ws.map U.d)) r1)
    rw [comp_eq]
    exact this
  · cases h
theorem lst_ok {es : List IE} {e : Expr} (h : ckLst k S es e = true) : SU C e (stepU c s (.lst es)) := by
  unfold ckLst at h
  split at h
  · rw [Bool.and_eq_true] at h
    obtain ⟨h1, h2, h3⟩ := a_ok Y G h.1
    exact su_lst h1 (Nat.ble_eq.mp h.2)
  · cases h
theorem cat_ok {a b : IV} {e : Expr} (h : ckCat k S a b e = true) : SU C e (stepU c s (.cat a b)) := by
  unfold ckCat at h
  split at h
  · rw [Bool.and_eq_true] at h
    exact su_cat (Y.V G h.1) (Y.V G h.2)
  · cases h
theorem rep_ok {a : IV} {b : IE} {e : Expr} (h : ckRep k S a b e = true) : SU C e (stepU c s (.rep a b)) := by
  unfold ckRep at h
  split at h
  · rw [Bool.and_eq_true] at h
    exact su_rep (Y.V G h.1) (Y.E G h.2)
  · cases h
theorem slc_ok {a : IV} {lo hi : Option IE} {e : Expr} (h : ckSlc k S a lo hi e = true) : SU C e (stepU c s (.slc a lo hi)) := by
  unfold ckSlc at h
  split at h
  · simp only [Bool.and_eq_true] at h
    exact su_slc (Y.V G h.1.1) (o_ok Y G h.1.2) (o_ok Y G h.2)
  · cases h
theorem lof_ok {a : IV} {e : Expr} (h : ckOf P k S "list" a e = true) : SU C e (stepU c s (.lof a)) := by
  unfold ckOf at h
  split at h
  · simp only [Bool.and_eq_true, decide_eq_true_eq] at h
    obtain ⟨⟨⟨⟨rfl, h1⟩, h2⟩, h3⟩, h5⟩ := h
    exact su_lof (gl_ok G h1) (fr_ok G h2) h3 (Y.V G h5)
  · cases h
theorem srt_ok {a : IV} {e : Expr} (hc : S.calm = true) (h : ckOf P k S "sorted" a e = true) : SU C e (stepU c s (.srt a)) := by
  unfold ckOf at h
  split at h
  · simp only [Bool.and_eq_true, decide_eq_true_eq] at h
    obtain ⟨⟨⟨⟨rfl, h1⟩, h2⟩, h3⟩, h5⟩ := h
    exact su_srt (G.calm hc).1 (gl_ok G h1) (fr_ok G h2) h3 (Y.V G h5)
  · cases h
omit Y in
theorem dic_ok {e : Expr} (h : ckDic e = true) : SU C e (stepU c s .ndic) := by
  unfold ckDic at h
  split at h
  · exact su_ndic
  · cases h
theorem prs_ok {pos : Pos} : ∀ {ps : List (IE × IE)} {xs : List (Option Expr)} {ys : List Expr}, ckPrs k S ps xs ys = true → SP2 C pos xs ys (evs (prM s.E) ps) ∧ xs.all (·.isSome) = true ∧ xs.length = ys.length ∧ xs.length = ps.length
  | [], [], [], _ => ⟨sp_nil, rfl, rfl, rfl⟩
  | [], [], _ :: _, h => by simp [ckPrs] at h
  | [], _ :: _, _, h => by simp [ckPrs] at h
  | _ :: _, [], _, h => by simp [ckPrs] at h
  | _ :: _, none :: _, _, h => by simp [ckPrs] at h
  | _ :: _, some _ :: _, [], h => by simp [ckPrs] at h
  | p :: ps, some x :: xs, y :: ys, h => by
    simp only [ckPrs, Bool.and_eq_true] at h
    obtain ⟨h1, h2, h3, h4⟩ := prs_ok (pos := pos) h.2
    exact ⟨sp_cons (Y.E G h.1.1) (Y.E G h.1.2) h1, by rw [List.all_cons, h2]; rfl, congrArg Nat.succ h3, congrArg Nat.succ h4⟩
theorem dlt_ok {ps : List (IE × IE)} {e : Expr} (h : ckDlt k S ps e = true) : SU C e (stepU c s (.dlt ps)) := by
  unfold ckDlt at h
  split at h
  · simp only [Bool.and_eq_true] at h
    obtain ⟨⟨h1, h2⟩, h3⟩ := h
    obtain ⟨a1, a2, a3, a4⟩ := prs_ok Y G (pos := ‹Pos›) h1
    refine su_dlt a1 a2 a3 (fun e => ?_) (by rw [a4]; exact Nat.le_of_ble_eq_true h2)
    rw [e] at a4
    rw [← a4] at h3
    cases h3
  · cases h
theorem u_ok : ∀ {i : IU} {e : Expr}, ckU P k S i e = true → SU C e (stepU c s i)
  | .d _, _, h => SU.d (Y.E G h)
  | .mv i, e, h => by
    obtain ⟨x, pos, rfl, h1, h2, h3, h4⟩ := var_is G (show ckVar S i e = true from h)
    exact su_mv h1 h2 h3 h4
  | .lst _, _, h => lst_ok Y G h
  | .comp _ _ _ _ _, _, h => lc_ok Y G h
  | .cat _ _, _, h => cat_ok Y G h
  | .rep _ _, _, h => rep_ok Y G h
  | .slc _ _ _, _, h => slc_ok Y G h
  | .lof _, _, h => lof_ok Y G h
  | .srt _, _, h => by
    rw [ckU, Bool.and_eq_true] at h
    exact srt_ok Y G h.1 h.2
  | .ndic, _, h => dic_ok G h
  | .dlt _, _, h => dlt_ok Y G h
  | .call _ _, _, h => call_ok Y G h
  | .callK _ _, _, h => by cases h
end
end FM


set_option Elab.async false
set_option linter.all false
set_option maxRecDepth 100000
set_option maxHeartbeats 2000000
namespace FM
open PySem L2
section
variable (P : Pg) (k : CK) (S : Sc)
/-- tg = e is stored behind the whole value -/
def asgB (tg e : Expr) : Bool := (match tg with
  | .Name x _ => notComp e || !loc1 S x
  | .Tuple _ _ _ => !isTup e
  | _ => false)
def ckAsg (g : IG) (i : IE) : Stmt → Bool
  | .Assign [tg] e _ => asgB S tg e && ckG S g tg && k.E S i e
  | _ => false
def ckOwn (i : Nat) (u : IU) : Stmt → Bool
  | .Assign [.Name x npos] e _ => asgB S (.Name x npos) e && atB S i x && locB S x && k.U S u e
  | _ => false
def ckPar (i j : Nat) (a b : IE) : Stmt → Bool
  | .Assign [.Tuple [.Name x px, .Name y py] _ _] (.Tuple [u, v] _ _) _ =>
    S.calm && atB S i x && atB S j y && !Nat.beq i j && loc1 S x && loc1 S y && (py.line == px.line) && notStar u && notStar v && !(foldedForSure 8 u && foldedForSure 8 v) && !(constantsAlone 8 u && constantsAlone 8 v) && !decide (x = y) && k.E S a u && k.E S b v
  | _ => false
def ckSub (i : Nat) (n e : IE) : Stmt → Bool
  | .Assign [.Subscript (.Name x npos) y _] z _ => notComp z && ckVar S i (.Name x npos) && k.E S n y && k.E S e z
  | _ => false
def ckRet (i : IU) : Stmt → Bool
  | .Return (some e) _ => k.U S i e
  | _ => false
def ckExp (i : IE) : Stmt → Bool
  | .Expr e _ => notComp e && k.E S i e
  | _ => false
def ckIf (t : IT) (a b : List IS) : Stmt → Bool
  | .If e x y _ => k.T S t e && k.S S a x && k.S S b y
  | _ => false
def ckFor (g : IG) (it : II) (b : List IS) : Stmt → Bool
  | .For tg iter body [] _ => S.calm && notSet iter && ckI P k S tg it iter && ckG S g tg && k.S S b body
  | _ => false
def ckWhl (t : IT) (b : List IS) : Stmt → Bool
  | .While e body [] _ => S.calm && k.T S t e && k.S S b body
  | _ => false
def ckPass : Stmt → Bool
  | .Pass _ => true
  | _ => false
def ckBrk : Stmt → Bool
  | .Break _ => true
  | _ => false
def ckCont : Stmt → Bool
  | .Continue _ => true
  | _ => false
def ckSlc1 (i : Nat) (elt : IE) (g : IG) (own : List Nat) (it : II) (t : Option IT) : Stmt → Bool
  | .Assign [.Name y py] (.ListComp elt' [⟨tg, iter, ifs, 0⟩] scope pos) _ => atB S i y && loc1 S y && (py.line == pos.line) && !(scope.names.any fun (n, k) => n == y && (k == .local || k == .cell)) && ckComp P k S elt g own it t elt' tg iter ifs scope
  | _ => false
def ckRse (c kf : Nat) (e : IE) : Stmt → Bool
  | .Raise (some (.Call (.Name n _) [a] [] _)) none _ => S.calm && decide ((n, c, kf) ∈ P.xc) && notStar a && glB S n && pl n && k.E S e a
  | _ => false
def ckTry (body : List IS) (cs no : List Nat) (i : Nat) (h : List IS) : Stmt → Bool
  | .Try b [.ExceptHandler (some (.Name x _)) (some n) (s₀ :: su) _] [] [] _ => S.top && S.calm && atB S i n && loc1 S n && glB S x && pl x &&
    (match P.oc.lookup x with
     | some c => (cs.all fun q => decide ((q, c, true) ∈ P.sub) && P.xc.any fun z => Nat.beq z.2.1 q) && no.all fun q => decide ((q, c, false) ∈ P.sub)
     | none => false) && k.S S body b && k.S S.sui h (s₀ :: su)
  | _ => false
def ckCases : List (W × List IS) → List MatchCase → Bool
  | [], [] => true
  | (.str s, b) :: cs, ⟨.MatchValue (.Constant (.str x) _ _) _, none, body⟩ :: ms => decide (x = sv s) && k.S S b body && ckCases cs ms
  | _, _ => false
def ckMat (e : IE) (cs : List (W × List IS)) : Stmt → Bool
  | .Match x ms _ => k.E S e x && ckCases k S cs ms
  | _ => false
def ckS : IS → Stmt → Bool
  | .exp e => ckExp k S e
  | .asg g e => ckAsg k S g e
  | .own i u => ckOwn k S i u
  | .par i j a b => ckPar k S i j a b
  | .sub i n e => ckSub k S i n e
  | .dsub i n e => ckSub k S i n e
  | .ret e => ckRet k S e
  | .ifs t a b => ckIf k S t a b
  | .for g it b => ckFor P k S g it b
  | .whl t b => ckWhl k S t b
  | .lc _ i elt g own it t => ckSlc1 P k S i elt g own it t
  | .rse c (some kf) (some e) => ckRse P k S c kf e
  | .rse _ _ _ => fun _ => false
  | .try b cs no i h => ckTry P k S b cs no i h
  | .mat e cs => ckMat k S e cs
  | .pass => ckPass
  | .brk => ckBrk
  | .cont => ckCont
  | .unk => fun _ => true
def ckSs (is : List IS) (sts : List Stmt) : Bool := all2 (ckS P k S) is sts
end
section
variable {P : Pg} {k : CK} {S : Sc} {C : Cz} {c : CF} {s : SF} (Y : Snd P c k s) (G : Good P c S C)
include Y G
omit Y in
theorem asgB_ok {tg e : Expr} {l : Nat} (h : asgB S tg e = true) : notStar tg = true ∧ swapsWithSole [tg] e l C.X.env = pure false ∧ swappedStores [tg] e C.X.env = pure none := by
  unfold asgB at h
  split at h
  · rename_i x pos
    refine ⟨rfl, ?_, rfl⟩
    rw [Bool.or_eq_true] at h
    rcases h with h | h
    · exact (sw_no h : swapsWith e (some (.Name x pos)) l C.X.env = pure false)
    · have hx : ¬ C.X.env.kindOf x = some .local := fun e => by
        have e : C.X.env.scope.names.lookup x = some .local := e
        rw [G.sc] at e
        unfold loc1 at h
        rw [e] at h
        cases h
      have hb : (C.X.env.kindOf x == some NameKind.local) = false := beq_eq_false_iff_ne.mpr hx
      show swapsWith e (some (.Name x pos)) l C.X.env = pure false
      unfold swapsWith
      cases e <;> first | rfl | (simp only [hb, Bool.and_false, Bool.false_and])
  · rename_i ts kk tp
    refine ⟨rfl, ?_, ?_⟩
    · show swapsWith e (some (.Tuple ts kk tp)) l C.X.env = pure false
      cases e <;> rfl
    · cases e <;> first | rfl | cases h
  · cases h
theorem asg_ok {g : IG} {i : IE} {st : Stmt} (h : ckAsg k S g i st = true) : SS C st (stepS s (.asg g i)) := by
  unfold ckAsg at h
  split at h
  · simp only [Bool.and_eq_true] at h
    obtain ⟨⟨h1, h2⟩, h3⟩ := h
    obtain ⟨a1, a2, a3⟩ := asgB_ok G h1
    exact ss_asg (Y.E G h3) (ckG_ok G h2) a1 a2 a3
  · cases h
theorem own_ok {i : Nat} {u : IU} {st : Stmt} (h : ckOwn k S i u st = true) : SS C st (stepS s (.own i u)) := by
  unfold ckOwn at h
  split at h
  · simp only [Bool.and_eq_true] at h
    obtain ⟨⟨⟨h1, h2⟩, h3⟩, h4⟩ := h
    obtain ⟨a1, a2, a3⟩ := asgB_ok G h1
    obtain ⟨l1, l2⟩ := loc_ok G h3
    exact ss_own G.nd (at_ok G h2) l1 l2 (Y.U G h4) a2
  · cases h
theorem par_ok {i j : Nat} {a b : IE} {st : Stmt} (h : ckPar k S i j a b st = true) : SS C st (stepS s (.par i j a b)) := by
  unfold ckPar at h
  split at h
  · simp only [Bool.and_eq_true, Bool.not_eq_true'] at h
    obtain ⟨⟨⟨⟨⟨⟨⟨⟨⟨⟨⟨⟨⟨hc, h1⟩, h2⟩, h3⟩, h4⟩, h5⟩, h6⟩, h7⟩, h8⟩, h9⟩, h10⟩, h11⟩, h12⟩, h13⟩ := h
    refine ss_par (G.calm hc).1 G.nd (at_ok G h1) (at_ok G h2) (fun e => ?_) (loc1_ok G h4) (loc1_ok G h5) (swap2 (by rw [G.sc]; exact G.kd) (loc1_ok G h4) (loc1_ok G h5) (of_decide_eq_false h11) (eq_of_beq h6) h7 h8 h9 h10) h7 h8 (Y.E G h12) (Y.E G h13)
    subst e
    rw [Nat.beq_refl] at h3
    cases h3
  · cases h
theorem sub_ok {i : Nat} {n e : IE} {st : Stmt} (h : ckSub k S i n e st = true) : SS C st (stepS s (.sub i n e)) := by
  unfold ckSub at h
  split at h
  · simp only [Bool.and_eq_true] at h
    obtain ⟨⟨⟨h1, h2⟩, h3⟩, h4⟩ := h
    obtain ⟨x, pos, ex, v1, v2, v3, v4⟩ := var_is G h2
    cases ex
    exact ss_sub v1 v2 v3 v4 (Y.E G h3) (Y.E G h4) h1
  · cases h
theorem dsub_ok {i : Nat} {n e : IE} {st : Stmt} (h : ckSub k S i n e st = true) : SS C st (stepS s (.dsub i n e)) := by
  unfold ckSub at h
  split at h
  · simp only [Bool.and_eq_true] at h
    obtain ⟨⟨⟨h1, h2⟩, h3⟩, h4⟩ := h
    obtain ⟨x, pos, ex, v1, v2, v3, v4⟩ := var_is G h2
    cases ex
    exact ss_dsub (un1 G) v1 v2 v3 v4 (Y.E G h3) (Y.E G h4) h1
  · cases h
theorem ret_ok {i : IU} {st : Stmt} (h : ckRet k S i st = true) : SS C st (stepS s (.ret i)) := by
  unfold ckRet at h
  split at h
  · exact ss_ret (Y.U G h)
  · cases h
theorem exp_ok {i : IE} {st : Stmt} (h : ckExp k S i st = true) : SS C st (stepS s (.exp i)) := by
  unfold ckExp at h
  split at h
  · rw [Bool.and_eq_true] at h
    exact ss_exp (Y.E G h.2) h.1
  · cases h
theorem if_ok {t : IT} {a b : List IS} {st : Stmt} (h : ckIf k S t a b st = true) : SS C st (stepS s (.ifs t a b)) := by
  unfold ckIf at h
  split at h
  · simp only [Bool.and_eq_true] at h
    exact ss_if (Y.T G h.1.1) (Y.S G h.1.2) (Y.S G h.2)
  · cases h
theorem for_ok {g : IG} {it : II} {b : List IS} {st : Stmt} (h : ckFor P k S g it b st = true) : SS C st (stepS s (.for g it b)) := by
  unfold ckFor at h
  split at h
  · rename_i tg iter body pos
    simp only [Bool.and_eq_true] at h
    obtain ⟨⟨⟨⟨hc, h1⟩, h2⟩, h3⟩, h4⟩ := h
    exact ss_for (G.calm hc).2 (G.calm hc).1 (i_ok Y G h2) (ckG_ok G h3) (Y.S G h4) (noSet (by cases iter <;> first | rfl | cases h1))
  · cases h
theorem slc1_ok {bo : Bool} {i : Nat} {elt : IE} {g : IG} {own : List Nat} {it : II} {t : Option IT} {st : Stmt} (h : ckSlc1 P k S i elt g own it t st = true) : SS C st (stepS s (.lc bo i elt g own it t)) := by
  unfold ckSlc1 at h
  split at h
  · rename_i y py elt' tg iter ifs scope pos spos
    simp only [Bool.and_eq_true, Bool.not_eq_true'] at h
    obtain ⟨⟨⟨⟨h1, h2⟩, h3⟩, h4⟩, h5⟩ := h
    obtain ⟨hc, q⟩ := compOk Y G h5
    have hsw : swapsWith (.ListComp elt' [⟨tg, iter, ifs, 0⟩] scope pos) (some (.Name y py)) spos.line C.X.env = pure true := by
      have hb : C.X.env.blockKind = .function := by unfold Env.blockKind; rw [G.sc, G.kd]; rfl
      have ky : C.X.env.kindOf y = some .local := loc1_ok G h2
      unfold swapsWith
      simp only [hb, ky, Expr.pos, h3, h4]
      rfl
    have := ss_lc (bo := bo) (G.calm hc).1 G.nd (at_ok G h1) (loc1_ok G h2) hsw q.i q.ok q.tgt q.t q.e q.st q.o
    rw [ownN_map] at this
    show SS C _ (fun r => (compM s elt g own it t r).toS fun ws r1 => match setV r1 i (if bo then .l (ws.map U.d) else .d (.lis ws)) with
      | some r2 => .nx r2
      | none => .bad)
    rw [comp_eq]
    exact this
  · cases h
theorem rse_ok {cn kf : Nat} {e : IE} {st : Stmt} (h : ckRse P k S cn kf e st = true) : SS C st (stepS s (.rse cn (some kf) (some e))) := by
  unfold ckRse at h
  split at h
  · simp only [Bool.and_eq_true, decide_eq_true_eq] at h
    obtain ⟨⟨⟨⟨⟨hc, h1⟩, h2⟩, h3⟩, h4⟩, h5⟩ := h
    obtain ⟨fI, sc, ar, bd, Bn, newId, initId, bmB, T⟩ := (G.wr.xc _ _ _ h1).tx
    exact ss_rse T (G.calm hc).1 G.tk (G.rm hc) (Y.E G h5) h2 (gl_ok G h3) (pl_ok h4).1
  · cases h
theorem try_ok {b : List IS} {cs no : List Nat} {i : Nat} {h : List IS} {st : Stmt} (q : ckTry P k S b cs no i h st = true) : SS C st (stepS s (.try b cs no i h)) := by
  unfold ckTry at q
  split at q
  · rename_i body x np n s₀ su pos' pos
    simp only [Bool.and_eq_true] at q
    obtain ⟨⟨⟨⟨⟨⟨⟨⟨ht, hc⟩, h1⟩, h2⟩, h3⟩, h4⟩, h5⟩, h6⟩, h7⟩ := q
    split at h5
    · rename_i cn hl
      rw [Bool.and_eq_true] at h5
      obtain ⟨t1, t2, t3⟩ := G.topC ht hc
      have A : ∀ q ∈ cs, (q, cn, true) ∈ P.sub ∧ ∃ n f, (n, q, f) ∈ P.xc := fun q hq => by
        have := List.all_eq_true.mp h5.1 q hq
        rw [Bool.and_eq_true, decide_eq_true_eq] at this
        refine ⟨this.1, ?_⟩
        obtain ⟨⟨n, q', f⟩, hz, e⟩ := List.any_eq_true.mp this.2
        have e := Nat.eq_of_beq_eq_true e
        dsimp only at e
        subst e
        exact ⟨n, f, hz⟩
      refine ss_try (c := cn) t1 t2 t3 G.nd (at_ok G h1) (loc1_ok G h2) ⟨gl_ok G h3, (pl_ok h4).1, .inl (G.wr.oc _ _ hl)⟩ G.tk (fun q hq => G.wr.sub _ _ _ (A q hq).1) (fun q hq => G.wr.sub _ _ _ (of_decide_eq_true (List.all_eq_true.mp h5.2 q hq)))
        (fun W pn xe tk po => Y.S (G.tr hc tk po) h6) (fun a oe q d pn hq hz hv => Y.S (G.sui (A q hq).2 hz hv) h7)
    · cases h5
  · cases q
theorem cases_ok : ∀ {cs : List (W × List IS)} {ms : List MatchCase}, ckCases k S cs ms = true → MatR C ms (cs.map fun q => (q.1, s.S q.2))
  | [], [], _ => .nil
  | [], _ :: _, h => by simp [ckCases] at h
  | (w, b) :: cs, ms, h => by
    unfold ckCases at h
    split at h
    · rename_i e2; cases e2
    · rename_i e2
      cases e2
      simp only [Bool.and_eq_true, decide_eq_true_eq] at h
      exact .cons h.1.1 (Y.S G h.1.2) (cases_ok h.2)
    · cases h
omit Y G in
theorem pick_eq {w : W} {r : Env} : ∀ cs : List (W × List IS), pick s w r cs = pickM w r (cs.map fun q => (q.1, s.S q.2))
  | [] => rfl
  | (u, b) :: cs => by
    unfold pick
    show _ = pickM w r ((u, s.S b) :: cs.map fun q => (q.1, s.S q.2))
    unfold pickM
    rw [pick_eq cs]
    try (cases eqW w u with
      | none => rfl
      | some b' => cases b' <;> rfl)
theorem mat_ok' {e : IE} {cs : List (W × List IS)} {st : Stmt} (h : ckMat k S e cs st = true) : SS C st (stepS s (.mat e cs)) := by
  unfold ckMat at h
  split at h
  · rw [Bool.and_eq_true] at h
    have := ss_mat (pos := ‹Pos›) G.un (Y.E G h.1) (cases_ok Y G h.2)
    have e : stepS s (.mat e cs) = matM (s.E e) (cs.map fun q => (q.1, s.S q.2)) := by
      funext r
      show (s.E e r).toS (fun w r1 => pick s w r1 cs) = (s.E e r).toS (fun w r1 => pickM w r1 (cs.map fun q => (q.1, s.S q.2)))
      congr 1
      funext w r1
      exact pick_eq cs
    rw [e]
    exact this
  · cases h
/-- W: what is known of a while -/
theorem s_ok (W : ∀ {t : IT} {b : List IS} {st : Stmt}, ckWhl k S t b st = true → SS C st (s.Wh t b)) : ∀ {i : IS} {st : Stmt}, ckS P k S i st = true → SS C st (stepS s i)
  | .exp _, _, h => exp_ok Y G h
  | .asg _ _, _, h => asg_ok Y G h
  | .own _ _, _, h => own_ok Y G h
  | .par _ _ _ _, _, h => par_ok Y G h
  | .sub _ _ _, _, h => sub_ok Y G h
  | .dsub _ _ _, _, h => dsub_ok Y G h
  | .ret _, _, h => ret_ok Y G h
  | .ifs _ _ _, _, h => if_ok Y G h
  | .for _ _ _, _, h => for_ok Y G h
  | .whl _ _, _, h => W h
  | .lc _ _ _ _ _ _ _, _, h => slc1_ok Y G h
  | .rse _ (some _) (some _), _, h => rse_ok Y G h
  | .rse _ none _, _, h => by simp [ckS] at h
  | .rse _ (some _) none, _, h => by simp [ckS] at h
  | .try _ _ _ _ _, _, h => try_ok Y G h
  | .mat _ _, _, h => mat_ok' Y G h
  | .pass, st, h => by
    cases st with
    | Pass p => exact ss_pass
    | _ => cases h
  | .brk, st, h => by
    cases st with
    | Break p => exact ss_brk
    | _ => cases h
  | .cont, st, h => by
    cases st with
    | Continue p => exact ss_cont
    | _ => cases h
  | .unk, _, _ => ss_unk
theorem ss_ok (W : ∀ {t : IT} {b : List IS} {st : Stmt}, ckWhl k S t b st = true → SS C st (s.Wh t b)) : ∀ {is : List IS} {sts : List Stmt}, ckSs P k S is sts = true → SSs C sts (stepSs s is)
  | [], [], _ => sss_nil
  | [], _ :: _, h => by simp [ckSs, all2] at h
  | _ :: _, [], h => by simp [ckSs, all2] at h
  | i :: is, st :: sts, h => by
    simp only [ckSs, all2, Bool.and_eq_true] at h
    exact sss_cons (s_ok Y G W h.1) (ss_ok W (is := is) (sts := sts) h.2)
end
def CK.bot : CK := ⟨fun _ _ _ => false, fun _ _ _ => false, fun _ _ _ => false, fun _ _ _ => false, fun _ _ _ => false⟩
def ckl (P : Pg) : Nat → CK
  | 0 => CK.bot
  | n + 1 => ⟨fun S => ckE P (ckl P n) S, fun S => ckV (ckl P n) S, fun S => ckT (ckl P n) S, fun S => ckU P (ckl P n) S, fun S => ckSs P (ckl P n) S⟩
theorem sv_bot {C : Cz} {e : Expr} : SV C e (fun _ => .bad) := ⟨fun _ _ _ => False, ⟨fun _ _ _ _ _ _ h => h.elim⟩, fun g r σ F Q re k => k⟩
theorem su_bot {C : Cz} {e : Expr} : SU C e (fun _ => .bad) := ⟨fun _ _ _ => False, ⟨fun _ _ _ _ _ _ h => h.elim⟩, fun g r σ F Q re k => k⟩
theorem st_bot {C : Cz} {e : Expr} : STt C e (fun _ => .bad) := ⟨fun _ _ _ => False, ⟨fun _ _ _ _ _ _ h => h.elim⟩, fun g r σ F Q re k => k⟩
theorem snd (P : Pg) (c : CF) : ∀ n m : Nat, Snd P c (ckl P m) (lvl c n) := by
  intro n
  induction n using Nat.strongRecOn with
  | ind n ih =>
    intro m
    cases n with
    | zero => exact ⟨fun _ _ => se_unk, fun _ _ => sv_bot, fun _ _ => st_bot, fun _ _ => su_bot, fun _ _ => sss_unk⟩
    | succ n =>
      cases m with
      | zero => exact ⟨fun _ h => (nomatch h), fun _ h => (nomatch h), fun _ h => (nomatch h), fun _ h => (nomatch h), fun _ h => (nomatch h)⟩
      | succ m =>
        have Y := ih n (Nat.lt_succ_self n) m
        refine ⟨fun G h => e_ok Y G h, fun G h => v_ok Y G h, fun G h => t_ok Y G h, fun G h => u_ok Y G h, fun {S C i e} G h => ss_ok Y G (fun {t b st} h => ?_) h⟩
        unfold ckWhl at h
        split at h
        · simp only [Bool.and_eq_true] at h
          exact ss_whl (G.calm h.1.1).2 (fun j hj => (ih j (Nat.lt_succ_of_lt hj) m).T G h.1.2) (fun j hj => (ih j (Nat.lt_succ_of_lt hj) m).S G h.2)
        · cases h
end FM


set_option Elab.async false
set_option linter.all false
set_option maxRecDepth 100000
set_option maxHeartbeats 2000000
namespace FM
open PySem L2

/-- a def of the text: its name, its place, its names (parameters first), its parameters, its reading -/
structure DD where
  x : Str
  st : Stmt
  N : List Str
  ps : List Str
  body : List IS
def DD.fd (d : DD) : FD := ⟨d.ps.length, d.N.length, d.body⟩
def parB (sc : Scope) (x : Str) : Bool := match sc.names.lookup x with
  | some .local => true
  | some .cell => true
  | _ => false
def nofB : NameKind → Bool
  | .free => false
  | _ => true
def scB (N ps : List Str) (sc : Scope) : Bool := fnK sc && !sc.isCoroutine && !sc.isGenerator && decide N.Nodup && decide (N.take ps.length = ps) && ps.all (parB sc) && sc.names.all fun y => nofB y.2
theorem scB_ok {N ps : List Str} {sc : Scope} (h : scB N ps sc = true) : FnScope N ps sc := by
  unfold scB at h
  simp only [Bool.and_eq_true, Bool.not_eq_true', decide_eq_true_eq] at h
  obtain ⟨⟨⟨⟨⟨⟨h1, h2⟩, h3⟩, h4⟩, h5⟩, h6⟩, h7⟩ := h
  refine ⟨?_, h2, h3, h4, h5, fun x hx => ?_, fun y hy e => ?_⟩
  · unfold fnK at h1
    split at h1
    · assumption
    · cases h1
  · have := List.all_eq_true.mp h6 x hx
    unfold parB at this
    split at this
    · exact .inl ‹_›
    · exact .inr ‹_›
    · cases this
  · have := List.all_eq_true.mp h7 y hy
    rw [e] at this
    cases this
def ckD (P : Pg) (m : Nat) (d : DD) : Bool := scB d.N d.ps (defScope d.st) && (ckl P m).S ⟨d.N, defScope d.st, true, true⟩ d.body (defBody d.st)

theorem pad_rep : ∀ n : Nat, pad n = List.replicate n En.no
  | 0 => rfl
  | n + 1 => by rw [pad, pad_rep n]; rfl
theorem re_start {Z : Kx} {B : Nat → Option V} {g : Sg} {N : List Str} {es : List En} {vs : List V} {Fa : Fp} (h : RE Z B none g es (vs.map some) Fa) : RE Z B none g (es ++ pad (N.length - es.length)) (start N vs) Fa := by
  have hl := h.len
  rw [List.length_map] at hl
  refine ⟨?_, fun i e he => ?_, fun i hi => h.out i ?_, h.nod, h.dis, h.nl, h.la⟩
  · unfold L2.start
    rw [pad_rep, List.length_append, List.length_append, List.length_map, List.length_replicate, List.length_replicate, hl]
  · by_cases hi : i < es.length
    · rw [List.getElem?_append_left hi] at he
      obtain ⟨o, h1, h2⟩ := h.at_ i e he
      refine ⟨o, ?_, h2⟩
      unfold L2.start
      rw [List.getElem?_append_left (by rw [List.length_map, ← hl]; exact hi)]
      exact h1
    · rw [List.getElem?_append_right (by omega), pad_rep, List.getElem?_replicate] at he
      split at he
      · rename_i hlt
        cases he
        refine ⟨none, ?_, h.out i (by omega)⟩
        unfold L2.start
        rw [List.getElem?_append_right (by rw [List.length_map, ← hl]; omega), List.length_map, ← hl, List.getElem?_replicate, if_pos hlt]
      · cases he
  · rw [List.length_append] at hi
    omega
/-- what was lent, at the end -/
theorem outs_ok {Z : Kx} {B : Nat → Option V} {g : Sg} {F : Fp} (hN : ∀ i, (F i).Nodup) (hD : ∀ i j a, a ∈ F i → a ∈ F j → i = j) : ∀ {es : List En} {vs : List V} {r : Env} {os : List U} (n : Nat), (∀ i u, es[i]? = some (.t u) → B (n + i) = vs[i]?) → es.length = vs.length →
    (∀ i u, r[i]? = some (.t u) → ∃ v, B (n + i) = some v ∧ OU Z g u v (F (n + i))) → outs es r = some os →
    ∃ fps, OUs Z g os (lentV es vs) fps ∧ fps.Nodup ∧ ∀ a ∈ fps, ∃ i, n ≤ i ∧ a ∈ F i
  | [], vs, r, os, n, _, _, _, h => by
    cases h
    exact ⟨[], ⟨by cases vs <;> rfl, rfl⟩, List.nodup_nil, fun _ m => nomatch m⟩
  | e :: es, [], r, os, n, _, hl, _, h => by cases hl
  | e :: es, v :: vs, [], os, n, hb, hl, hr, h => by cases e <;> cases h
  | e :: es, v :: vs, x :: r, os, n, hb, hl, hr, h => by
    have ih := fun os h => outs_ok (Z := Z) (B := B) (g := g) hN hD (es := es) (vs := vs) (r := r) (os := os) (n + 1) (fun i u q => by
      have := hb (i + 1) u q
      rw [show n + 1 + i = n + (i + 1) by omega]
      exact this) (Nat.succ.inj hl) (fun i u q => by
      have := hr (i + 1) u q
      rw [show n + 1 + i = n + (i + 1) by omega]
      exact this) h
    have nt : (∀ u, e ≠ .t u) → outs es r = some os → lentV (e :: es) (v :: vs) = lentV es vs → ∃ fps, OUs Z g os (lentV (e :: es) (v :: vs)) fps ∧ fps.Nodup ∧ ∀ a ∈ fps, ∃ i, n ≤ i ∧ a ∈ F i := fun _ h q => by
      obtain ⟨fps, h1, h2, h3⟩ := ih os h
      rw [q]
      exact ⟨fps, h1, h2, fun a m => let ⟨i, hi, ha⟩ := h3 a m; ⟨i, by omega, ha⟩⟩
    cases e with
    | no => exact nt (fun _ z => nomatch z) h rfl
    | m u => exact nt (fun _ z => nomatch z) h rfl
    | x c ks ws => exact nt (fun _ z => nomatch z) h rfl
    | t u =>
      cases x with
      | no => cases h
      | m _ => cases h
      | x _ _ _ => cases h
      | t u' =>
        obtain ⟨os', h', rfl⟩ := Option.map_eq_some_iff.mp (show (outs es r).map (u' :: ·) = some os from h)
        obtain ⟨fps, h1, h2, h3⟩ := ih os' h'
        obtain ⟨w, hw, ho⟩ := hr 0 u' rfl
        have hv := hb 0 u rfl
        rw [hw] at hv
        cases hv
        refine ⟨F n ++ fps, ⟨v, lentV es vs, F n, fps, rfl, ho, h1, rfl⟩, ?_, fun a m => ?_⟩
        · rw [List.nodup_append]
          refine ⟨hN n, h2, fun a m b m' e => ?_⟩
          subst e
          obtain ⟨i, hi, ha⟩ := h3 a m'
          have := hD n i a m ha
          omega
        · rcases List.mem_append.mp m with m | m
          · exact ⟨n, Nat.le_refl n, m⟩
          · obtain ⟨i, hi, ha⟩ := h3 a m
            exact ⟨i, by omega, ha⟩
theorem RE.outs {Z : Kx} {B : Nat → Option V} {g : Sg} {F : Fp} {r : Env} {σ : L2.St} {es : List En} {vs : List V} {os : List U} (re : RE Z B none g r σ F) (hb : ∀ i u, es[i]? = some (.t u) → B i = vs[i]?) (hl : es.length = vs.length) (h : FM.outs es r = some os) :
    ∃ fps, OUs Z g os (lentV es vs) fps ∧ fps.Nodup ∧ ∀ a ∈ fps, ¬ g.L a ∧ ∃ i, a ∈ F i := by
  obtain ⟨fps, h1, h2, h3⟩ := outs_ok (Z := Z) (B := B) (g := g) (F := F) re.nod re.dis 0 (fun i u q => by rw [Nat.zero_add]; exact hb i u q) hl (fun i u q => by
    rw [Nat.zero_add]
    obtain ⟨o, _, v, h1, _, h2⟩ := re.at_ i _ q
    exact ⟨v, h1, h2⟩) h
  exact ⟨fps, h1, h2, fun a m => let ⟨i, _, ha⟩ := h3 a m; ⟨re.nl i a ha, i, ha⟩⟩
theorem nth_map {D : List DD} {f : Nat} {d : DD} (h : D[f]? = some d) : nth (D.map DD.fd) f = some d.fd := by
  rw [nth_iff, List.getElem?_map, h]
  rfl

section
variable {Pr : Program} {wo : World} {K : PySem.W.Frag} {mg : Str → Option Value} {base : Heap} {P : Pg} {D : List DD} {F m : Nat} {fa : Nat → Addr} {fd : Nat → FuncData} {ca : Nat → Addr}
/-- all that is known of a program's defs in the written part -/
structure Defs (Pr : Program) (K : PySem.W.Frag) (mg : Str → Option Value) (P : Pg) (D : List DD) (m : Nat) (fa : Nat → Addr) (fd : Nat → FuncData) (ca : Nat → Addr) : Prop where
  ck : ∀ (f : Nat) (d : DD), D[f]? = some d → ckD P m d = true
  fn : ∀ (f : Nat) (d : DD), D[f]? = some d → FunD K d.x d.x (defArgs d.st) (defBody d.st) (defScope d.st) [] [] (fa f) (fd f)
  mgl : ∀ (f : Nat) (d : DD), D[f]? = some d → mg d.x = some (.ref (fa f))
  bd : ∀ (f : Nat) (d : DD), D[f]? = some d → Binds K (fd f) d.ps []
  fns : ∀ (x : Str) (f : Nat) (ps : List Str), P.fns.lookup x = some (f, ps) → ∃ d : DD, D[f]? = some d ∧ d.x = x ∧ d.ps = ps
  wr : Wr P Pr K mg ca
theorem Defs.ok (B : Defs Pr K mg P D m fa fd ca) : ∀ (n f : Nat) (d : DD), D[f]? = some d → FnOk Pr wo K mg base (L2.CX Pr wo) n (fa f) (fd f) d.ps (spOf ⟨K, ca⟩ (callF (D.map DD.fd) F n) f d.ps.length)
  | 0, f, d, hd => ⟨fun vs H Q E h => sp_len h, fun A outer s H args us vs Q E _ _ _ _ h => by
      obtain ⟨g, es, Fa, B', _, _, _, _, e⟩ := h
      exact False.elim e⟩
  | n + 1, f, d, hd => by
    have ih := Defs.ok (B := B) n
    have hc := B.ck f d hd
    unfold ckD at hc
    rw [Bool.and_eq_true] at hc
    have S := scB_ok hc.1
    refine (B.fn f d hd).ok S (fun vs H Q E h => sp_len h) fun cdv A outer s H vs Q E hr h => ?_
    have hvl := sp_len h
    obtain ⟨g, es, Fa, B', rfl, hl, re, hb, co⟩ := h
    have G : Good P (callF (D.map DD.fd) F n) ⟨d.N, defScope d.st, true, true⟩ ⟨cxOf (L2.CX Pr wo) Pr wo K mg base d.N d.x (defScope d.st) (fa f) cdv A outer s g.H E, ca, fun cls d _ H => E cls d H, B', none⟩ := by
      refine ⟨rfl, rfl, S.kind, S.nd, ?_, fun _ => hr.mono (Nat.zero_le _), fun _ _ => rfl, fun _ x f' ps hx => ?_, B.wr, fun _ => ⟨rfl, passes_of rfl⟩, takes_of rfl rfl rfl rfl, fun _ _ => ⟨rfl, rfl, rfl⟩, fun z => by cases z⟩
      · have := hr.un
        show (A.deeper _).units + 64 < cLine
        omega
      · obtain ⟨d', hd', rfl, rfl⟩ := B.fns x f' ps hx
        exact ⟨n, fa f', fd f', ih f' d' hd', hr, B.mgl f' d' hd', (B.fn f' d' hd').kp, B.bd f' d' hd'⟩
    obtain ⟨t, p, i⟩ := (snd P (callF (D.map DD.fd) F n) F m).S G hc.2
    refine ⟨t, p, ?_⟩
    refine i g (es ++ pad (d.N.length - es.length)) (start d.N vs) Fa _ (re_start re) ?_
    have e2 : COk ⟨K, ca⟩ g Fa vs es Q E (if Nat.beq es.length d.ps.length then ((lvl (callF (D.map DD.fd) F n) F).S d.body (es ++ pad (d.N.length - d.ps.length))).val es else .bad) := by
      have co := co
      unfold callF at co
      rw [nth_map hd] at co
      exact co
    rw [hl, Nat.beq_refl, if_pos rfl] at e2
    rw [hl]
    have hel : es.length = vs.length := hl.trans hvl.symm
    cases hb' : (lvl (callF (D.map DD.fd) F n) F).S d.body (es ++ pad (d.N.length - d.ps.length)) with
    | nx r1 =>
      rw [hb'] at e2
      intro g' F' σ t1 re1
      dsimp only [SRes.val] at e2
      cases ho : outs es r1 with
      | none => rw [ho] at e2; exact False.elim e2
      | some os =>
        rw [ho] at e2
        obtain ⟨fps, o1, o2, o3⟩ := re1.outs hb hel ho
        exact e2 g' F' .non [] fps t1 re1.la o1 o2 o3 ⟨rfl, rfl⟩ tmp_nil fun _ m => nomatch m
    | rt u r1 =>
      rw [hb'] at e2
      intro g' F' σ v fp t1 re1 ou tm sr
      dsimp only [SRes.val] at e2
      cases ho : outs es r1 with
      | none => rw [ho] at e2; exact False.elim e2
      | some os =>
        rw [ho] at e2
        obtain ⟨fps, o1, o2, o3⟩ := re1.outs hb hel ho
        exact e2 g' F' v fp fps t1 re1.la o1 o2 o3 ou tm sr
    | ex x r1 =>
      rw [hb'] at e2
      intro σ g' F' dd xs t1 re1 xd ld rw
      dsimp only [SRes.val] at e2
      cases ho : outs es r1 with
      | none => rw [ho] at e2; exact False.elim e2
      | some os =>
        rw [ho] at e2
        obtain ⟨fps, o1, o2, o3⟩ := re1.outs hb hel ho
        exact e2 g' F' dd xs fps t1 re1.la o1 o2 o3 xd ld rw
    | bk _ => rw [hb'] at e2; exact False.elim e2
    | ct _ => rw [hb'] at e2; exact False.elim e2
    | bad => rw [hb'] at e2; exact False.elim e2
end
end FM


set_option Elab.async false
set_option linter.all false
set_option maxRecDepth 100000
set_option maxHeartbeats 2000000
namespace FM
open PySem L2 PySem.OwnX

/-! ### the built-in bases -/
def baseB : Nat → String
  | 0 => "ValueError" | 1 => "LookupError" | 2 => "RuntimeError" | _ => "OverflowError"
def baseN : Nat → String
  | 0 => "ValueError.__new__" | 1 => "LookupError.__new__" | 2 => "RuntimeError.__new__" | _ => "OverflowError.__new__"
def baseI : Nat → String
  | 0 => "ValueError.__init__" | 1 => "LookupError.__init__" | 2 => "RuntimeError.__init__" | _ => "OverflowError.__init__"
def baseM : Nat → List Value
  | 0 => [.type "ValueError", .type "Exception", .type "BaseException", .type "object"]
  | 1 => [.type "LookupError", .type "Exception", .type "BaseException", .type "object"]
  | 2 => [.type "RuntimeError", .type "Exception", .type "BaseException", .type "object"]
  | _ => [.type "OverflowError", .type "ArithmeticError", .type "Exception", .type "BaseException", .type "object"]
theorem base_ok : ∀ n : Nat, BaseX (baseB n) (baseN n) (baseI n) (baseM n)
  | 0 => ⟨F.excBase_ValueError, F.store_ValueError, PySem.W.kxs_ValueError⟩
  | 1 => ⟨F.excBase_LookupError, F.store_LookupError, PySem.W.kxs_LookupError⟩
  | 2 => ⟨F.excBase_RuntimeError, F.store_RuntimeError, PySem.W.kxs_RuntimeError⟩
  | _ + 3 => ⟨F.excBase_OverflowError, F.store_OverflowError, PySem.W.kxs_OverflowError⟩

/-- an exception class of the text: its name, number, field, base, its __init__ -/
structure XDf where
  n : Str
  c : Nat
  k : Nat
  b : Nat
  st : Stmt
/-- what its text says -/
structure XSyn (x : XDf) : Prop where
  arg : ∃ p1 p2, defArgs x.st = iA (nmS x.k) p1 p2
  bod : ∃ q1 q2 q3 q4 q5 q6 q7 q8 q9 q10, defBody x.st = iB (nmS x.k) q1 q2 q3 q4 q5 q6 q7 q8 q9 q10 ∧ (q3.endLine == q5.line) = true
  bi : ∀ (q : Str) (doc pm : Value) (an : Option Addr) (cdv ct : Value) (cc : Addr) (a v : Value), bindArgs (PySem.W.ksFn "__init__" q (defArgs x.st) (defBody x.st) (defScope x.st) .none .none doc pm an cdv ct cc) ⟨[a, v], []⟩ = pure [(("self" : Str), a), (nmS x.k, v)]
  fne : nmS x.k ≠ "self" ∧ (nmS x.k == ("__debug__" : Str)) = false
  sk : (defScope x.st).kind = .function
  sco : (defScope x.st).isCoroutine = false
  sge : (defScope x.st).isGenerator = false
  ssu : (defScope x.st).names.lookup ("super" : Str) = some .globalImplicit
  scl : (defScope x.st).names.lookup ("__class__" : Str) = some .free
  sse : (defScope x.st).names.lookup ("self" : Str) = some .local
  sfl : (defScope x.st).names.lookup (nmS x.k) = some .local
  snc : ∀ y ∈ (defScope x.st).names, y.2 ≠ .cell
def nmOf (l : List (Str × Nat)) (c : Nat) : Str := ((l.find? fun q => Nat.beq q.2 c).map (·.1)).getD ""
def caOf (P : Pg) (K : PySem.W.Frag) (c : Nat) : Addr := He.ga K (nmOf P.oc c)
/-- all but the text of a function -/
def fdB (K : PySem.W.Frag) (file : Str) (C : Addr) (fd : FuncData) : Bool := decide (fd.name = "__init__") && decide (fd.globals = mainGlobals) && decide (fd.defaults = .none) && decide (fd.kwdefaults = .none) && decide (fd.builtins = builtinsNs) &&
  (match fd.closure with
   | [(x, cc)] => decide (x = "__class__") && (match K.lookup cc with | some ⟨_, _, .cell (some v), _⟩ => decide (v = .ref C) | _ => false)
   | _ => false) &&
  (match fd.code with
   | .ref cda => PySem.W.codeIn K (.ref cda) fd.qualname && (match K.lookup cda with
     | some ⟨_, _, .fields vs, _⟩ => (match (vs[2]? : Option Value) with | some (.str f _) => file == f | _ => false)
     | _ => false)
   | _ => false)
theorem fdB_ok {K : PySem.W.Frag} {file : Str} {C : Addr} {fd : FuncData} (h : fdB K file C fd = true) : ∃ (cda cc : Addr), fd = { name := "__init__", qualname := fd.qualname, params := fd.params, body := fd.body, scope := fd.scope, globals := mainGlobals, closure := [("__class__", cc)], defaults := .none, kwdefaults := .none, doc := fd.doc, pyModule := fd.pyModule, annotations := fd.annotations, code := .ref cda, closureTuple := fd.closureTuple, builtins := builtinsNs } ∧
    PySem.W.codeIn K (.ref cda) fd.qualname = true ∧ (∃ ccl cdd vs ccs f tf, K.lookup cda = some ⟨ccl, cdd, .fields vs, ccs⟩ ∧ vs[2]? = some (.str f tf) ∧ (file == f) = true) ∧ ∃ cl cld csl, K.lookup cc = some ⟨cl, cld, .cell (some (.ref C)), csl⟩ := by
  obtain ⟨nm, qn, pa, bd, sc, gl, cls, df, kd, doc, pm, an, cd, ct, bl⟩ := fd
  unfold fdB at h
  simp only [Bool.and_eq_true, decide_eq_true_eq] at h
  obtain ⟨⟨⟨⟨⟨⟨rfl, rfl⟩, rfl⟩, rfl⟩, rfl⟩, h1⟩, h2⟩ := h
  rcases cls with _ | ⟨⟨x, cc⟩, _ | ⟨_, _⟩⟩
  · cases h1
  rotate_left
  · cases h1
  cases cd with
  | ref cda =>
    dsimp only at h1 h2
    rw [Bool.and_eq_true, decide_eq_true_eq] at h1
    obtain ⟨rfl, h1⟩ := h1
    rw [Bool.and_eq_true] at h2
    obtain ⟨h3, h4⟩ := h2
    cases hlk : K.lookup cc with
    | none => rw [hlk] at h1; cases h1
    | some oc =>
      rw [hlk] at h1
      obtain ⟨cl, cld, da, csl⟩ := oc
      cases da with
      | cell ov =>
        cases ov with
        | none => cases h1
        | some v =>
          have := of_decide_eq_true h1
          subst this
          cases hv : K.lookup cda with
          | none => rw [hv] at h4; cases h4
          | some od =>
            rw [hv] at h4
            obtain ⟨cl2, cld2, da2, csl2⟩ := od
            cases da2 with
            | fields vs =>
              dsimp only at h4
              cases hf : (vs[2]? : Option Value) with
              | none => rw [hf] at h4; cases h4
              | some u =>
                rw [hf] at h4
                cases u with
                | str f tf => exact ⟨cda, cc, rfl, h3, ⟨_, _, _, _, _, _, hv, hf, h4⟩, _, _, _, hlk⟩
                | _ => cases h4
            | _ => cases h4
      | _ => cases h1
  | _ => cases h2
def initFd (K : PySem.W.Frag) (C : Addr) : Option FuncData := match K.lookup (He.ma K C "__init__") with
  | some ⟨_, _, .func fd, _⟩ => some fd
  | _ => none
def eqT (a : Option Bool) (b : Bool) : Bool := match a with
  | some c => c == b
  | none => false
theorem eqT_ok {a : Option Bool} {b : Bool} (h : eqT a b = true) : a = some b := by
  cases a with
  | none => cases h
  | some c => rw [show c = b from eq_of_beq h]
/-- the facts of a class -/
def xB (file : Str) (P : Pg) (K : PySem.W.Frag) (x : XDf) : Bool :=
  He.eqO (PySem.W.nsIn K mainGlobals x.n) (some (some (.ref (caOf P K x.c)))) && PySem.W.excInitIn K (caOf P K x.c) (baseM x.b) (baseN x.b) && PySem.W.excOver K (caOf P K x.c) (baseM x.b) && PySem.W.hasDictIn K (caOf P K x.c) &&
  He.eqO (PySem.W.findIn K (.ref (caOf P K x.c)) "__setattr__") (some (some (.builtin "object.__setattr__"))) && He.eqO (PySem.W.findIn K (.ref (caOf P K x.c)) "__getattribute__") (some (some (.builtin "BaseException.__getattribute__"))) && He.eqO (PySem.W.findIn K (.ref (caOf P K x.c)) "__getattr__") (some none) &&
  He.eqO (PySem.W.findIn K (.ref (caOf P K x.c)) (nmS x.k)) (some none) && decide (PySem.W.takerIn K (caOf P K x.c) (nmS x.k) = some none) && He.eqO (PySem.W.findIn K (.ref (caOf P K x.c)) "__init__") (some (some (.ref (He.ma K (caOf P K x.c) "__init__")))) &&
  PySem.W.isFn K (.ref (He.ma K (caOf P K x.c) "__init__")) && PySem.W.keepIn K (.ref (caOf P K x.c)) && eqT (PySem.W.subIn K (.ref (caOf P K x.c)) (.type "BaseException")) true && eqT (PySem.W.subIn K (.ref (caOf P K x.c)) (.type (baseB x.b))) true && eqT (PySem.W.mroIn K (caOf P K x.c) (.ref (caOf P K x.c))) true &&
  decide (PySem.W.typeIn K (.ref (caOf P K x.c)) = some (.type "type")) && He.eqO (PySem.W.nsIn K cStatics "thirdparty.any") (some none) && He.eqO (PySem.W.nsIn K mainGlobals "super") (some none) && He.eqO (PySem.W.ks_superIn K (caOf P K x.c) (caOf P K x.c) "__init__") (some (some (.builtin (baseI x.b)))) &&
  (match initFd K (caOf P K x.c) with | some fd => fdB K file (caOf P K x.c) fd | none => false) &&
  He.eqO (PySem.W.findIn K (.ref (caOf P K x.c)) "__class__") (some (some (.builtin "object.__class__"))) && He.eqO (PySem.W.specialIn K (.builtin "object.__class__") "__get__") (some (some (.builtin "getset_descriptor.__get__"))) && eqT (PySem.W.takesIn K (.builtin "object.__class__")) true && eqT (PySem.W.mroIn K (caOf P K x.c) (.type "object")) true
/-- its text -/
def xT (P : Pg) (K : PySem.W.Frag) (x : XDf) : Option (Arguments × FuncBody × Scope) := (initFd K (caOf P K x.c)).map fun fd => (fd.params, fd.body, fd.scope)
def xV (x : XDf) : Option (Arguments × FuncBody × Scope) := some (defArgs x.st, .stmts (defBody x.st), defScope x.st)
theorem x_ok {Pr : Program} {P : Pg} {K : PySem.W.Frag} {h : Heap} {mg : Str → Option Value} {x : XDf} (X : K.In h) (G : h.Ns mainGlobals mg) (hf : (Pr.main.scope.names.lookup ("super" : Str)).isSome = false) (sy : XSyn x) (c : xB Pr.main.file P K x = true) (t : xT P K x = xV x) : XcAt Pr K mg (caOf P K) x.n x.c x.k := by
  unfold xB at c
  simp only [Bool.and_eq_true] at c
  obtain ⟨⟨⟨⟨⟨⟨⟨⟨⟨⟨⟨⟨⟨⟨⟨⟨⟨⟨⟨⟨⟨⟨⟨c1, c2⟩, c3⟩, c4⟩, c5⟩, c6⟩, c7⟩, c8⟩, c9⟩, c10⟩, c11⟩, c12⟩, c13⟩, c14⟩, c15⟩, c16⟩, c17⟩, c18⟩, c19⟩, c20⟩, c21⟩, c22⟩, c23⟩, c24⟩ := c
  have c13 := eqT_ok c13
  refine ⟨⟨He.ma K (caOf P K x.c) "__init__", defScope x.st, defArgs x.st, defBody x.st, baseB x.b, baseN x.b, baseI x.b, baseM x.b, ?_⟩, He.eqO_ok c6, He.eqO_ok c7, c13, c4, He.eqO_ok c21, He.eqO_ok c22, eqT_ok c23, eqT_ok c24⟩
  have fn : ∃ (oc : Value) (od : Option Addr) (q : Str) (doc pm : Value) (an : Option Addr) (cda cc : Addr) (ct : Value) (osl : Array (Option Value)),
    K.lookup (He.ma K (caOf P K x.c) "__init__") = some ⟨oc, od, .func (PySem.W.ksFn "__init__" q (defArgs x.st) (defBody x.st) (defScope x.st) .none .none doc pm an (.ref cda) ct cc), osl⟩ ∧ PySem.W.codeIn K (.ref cda) q = true ∧
    (∃ ccl cdd vs ccs file tf, K.lookup cda = some ⟨ccl, cdd, .fields vs, ccs⟩ ∧ vs[2]? = some (.str file tf) ∧ ((Pr.main.file : Str) == file) = true) ∧
    ∃ cl cld csl, K.lookup cc = some ⟨cl, cld, .cell (some (.ref (caOf P K x.c))), csl⟩ := by
    split at c20
    · rename_i fd hfd
      obtain ⟨cda, cc, e, h1, h2, h3⟩ := fdB_ok c20
      unfold xT xV at t
      rw [hfd] at t
      have t := Option.some.inj t
      obtain ⟨t1, t2⟩ := Prod.mk.inj t
      obtain ⟨t2, t3⟩ := Prod.mk.inj t2
      unfold initFd at hfd
      split at hfd
      · rename_i oc od fd' osl hl
        cases hfd
        rw [t1, t2, t3] at e
        rw [e] at hl
        exact ⟨oc, od, fd.qualname, fd.doc, fd.pyModule, fd.annotations, cda, cc, fd.closureTuple, osl, hl, h1, h2, h3⟩
      · cases hfd
    · cases c20
  exact { bx := base_ok x.b, gC := PySem.W.mg_of X G (He.eqO_ok c1), cls := c2, ov := c3, hdC := c4, sa := He.eqO_ok c5, ga := He.eqO_ok c6, gg := He.eqO_ok c7, noN := He.eqO_ok c8, tk := of_decide_eq_true c9, iC := He.eqO_ok c10, tC := c11, kC := c12, exC := c13, exB := eqT_ok c14, slf := eqT_ok c15, tyC := of_decide_eq_true c16, th := He.eqO_ok c17, su := PySem.W.mg_none_of X G (He.eqO_ok c18), sI := He.eqO_ok c19, fn := fn, top := hf, arg := sy.arg, bod := sy.bod, bi := sy.bi, fne := sy.fne, sk := sy.sk, sco := sy.sco, sge := sy.sge, ssu := sy.ssu, scl := sy.scl, sse := sy.sse, sfl := sy.sfl, snc := sy.snc }
end FM


set_option Elab.async false
set_option linter.all false
set_option maxRecDepth 100000
set_option maxHeartbeats 2000000
namespace FM
open PySem L2 PySem.OwnX
/-! ### the module's constants -/
mutual
def wB (K : PySem.W.Frag) : W → Value → Bool
  | .non, .none => true
  | .bl b, .bool c => b == c
  | .int i, .int j _ => decide (i = j)
  | .str s, .str y _ => decide (y = sv s)
  | .tup ws, .ref a => (match K.lookup a with
    | some ⟨.type c, _, .seq its _, _⟩ => decide (c = "tuple") && decide (its.size ≤ sizeLine) && wsB K ws its.toList
    | _ => false)
  | _, _ => false
def wsB (K : PySem.W.Frag) : List W → List Value → Bool
  | [], [] => true
  | w :: ws, v :: vs => wB K w v && wsB K ws vs
  | _, _ => false
end
mutual
theorem wB_ok {K : PySem.W.Frag} {ca : Nat → Addr} : ∀ {w : W} {u : Value}, wB K w u = true → ∃ v, RelV v u ∧ ∀ g, RW ⟨K, ca⟩ g w v
  | .non, u, h => by
    cases u with
    | none => exact ⟨.non, rfl, fun _ => rfl⟩
    | _ => simp [wB] at h
  | .bl b, u, h => by
    cases u with
    | bool c =>
      simp only [wB] at h
      have e := eq_of_beq h
      subst e
      exact ⟨.bl b, rfl, fun _ => rfl⟩
    | _ => simp [wB] at h
  | .int b, u, h => by
    cases u with
    | int c t =>
      simp only [wB] at h
      have e := of_decide_eq_true h
      subst e
      exact ⟨.int b, ⟨_, rfl⟩, fun _ => rfl⟩
    | _ => simp [wB] at h
  | .str b, u, h => by
    cases u with
    | str c t =>
      simp only [wB] at h
      have e := of_decide_eq_true h
      subst e
      exact ⟨.str (sv b), ⟨_, rfl⟩, fun _ => rfl⟩
    | _ => simp [wB] at h
  | .tup ws, u, h => by
    cases u with
    | ref a =>
      simp only [wB] at h
      split at h
      · rename_i c d its n sl hl
        simp only [Bool.and_eq_true, decide_eq_true_eq] at h
        obtain ⟨⟨rfl, h1⟩, h2⟩ := h
        obtain ⟨vs, r, q⟩ := wsB_ok (ca := ca) h2
        exact ⟨.ref a, rfl, fun g => ⟨a, vs, rfl, .inr ⟨_, its, n, hl, rfl, rfl, h1, r⟩, q g⟩⟩
      · cases h
    | _ => simp [wB] at h
  | .lis ws, u, h => by cases u <;> simp [wB] at h
  | .scr ws, u, h => by cases u <;> simp [wB] at h
  | .dic _ _, u, h => by cases u <;> simp [wB] at h
  | .obj _ _ _, u, h => by cases u <;> simp [wB] at h
theorem wsB_ok {K : PySem.W.Frag} {ca : Nat → Addr} : ∀ {ws : List W} {us : List Value}, wsB K ws us = true → ∃ vs, Vals vs us ∧ ∀ g, RWs ⟨K, ca⟩ g ws vs
  | [], [], _ => ⟨[], .nil, fun _ => rfl⟩
  | [], _ :: _, h => by simp [wsB] at h
  | _ :: _, [], h => by simp [wsB] at h
  | w :: ws, u :: us, h => by
    simp only [wsB, Bool.and_eq_true] at h
    obtain ⟨v, r1, q1⟩ := wB_ok (ca := ca) h.1
    obtain ⟨vs, r2, q2⟩ := wsB_ok (ca := ca) h.2
    exact ⟨v :: vs, .cons r1 r2, fun g => ⟨v, vs, rfl, q1 g, q2 g⟩⟩
end
def cstB (K : PySem.W.Frag) (q : Str × W) : Bool := match PySem.W.nsIn K mainGlobals q.1 with
  | some (some u) => wB K q.2 u
  | _ => false
theorem cstB_ok {K : PySem.W.Frag} {ca : Nat → Addr} {h : Heap} {mg : Str → Option Value} {q : Str × W} (X : K.In h) (G : h.Ns mainGlobals mg) (c : cstB K q = true) : ∃ u v, mg q.1 = some u ∧ RelV v u ∧ ∀ g, RW ⟨K, ca⟩ g q.2 v := by
  unfold cstB at c
  split at c
  · rename_i u hu
    obtain ⟨v, r, z⟩ := wB_ok (ca := ca) c
    exact ⟨u, v, PySem.W.mg_of X G hu, r, z⟩
  · cases c
def isbB (P : Pg) (K : PySem.W.Frag) (q : Nat × Str × Bool) : Bool := match PySem.W.nsIn K mainGlobals q.2.1 with
  | some (some cv) => eqT (PySem.W.kitOne K (.ref (caOf P K q.1)) cv) q.2.2
  | some none => (match bootBuiltins q.2.1 with
    | some cv => eqT (PySem.W.kitOne K (.ref (caOf P K q.1)) cv) q.2.2
    | none => false)
  | none => false
theorem isbB_ok {P : Pg} {K : PySem.W.Frag} {h : Heap} {mg : Str → Option Value} {q : Nat × Str × Bool} (X : K.In h) (G : h.Ns mainGlobals mg) (c : isbB P K q = true) : ∀ cv, (mg q.2.1 = some cv ∨ (mg q.2.1 = none ∧ bootBuiltins q.2.1 = some cv)) → PySem.W.kitOne K (.ref (caOf P K q.1)) cv = some q.2.2 := by
  intro cv hc
  unfold isbB at c
  cases e : PySem.W.nsIn K mainGlobals q.2.1 with
  | none => rw [e] at c; cases c
  | some o =>
    rw [e] at c
    cases o with
    | some u =>
      have := PySem.W.mg_of X G e
      rcases hc with hc | ⟨hc, _⟩
      · rw [this] at hc; cases hc; exact eqT_ok c
      · rw [this] at hc; cases hc
    | none =>
      have := PySem.W.mg_none_of X G e
      rcases hc with hc | ⟨_, hc⟩
      · rw [this] at hc; cases hc
      · rw [hc] at c; exact eqT_ok c
def wrB (file : Str) (P : Pg) (XS : List XDf) (K : PySem.W.Frag) : Bool := P.cs.all (cstB K) && (XS.all (xB file P K)) && (P.oc.all fun q => He.eqO (PySem.W.nsIn K mainGlobals q.1) (some (some (.ref (caOf P K q.2))))) &&
  (P.sub.all fun q => eqT (PySem.W.exmOne K (.ref (caOf P K q.1)) (.ref (caOf P K q.2.1))) q.2.2) && P.isb.all (isbB P K) && XS.all fun x => P.fl.all fun f => He.eqO (PySem.W.findIn K (.ref (caOf P K x.c)) (nmS f)) (some none)
theorem lookup_mem {α : Type} : ∀ {l : List (Str × α)} {x : Str} {a : α}, l.lookup x = some a → (x, a) ∈ l
  | (y, b) :: r, x, a, h => by
    rw [List.lookup_cons] at h
    cases e : x == y with
    | true =>
      rw [e] at h
      have := eq_of_beq e
      subst this
      cases h
      exact List.mem_cons_self
    | false =>
      rw [e] at h
      exact List.mem_cons_of_mem _ (lookup_mem h)
theorem wr_ok {Pr : Program} {P : Pg} {XS : List XDf} {K : PySem.W.Frag} {h : Heap} {mg : Str → Option Value} (X : K.In h) (G : h.Ns mainGlobals mg) (hf : (Pr.main.scope.names.lookup ("super" : Str)).isSome = false) (sy : ∀ x ∈ XS, XSyn x) (hx : P.xc = XS.map fun x => (x.n, x.c, x.k)) (hfr : ∀ x ∈ P.fr, mg x = none)
    (c : wrB Pr.main.file P XS K = true) (t : XS.map (xT P K) = XS.map xV) : Wr P Pr K mg (caOf P K) := by
  unfold wrB at c
  simp only [Bool.and_eq_true] at c
  obtain ⟨⟨⟨⟨⟨c1, c2⟩, c3⟩, c4⟩, c5⟩, c6⟩ := c
  have mem : ∀ n c k, (n, c, k) ∈ P.xc → ∃ x ∈ XS, x.n = n ∧ x.c = c ∧ x.k = k := fun n c k m => by
    rw [hx] at m
    obtain ⟨x, hx, e⟩ := List.mem_map.mp m
    cases e
    exact ⟨x, hx, rfl, rfl, rfl⟩
  refine ⟨fun x w hl => cstB_ok X G (List.all_eq_true.mp c1 _ (lookup_mem hl)), hfr, fun n c k m => ?_, fun n c hl => PySem.W.mg_of X G (He.eqO_ok (List.all_eq_true.mp c3 _ (lookup_mem hl))), fun n c k m f hf => ?_, fun a b v m => eqT_ok (List.all_eq_true.mp c4 _ m), fun a n v m cv hc => isbB_ok X G (List.all_eq_true.mp c5 _ m) cv hc⟩
  · obtain ⟨x, hx, rfl, rfl, rfl⟩ := mem n c k m
    refine x_ok X G hf (sy x hx) (List.all_eq_true.mp c2 x hx) ?_
    obtain ⟨i, hi, e⟩ := List.getElem_of_mem hx
    have := congrArg (fun l => l[i]?) t
    simp only [List.getElem?_map, List.getElem?_eq_getElem hi, e, Option.map_some, Option.some.injEq] at this
    exact this
  · obtain ⟨x, hx, rfl, rfl, rfl⟩ := mem n c k m
    exact He.eqO_ok (List.all_eq_true.mp (List.all_eq_true.mp c6 x hx) f hf)
/-- the first def of a class's text -/
def clsInit : Stmt → Stmt
  | .ClassDef _ _ _ body _ _ _ _ _ _ _ => body.getD 0 (.Pass ⟨0, 0, 0, 0⟩)
  | s => s
/-! ### the Hook -/
abbrev ObF : Type := He.AlD × Bool × List (Option (Arguments × FuncBody × Scope))
def DD.dd (d : DD) : He.DefD := ⟨(d.x, none), d.x, d.x, defArgs d.st, defBody d.st, defScope d.st, [], []⟩
def faOf (P : Pg) (D : List DD) : List He.Fa := (D.map fun d => He.Fa.glo d.x) ++ P.fr.map He.Fa.free
def obsV (file : Str) (P : Pg) (D : List DD) (XS : List XDf) (K : PySem.W.Frag) : ObF := (He.obsD (faOf P D) (D.map DD.dd) K, wrB file P XS K, XS.map (xT P K))
def valV (D : List DD) (XS : List XDf) : ObF := (He.valD (D.map DD.dd), true, XS.map xV)
def SaysV (file : Str) (P : Pg) (D : List DD) (XS : List XDf) (K : PySem.W.Frag) : Prop := obsV file P D XS K = valV D XS
def obsVG (n : Nat) (file : Str) (P : Pg) (D : List DD) (XS : List XDf) (g : Addr → Option Obj) : ObF := obsV file P D XS (He.frG g (cStatics :: He.asD g n))
def hookV (n : Nat) (file : Str) (P : Pg) (D : List DD) (XS : List XDf) : PySem.W.Hook where
  α := ObF
  obs := fun s => obsVG n file P D XS s.heap.get?
  val := fun _ => valV D XS
  says := fun _ h => ∃ K : PySem.W.Frag, K.In h ∧ SaysV file P D XS K
  of := fun _ _ e => ⟨_, He.frG_in, e⟩
  keeps := fun _ _ _ ⟨K, hK, c⟩ k => ⟨K, PySem.W.Frag.In.keeps hK k, c⟩
theorem obsVG_eq {n : Nat} {file : Str} {P : Pg} {D : List DD} {XS : List XDf} {g : Addr → Option Obj} {s : Shared} (h : ∀ a, g a = s.heap.get? a) : obsVG n file P D XS g = (hookV n file P D XS).obs s := by
  have e : g = s.heap.get? := funext h
  rw [e] <;> rfl
/-- does every name of the table stand at its number -/
def fnsB (P : Pg) (D : List DD) : Bool := P.fns.all fun q => match D[q.2.1]? with
  | some d => decide (d.x = q.1) && decide (d.ps = q.2.2)
  | none => false
def BindT (d : DD) : Prop := ∀ (kV doc pm : Value) (an : Option Addr) (cdv ct : Value) (us : List Value), us.length = d.ps.length → bindArgs (PySem.W.fnOf d.x d.x (defArgs d.st) (defBody d.st) (defScope d.st) .none kV doc pm an cdv ct) ⟨us, []⟩ = pure (d.ps.zip us)
theorem defs_of {Pr : Program} {K : PySem.W.Frag} {h : Heap} {mg : Str → Option Value} {P : Pg} {D : List DD} {XS : List XDf} {m : Nat} (X : K.In h) (G : h.Ns mainGlobals mg) (c : SaysV Pr.main.file P D XS K) (hck : D.all (ckD P m) = true) (hfn : fnsB P D = true) (hb : ∀ d ∈ D, BindT d)
    (hf : (Pr.main.scope.names.lookup ("super" : Str)).isSome = false) (sy : ∀ x ∈ XS, XSyn x) (hx : P.xc = XS.map fun x => (x.n, x.c, x.k)) :
    ∃ (fa : Nat → Addr) (fd : Nat → FuncData), Defs Pr K mg P D m fa fd (caOf P K) := by
  have c1 : He.SaysD (faOf P D) (D.map DD.dd) K := congrArg (fun z : ObF => z.1) c
  have c2 : wrB Pr.main.file P XS K = true := congrArg (fun z : ObF => z.2.1) c
  have c3 : XS.map (xT P K) = XS.map xV := congrArg (fun z : ObF => z.2.2) c
  have hex : ∀ f : Nat, ∃ q : Addr × FuncData, ∀ d, D[f]? = some d → FunD K d.x d.x (defArgs d.st) (defBody d.st) (defScope d.st) [] [] q.1 q.2 ∧ mg d.x = some (.ref q.1) := by
    intro f
    cases e : D[f]? with
    | none => exact ⟨(0, default), fun d h => by cases h⟩
    | some d =>
      obtain ⟨fd, hF⟩ := c1.def_ f (d := d.dd) (by rw [List.getElem?_map, e]; rfl)
      refine ⟨(He.ga K d.x, fd), fun d' h => ?_⟩
      cases h
      refine ⟨hF, He.glo_ok X G (c1.fact f (f := .glo d.x) ?_)⟩
      unfold faOf
      rw [List.getElem?_append_left (by rw [List.length_map]; exact (List.getElem?_eq_some_iff.mp e).1), List.getElem?_map, e]
      rfl
  obtain ⟨q, hq⟩ := Classical.skolem.mp hex
  refine ⟨fun f => (q f).1, fun f => (q f).2, fun f d hd => ?_, fun f d hd => (hq f d hd).1, fun f d hd => (hq f d hd).2, fun f d hd => ?_, fun x f ps hx => ?_, ?_⟩
  · exact List.all_eq_true.mp hck d (List.mem_of_getElem? hd)
  · exact (hq f d hd).1.bindsN (hb d (List.mem_of_getElem? hd))
  · have := List.all_eq_true.mp hfn _ (lookup_mem hx)
    dsimp only at this
    split at this
    · rename_i d hd
      rw [Bool.and_eq_true, decide_eq_true_eq, decide_eq_true_eq] at this
      exact ⟨d, hd, this.1, this.2⟩
    · cases this
  · refine wr_ok X G hf sy hx (fun x hx => ?_) c2 c3
    obtain ⟨i, hi, e⟩ := List.getElem_of_mem hx
    have e2 : P.fr[i]? = some x := by rw [List.getElem?_eq_getElem hi, e]
    refine He.free_ok X G (c1.fact (D.length + i) (f := .free x) ?_)
    unfold faOf
    rw [List.getElem?_append_right (by rw [List.length_map]; omega), List.length_map, Nat.add_sub_cancel_left, List.getElem?_map, e2]
    rfl
/-! ### the law's call -/
theorem rws_ints {Z : Kx} {g : Sg} : ∀ ns : List Int, RWs Z g (ns.map W.int) (ns.map V.int)
  | [] => rfl
  | n :: ns => ⟨.int n, ns.map V.int, rfl, rfl, rws_ints ns⟩
theorem sp_law {Z : Kx} {c : CF} {f : Nat} {H : Hp} {a : Addr} {ns : List Int} {E : XK} (ho : Only H) (hS : SqL Z.K H a (ns.map V.int)) (hl : c f [.m (.d (.scr (ns.map W.int)))] = .ok (.d (.bl true)) []) :
    spOf Z c f 1 [.ref a] H (fun v _ => v = .bl true) E := by
  have hs : ScrR Z ⟨H, fun _ => False⟩ a (ns.map V.int) := by
    rcases hS with hr | hk
    · rcases ho a with e | ⟨o, xs, e⟩
      · rcases hr with hr | ⟨o, hr⟩
        · rw [e] at hr; cases hr
        · rw [e] at hr; cases hr
      · rcases hr with hr | ⟨o', hr⟩
        · rw [e] at hr; cases hr
        · rw [e] at hr
          cases hr
          exact .inl ⟨_, e⟩
    · exact .inr hk
  refine ⟨⟨H, fun _ => False⟩, [.m (.d (.scr (ns.map W.int)))], fun _ => [], fun _ => none, rfl, rfl, ⟨rfl, fun i e he => ?_, fun _ _ => rfl, fun _ => List.nodup_nil, fun _ _ _ m => (nomatch m), fun _ _ m => (nomatch m), fun _ l => False.elim l⟩, fun i u he => ?_, ?_⟩
  · cases i with
    | zero => cases he; exact ⟨_, rfl, .ref a, rfl, rfl, a, _, rfl, hs, rws_ints ns⟩
    | succ i => cases he
  · cases i with
    | zero => cases he
    | succ i => cases he
  · rw [hl]
    intro g' F' v fp fps _ _ _ _ _ o _ _
    exact o.2
end FM


set_option Elab.async false
set_option linter.all false
set_option maxRecDepth 100000
set_option maxHeartbeats 2000000
namespace FM
open PySem L2
/-- what a def may let out, in whatever world -/
def CXs (P : Program) : CXT := fun outer H s E u s' => ∃ w, L2.CX P w outer H s E u s'
theorem FnOk.cx {P : Program} {w : World} {K : PySem.W.Frag} {mg : Str → Option Value} {base : Heap} {CX CX' : CXT} {k : Nat} {f : Addr} {fd : FuncData} {ps : List Str} {sp : Sp} (F : FnOk P w K mg base CX k f fd ps sp) (h : ∀ outer H s E u s', CX outer H s E u s' → CX' outer H s E u s') : FnOk P w K mg base CX' k f fd ps sp :=
  ⟨F.len, fun A outer s H args us vs Q E hr he hb hv hs => codeAny_mono (F.run A outer s H args us vs Q E hr he hb hv hs) fun r s' q => by
    cases r with
    | error e => exact h _ _ _ _ _ _ q
    | ok fl => cases fl <;> exact q⟩
theorem cxs_no {P : Program} {H : Hp} {s : Shared} {e : Value} {s' : Shared} (h : CXs P [] H s (fun _ _ _ => False) e s') : False := by
  obtain ⟨w, a, B, H', cls, d, _, _, _, _, _, _, _, z⟩ := h
  exact z
end FM


set_option linter.all false
set_option maxRecDepth 100000
/-! Reasoning about the evaluator: what a run gives, step by step. -/
namespace FM
def Rn {α : Type} (x : Res α) (Q : α → Env → Prop) (X : Xn → Env → Prop) : Prop := match x with
  | .ok a r => Q a r
  | .ex e r => X e r
  | .bad => False
structure Dn where
  N : Env → Prop
  T : U → Env → Prop
  B : Env → Prop
  C : Env → Prop
  X : Xn → Env → Prop
@[reducible] def Dn.wn (D : Dn) (N : Env → Prop) : Dn := ⟨N, D.T, D.B, D.C, D.X⟩
@[reducible] def Dn.wx (D : Dn) (X : Xn → Env → Prop) : Dn := ⟨D.N, D.T, D.B, D.C, X⟩
@[reducible] def Dn.wl (D : Dn) (N : Env → Prop) : Dn := ⟨N, D.T, D.N, N, D.X⟩
@[reducible] def Dn.wu (D : Dn) (i : Nat) : Dn := ⟨fun r => D.N (r.set i .no), fun u r => D.T u (r.set i .no), fun r => D.B (r.set i .no), fun r => D.C (r.set i .no), fun _ _ => False⟩
def Sn (x : SRes) (D : Dn) : Prop := match x with
  | .nx r => D.N r
  | .rt u r => D.T u r
  | .bk r => D.B r
  | .ct r => D.C r
  | .ex e r => D.X e r
  | .bad => False
section
variable {α β : Type} {x : Res α} {f : α → Env → Res β} {Q : β → Env → Prop} {X : Xn → Env → Prop}
theorem Rn_bind : Rn (x.bind f) Q X = Rn x (fun a r => Rn (f a r) Q X) X := by cases x <;> rfl
theorem Rn.imp {x : Res α} {Q Q' : α → Env → Prop} (h : Rn x Q X) (k : ∀ a r, Q a r → Q' a r) : Rn x Q' X := by
  cases x with
  | ok a r => exact k a r h
  | ex e r => exact h
  | bad => exact h
theorem Rn_of {o : Option α} {r : Env} {a : α} {Q : α → Env → Prop} (e : o = some a) (q : Q a r) : Rn (Res.of o r) Q X := by rw [e]; exact q
theorem Sn_toS {g : α → Env → SRes} {D : Dn} : Sn (x.toS g) D = Rn x (fun a r => Sn (g a r) D) D.X := by cases x <;> rfl
end
/-! ### expressions -/
section
variable {c : CF} {n i : Nat} {r r1 : Env} {Q : W → Env → Prop} {X : Xn → Env → Prop} {a b d e : IE} {es : List IE} {x y z : IV} {u : IU} {t : IT} {w v : W}
theorem E_var (e : rdV r i = some (w, r1)) (q : Q w r1) : Rn ((lvl c (n + 1)).E (.var i) r) Q X := by
  show Rn (match rdV r i with | some (w, r1) => Res.ok w r1 | none => .bad) Q X
  rw [e]; exact q
theorem E_cst (q : Q w r) : Rn ((lvl c (n + 1)).E (.cst w) r) Q X := q
theorem E_tup (q : Rn (evs (lvl c n).E es r) (fun ws r1 => Q (.tup ws) r1) X) : Rn ((lvl c (n + 1)).E (.tup es) r) Q X := by
  show Rn ((evs (lvl c n).E es r).bind fun ws r1 => .ok (.tup ws) r1) Q X
  rw [Rn_bind]; exact q
theorem E_frz (q : Rn ((lvl c n).U u r) (fun u r1 => Q (fz u) r1) X) : Rn ((lvl c (n + 1)).E (.frz u) r) Q X := by
  show Rn (((lvl c n).U u r).bind fun u r1 => .ok (fz u) r1) Q X
  rw [Rn_bind]; exact q
theorem E_bin {op : B2} (q : Rn ((lvl c n).V x r) (fun a r1 => Rn ((lvl c n).V y r1) (fun b r2 => Rn (Res.of ((vw r2 a).bind fun u => (vw r2 b).bind fun w => arith op u w) r2) Q X) X) X) : Rn ((lvl c (n + 1)).E (.bin op x y) r) Q X := by
  show Rn (((lvl c n).V x r).bind fun a r1 => ((lvl c n).V y r1).bind fun b r2 => Res.of ((vw r2 a).bind fun u => (vw r2 b).bind fun w => arith op u w) r2) Q X
  simp only [Rn_bind]; exact q
theorem R_bin {op : B2} {A B : Arg} {u w : W} (e1 : vw r A = some u) (e2 : vw r B = some w) (q : Rn (Res.of (arith op u w) r) Q X) : Rn (Res.of ((vw r A).bind fun u => (vw r B).bind fun w => arith op u w) r) Q X := by
  rw [e1, e2]; exact q
theorem E_neg (q : Rn ((lvl c n).E a r) (fun x r1 => ∃ j, x = .int j ∧ Q (.int (-j)) r1) X) : Rn ((lvl c (n + 1)).E (.neg a) r) Q X := by
  show Rn (((lvl c n).E a r).bind fun x r1 => match x with | .int i => .ok (.int (-i)) r1 | _ => .bad) Q X
  rw [Rn_bind]
  exact q.imp fun x r1 ⟨j, e, q⟩ => by subst e; exact q
theorem cmp_run {op : C2} {Q : Bool → Env → Prop} (q : Rn ((lvl c n).V x r) (fun a r1 => Rn ((lvl c n).V y r1) (fun b r2 => Rn (Res.of (cmp2 op a b r2) r2) Q X) X) X) : Rn (cmpS (lvl c n) op x y r) Q X := by
  unfold cmpS
  simp only [Rn_bind]; exact q
theorem R_cmp {op : C2} {A B : Arg} {u w : W} {k : Bool} {Q : Bool → Env → Prop} (e1 : vw r A = some u) (e2 : vw r B = some w) (e3 : cmpW op u w = some k) (q : Q k r) : Rn (Res.of (cmp2 op A B r) r) Q X := by
  unfold cmp2
  rw [e1, e2, Option.bind_some, Option.bind_some, e3]; exact q
theorem E_cmp {op : C2} (q : Rn ((lvl c n).V x r) (fun a r1 => Rn ((lvl c n).V y r1) (fun b r2 => Rn (Res.of (cmp2 op a b r2) r2) (fun k r3 => Q (.bl k) r3) X) X) X) : Rn ((lvl c (n + 1)).E (.cmp op x y) r) Q X := by
  show Rn ((cmpS (lvl c n) op x y r).bind fun c r1 => .ok (.bl c) r1) Q X
  rw [Rn_bind]
  exact cmp_run q
theorem chn_run {op op' : C2} {Q : Bool → Env → Prop} (q : Rn ((lvl c n).V x r) (fun A r1 => Rn ((lvl c n).V y r1) (fun B r2 => Rn (Res.of (cmp2 op A B r2) r2) (fun k r3 => if k = true then Rn ((lvl c n).V z r3) (fun D r4 => Rn (Res.of (cmp2 op' B D r4) r4) Q X) X else Q false r3) X) X) X) : Rn (chnS (lvl c n) op op' x y z r) Q X := by
  unfold chnS
  simp only [Rn_bind]
  exact q.imp fun A r1 q => q.imp fun B r2 q => by
    cases z' : cmp2 op A B r2 with
    | none => rw [z'] at q; exact q
    | some k =>
      rw [z'] at q
      cases k with
      | false => exact q
      | true =>
        show Rn (((lvl c n).V z r2).bind _) Q X
        rw [Rn_bind]
        exact q
theorem E_chn {op op' : C2} (q : Rn ((lvl c n).V x r) (fun A r1 => Rn ((lvl c n).V y r1) (fun B r2 => Rn (Res.of (cmp2 op A B r2) r2) (fun k r3 => if k = true then Rn ((lvl c n).V z r3) (fun D r4 => Rn (Res.of (cmp2 op' B D r4) r4) (fun k r5 => Q (.bl k) r5) X) X else Q (.bl false) r3) X) X) X) : Rn ((lvl c (n + 1)).E (.chn op op' x y z) r) Q X := by
  show Rn ((chnS (lvl c n) op op' x y z r).bind fun c r1 => .ok (.bl c) r1) Q X
  rw [Rn_bind]
  exact chn_run q
theorem E_and1 (q : Rn ((lvl c n).E a r) Q X) : Rn ((lvl c (n + 1)).E (.and [a]) r) Q X := q
theorem E_and (q : Rn ((lvl c n).E a r) (fun w r1 => ∃ k, w = .bl k ∧ if k = true then Rn ((lvl c (n + 1)).E (.and (b :: es)) r1) Q X else Q (.bl false) r1) X) : Rn ((lvl c (n + 1)).E (.and (a :: b :: es)) r) Q X := by
  show Rn (((lvl c n).E a r).bind fun w r1 => match w with
    | .bl true => andE (lvl c n) (b :: es) r1
    | .bl false => .ok (.bl false) r1
    | _ => .bad) Q X
  rw [Rn_bind]
  exact q.imp fun w r1 ⟨k, e, q⟩ => by subst e; cases k <;> exact q
theorem E_or1 (q : Rn ((lvl c n).E a r) Q X) : Rn ((lvl c (n + 1)).E (.or [a]) r) Q X := q
theorem E_or (q : Rn ((lvl c n).E a r) (fun w r1 => ∃ k, w = .bl k ∧ if k = true then Q (.bl true) r1 else Rn ((lvl c (n + 1)).E (.or (b :: es)) r1) Q X) X) : Rn ((lvl c (n + 1)).E (.or (a :: b :: es)) r) Q X := by
  show Rn (((lvl c n).E a r).bind fun w r1 => match w with
    | .bl true => .ok (.bl true) r1
    | .bl false => orE (lvl c n) (b :: es) r1
    | _ => .bad) Q X
  rw [Rn_bind]
  exact q.imp fun w r1 ⟨k, e, q⟩ => by subst e; cases k <;> exact q
theorem E_not (q : Rn ((lvl c n).E a r) (fun x r1 => ∃ k, x = .bl k ∧ Q (.bl (!k)) r1) X) : Rn ((lvl c (n + 1)).E (.not a) r) Q X := by
  show Rn (((lvl c n).E a r).bind fun x r1 => match x with | .bl b => .ok (.bl (!b)) r1 | _ => .bad) Q X
  rw [Rn_bind]
  exact q.imp fun x r1 ⟨j, e, q⟩ => by subst e; exact q
theorem E_ite (q : Rn ((lvl c n).T t r) (fun k r1 => if k = true then Rn ((lvl c n).E a r1) Q X else Rn ((lvl c n).E b r1) Q X) X) : Rn ((lvl c (n + 1)).E (.ite t a b) r) Q X := by
  show Rn (((lvl c n).T t r).bind fun x r1 => if x then (lvl c n).E a r1 else (lvl c n).E b r1) Q X
  rw [Rn_bind]
  exact q.imp fun k r1 q => by cases k <;> exact q
theorem E_idx (q : Rn ((lvl c n).V x r) (fun A r1 => Rn ((lvl c n).E a r1) (fun k r2 => Rn (Res.of ((vw r2 A).bind fun u => idxW u k) r2) Q X) X) X) : Rn ((lvl c (n + 1)).E (.idx x a) r) Q X := by
  show Rn (((lvl c n).V x r).bind fun A r1 => ((lvl c n).E a r1).bind fun k r2 => Res.of ((vw r2 A).bind fun u => idxW u k) r2) Q X
  simp only [Rn_bind]; exact q
theorem R_idx {A : Arg} {u k w : W} (e1 : vw r A = some u) (e2 : idxW u k = some w) (q : Q w r) : Rn (Res.of ((vw r A).bind fun u => idxW u k) r) Q X := by
  rw [e1, Option.bind_some, e2]; exact q
theorem E_didx (q : Rn ((lvl c n).V x r) (fun A r1 => Rn ((lvl c n).E a r1) (fun k r2 => Rn (Res.of ((vw r2 A).bind fun u => match u with
    | .dic ks vs => if keyOk k then dfind k ks vs else none
    | _ => none) r2) Q X) X) X) : Rn ((lvl c (n + 1)).E (.didx x a) r) Q X := by
  show Rn (((lvl c n).V x r).bind fun A r1 => ((lvl c n).E a r1).bind fun k r2 => Res.of ((vw r2 A).bind fun u => match u with
    | .dic ks vs => if keyOk k then dfind k ks vs else none
    | _ => none) r2) Q X
  simp only [Rn_bind]; exact q
theorem R_didx {A : Arg} {ks vs : List W} {k w : W} (e1 : vw r A = some (.dic ks vs)) (e2 : keyOk k = true) (e3 : dfind k ks vs = some w) (q : Q w r) : Rn (Res.of ((vw r A).bind fun u => match u with
    | .dic ks vs => if keyOk k then dfind k ks vs else none
    | _ => none) r) Q X := by
  rw [e1, Option.bind_some]
  show Rn (Res.of (if keyOk k then dfind k ks vs else none) r) Q X
  rw [e2, if_pos rfl, e3]; exact q
theorem E_dget {ks : List W} {us : List U} (hl : lookU r i = some (.c ks us)) (q : Rn ((lvl c n).E a r) (fun k r1 => Rn ((lvl c n).E b r1) (fun d r2 => Rn (Res.of (dgetV i k d r2) r2) Q X) X) X) : Rn ((lvl c (n + 1)).E (.dget i a b) r) Q X := by
  show Rn (match lookU r i with
    | some (.c _ _) => ((lvl c n).E a r).bind fun k r1 => ((lvl c n).E b r1).bind fun d r2 => Res.of (dgetV i k d r2) r2
    | _ => .bad) Q X
  rw [hl]
  show Rn (((lvl c n).E a r).bind _) Q X
  simp only [Rn_bind]; exact q
theorem E_isi {t : Ty} (q : Rn ((lvl c n).V x r) (fun A r1 => Rn (Res.of ((vw r1 A).bind fun w => tyIsO t w) r1) Q X) X) : Rn ((lvl c (n + 1)).E (.isi x t) r) Q X := by
  show Rn (((lvl c n).V x r).bind fun A r1 => Res.of ((vw r1 A).bind fun w => tyIsO t w) r1) Q X
  rw [Rn_bind]; exact q
theorem R_isi {t : Ty} {A : Arg} {u w : W} (e1 : vw r A = some u) (e2 : tyIsO t u = some w) (q : Q w r) : Rn (Res.of ((vw r A).bind fun w => tyIsO t w) r) Q X := by
  rw [e1, Option.bind_some, e2]; exact q
theorem E_blt {f : Bt} {vs : List IV} (q : Rn (evs (lvl c n).V vs r) (fun xs r1 => Rn (Res.of ((vws r1 xs).bind fun ws => bltF f ws) r1) Q X) X) : Rn ((lvl c (n + 1)).E (.blt f vs) r) Q X := by
  show Rn ((evs (lvl c n).V vs r).bind fun xs r1 => Res.of ((vws r1 xs).bind fun ws => bltF f ws) r1) Q X
  rw [Rn_bind]; exact q
theorem R_blt {f : Bt} {xs : List Arg} {ws : List W} {w : W} (e1 : vws r xs = some ws) (e2 : bltF f ws = some w) (q : Q w r) : Rn (Res.of ((vws r xs).bind fun ws => bltF f ws) r) Q X := by
  rw [e1, Option.bind_some, e2]; exact q
theorem E_app {us : List U} (hl : lookU r i = some (.l us)) (q : Rn ((lvl c n).E a r) (fun y r1 => Rn (appS i y r1) Q X) X) : Rn ((lvl c (n + 1)).E (.app i a) r) Q X := by
  show Rn (match lookU r i with
    | some (.l _) => ((lvl c n).E a r).bind fun y r1 => appS i y r1
    | _ => .bad) Q X
  rw [hl]
  show Rn (((lvl c n).E a r).bind _) Q X
  rw [Rn_bind]; exact q
theorem R_app {us : List U} {y : W} (hl : lookU r i = some (.l us)) (hz : us.length < size) (hp : putV r i (.l (us ++ [.d y])) = some r1) (q : Q .non r1) : Rn (appS i y r) Q X := by
  unfold appS
  rw [hl]
  show Rn (if Nat.blt us.length size then (match putV r i (.l (us ++ [.d y])) with
    | some r2 => Res.ok W.non r2
    | none => .bad) else .bad) Q X
  rw [if_pos (Nat.blt_eq.mpr hz), hp]; exact q
theorem E_xfl {c' k : Nat} {w : W} (h : nth r i = some (.x c' [k] [w])) (q : Q w r) : Rn ((lvl c (n + 1)).E (.xfl i k) r) Q X := by
  show Rn (match nth r i with
    | some (.x _ [l] [w]) => if Nat.beq l k then Res.ok w r else .bad
    | _ => .bad) Q X
  rw [h]
  show Rn (if Nat.beq k k then Res.ok w r else .bad) Q X
  rw [Nat.beq_refl, if_pos rfl]; exact q
theorem E_xis {c' k : Nat} {w : W} {cs no : List Nat} (h : nth r i = some (.x c' [k] [w])) (hc : cs.any (Nat.beq c') = true) (q : Q (.bl true) r) : Rn ((lvl c (n + 1)).E (.xis i cs no) r) Q X := by
  show Rn (match nth r i with
    | some (.x c [_] [_]) => if cs.any (Nat.beq c) then Res.ok (W.bl true) r else if no.any (Nat.beq c) then .ok (.bl false) r else .bad
    | _ => .bad) Q X
  rw [h]
  show Rn (if cs.any (Nat.beq c') then Res.ok (W.bl true) r else if no.any (Nat.beq c') then .ok (.bl false) r else .bad) Q X
  rw [hc, if_pos rfl]; exact q
end
section
variable {c : CF} {n i : Nat} {r r1 : Env} {X : Xn → Env → Prop} {a b : IE} {x y z : IV} {u : IU}
theorem V_e {Q : Arg → Env → Prop} (q : Rn ((lvl c n).E a r) (fun w r1 => Q (.w w) r1) X) : Rn ((lvl c (n + 1)).V (.e a) r) Q X := by
  show Rn (((lvl c n).E a r).bind fun w r1 => .ok (.w w) r1) Q X
  rw [Rn_bind]; exact q
theorem V_u {Q : Arg → Env → Prop} (q : Rn ((lvl c n).U u r) (fun w r1 => Q (.fr w) r1) X) : Rn ((lvl c (n + 1)).V (.u u) r) Q X := by
  show Rn (((lvl c n).U u r).bind fun w r1 => .ok (.fr w) r1) Q X
  rw [Rn_bind]; exact q
theorem V_s {Q : Arg → Env → Prop} {w : U} (e : lookU r i = some w) (q : Q (.sl i) r) : Rn ((lvl c (n + 1)).V (.s i) r) Q X := by
  show Rn (match lookU r i with | some _ => Res.ok (Arg.sl i) r | none => .bad) Q X
  rw [e]; exact q
theorem A_nil {α β : Type} {f : α → Env → Res β} {Q : List β → Env → Prop} (q : Q [] r) : Rn (evs f [] r) Q X := q
theorem A_cons {α β : Type} {f : α → Env → Res β} {e : α} {es : List α} {Q : List β → Env → Prop} (q : Rn (f e r) (fun w r1 => Rn (evs f es r1) (fun ws r2 => Q (w :: ws) r2) X) X) : Rn (evs f (e :: es) r) Q X := by
  show Rn ((f e r).bind fun w r1 => (evs f es r1).bind fun ws r2 => .ok (w :: ws) r2) Q X
  rw [Rn_bind]
  exact q.imp fun w r1 q => by rw [Rn_bind]; exact q
theorem A_d {Q : AV → Env → Prop} {s : SF} (q : Rn (s.E a r) (fun w r1 => Q (.d w) r1) X) : Rn (stepA s (.d a) r) Q X := by
  show Rn ((s.E a r).bind fun w r1 => .ok (.d w) r1) Q X
  rw [Rn_bind]; exact q
theorem A_u {Q : AV → Env → Prop} {s : SF} (q : Rn (s.U u r) (fun w r1 => Q (.u w) r1) X) : Rn (stepA s (.u u) r) Q X := by
  show Rn ((s.U u r).bind fun w r1 => .ok (.u w) r1) Q X
  rw [Rn_bind]; exact q
theorem A_r {Q : AV → Env → Prop} {s : SF} {w : U} (e : lookU r i = some w) (q : Q (.r i) r) : Rn (stepA s (.r i) r) Q X := by
  show Rn (match lookU r i with | some _ => Res.ok (AV.r i) r | none => .bad) Q X
  rw [e]; exact q
/-! tests -/
theorem T_val {Q : Bool → Env → Prop} (q : Rn ((lvl c n).E a r) (fun w r1 => ∃ k, w = .bl k ∧ Q k r1) X) : Rn ((lvl c (n + 1)).T (.val a) r) Q X := by
  show Rn (((lvl c n).E a r).bind fun w r1 => match w with | .bl b => .ok b r1 | _ => .bad) Q X
  rw [Rn_bind]
  exact q.imp fun x r1 ⟨j, e, q⟩ => by subst e; exact q
theorem T_cmp {op : C2} {Q : Bool → Env → Prop} (q : Rn ((lvl c n).V x r) (fun a r1 => Rn ((lvl c n).V y r1) (fun b r2 => Rn (Res.of (cmp2 op a b r2) r2) Q X) X) X) : Rn ((lvl c (n + 1)).T (.cmp op x y) r) Q X := cmp_run q
theorem T_chn {op op' : C2} {Q : Bool → Env → Prop} (q : Rn ((lvl c n).V x r) (fun A r1 => Rn ((lvl c n).V y r1) (fun B r2 => Rn (Res.of (cmp2 op A B r2) r2) (fun k r3 => if k = true then Rn ((lvl c n).V z r3) (fun D r4 => Rn (Res.of (cmp2 op' B D r4) r4) Q X) X else Q false r3) X) X) X) : Rn ((lvl c (n + 1)).T (.chn op op' x y z) r) Q X := chn_run q
theorem T_and1 {Q : Bool → Env → Prop} {s : IT} (q : Rn ((lvl c n).T s r) Q X) : Rn ((lvl c (n + 1)).T (.and [s]) r) Q X := q
theorem T_and {Q : Bool → Env → Prop} {s t : IT} {ts : List IT} (q : Rn ((lvl c n).T s r) (fun k r1 => if k = true then Rn ((lvl c (n + 1)).T (.and (t :: ts)) r1) Q X else Q false r1) X) : Rn ((lvl c (n + 1)).T (.and (s :: t :: ts)) r) Q X := by
  show Rn (((lvl c n).T s r).bind fun b r1 => if b then andT (lvl c n) (t :: ts) r1 else .ok false r1) Q X
  rw [Rn_bind]
  exact q.imp fun k r1 q => by cases k <;> exact q
theorem T_or1 {Q : Bool → Env → Prop} {s : IT} (q : Rn ((lvl c n).T s r) Q X) : Rn ((lvl c (n + 1)).T (.or [s]) r) Q X := q
theorem T_or {Q : Bool → Env → Prop} {s t : IT} {ts : List IT} (q : Rn ((lvl c n).T s r) (fun k r1 => if k = true then Q true r1 else Rn ((lvl c (n + 1)).T (.or (t :: ts)) r1) Q X) X) : Rn ((lvl c (n + 1)).T (.or (s :: t :: ts)) r) Q X := by
  show Rn (((lvl c n).T s r).bind fun b r1 => if b then .ok true r1 else orT (lvl c n) (t :: ts) r1) Q X
  rw [Rn_bind]
  exact q.imp fun k r1 q => by cases k <;> exact q
theorem T_not {Q : Bool → Env → Prop} {t : IT} (q : Rn ((lvl c n).T t r) (fun k r1 => Q (!k) r1) X) : Rn ((lvl c (n + 1)).T (.not t) r) Q X := by
  show Rn (((lvl c n).T t r).bind fun b r1 => .ok (!b) r1) Q X
  rw [Rn_bind]; exact q
/-! what is made -/
variable {Q : U → Env → Prop} {es : List IE}
theorem U_d (q : Rn ((lvl c n).E a r) (fun w r1 => Q (.d w) r1) X) : Rn ((lvl c (n + 1)).U (.d a) r) Q X := by
  show Rn (((lvl c n).E a r).bind fun w r1 => .ok (.d w) r1) Q X
  rw [Rn_bind]; exact q
theorem U_mv {u : U} (e : mvV r i = some (u, r1)) (q : Q u r1) : Rn ((lvl c (n + 1)).U (.mv i) r) Q X := by
  show Rn (match mvV r i with | some (u, r1) => Res.ok u r1 | none => .bad) Q X
  rw [e]; exact q
theorem U_lst (q : Rn (evs (lvl c n).E es r) (fun ws r1 => Q (.l (ws.map U.d)) r1) X) : Rn ((lvl c (n + 1)).U (.lst es) r) Q X := by
  show Rn ((evs (lvl c n).E es r).bind fun ws r1 => .ok (.l (ws.map U.d)) r1) Q X
  rw [Rn_bind]; exact q
theorem U_ndic (q : Q (.c [] []) r) : Rn ((lvl c (n + 1)).U .ndic r) Q X := q
theorem U_call {f : Nat} {as : List IA} (q : Rn (evs (stepA (lvl c n)) as r) (fun vs r1 => Rn (runC c f vs r1) Q X) X) : Rn ((lvl c (n + 1)).U (.call f as) r) Q X := by
  show Rn ((evs (stepA (lvl c n)) as r).bind fun vs r1 => runC c f vs r1) Q X
  rw [Rn_bind]; exact q
theorem R_call {f : Nat} {vs : List AV} {es : List En} {is : List Nat} {u : U} {os : List U} (ea : args r vs = some (es, is)) (ec : c f es = .ok u os) (ep : puts r is os = some r1) (q : Q u r1) : Rn (runC c f vs r) Q X := by
  unfold runC
  rw [ea]
  show Rn (match c f es with
    | .ok u os => (match puts r is os with
      | some r1 => Res.ok u r1
      | none => .bad)
    | .ex x os => (match puts r is os with
      | some r1 => .ex x r1
      | none => .bad)
    | .bad => .bad) Q X
  rw [ec]
  show Rn (match puts r is os with
      | some r1 => Res.ok u r1
      | none => .bad) Q X
  rw [ep]; exact q
theorem R_callX {f : Nat} {vs : List AV} {es : List En} {is : List Nat} {x : Xn} {os : List U} (ea : args r vs = some (es, is)) (ec : c f es = .ex x os) (ep : puts r is os = some r1) (q : X x r1) : Rn (runC c f vs r) Q X := by
  unfold runC
  rw [ea]
  show Rn (match c f es with
    | .ok u os => (match puts r is os with
      | some r1 => Res.ok u r1
      | none => .bad)
    | .ex x os => (match puts r is os with
      | some r1 => .ex x r1
      | none => .bad)
    | .bad => .bad) Q X
  rw [ec]
  show Rn (match puts r is os with
      | some r1 => Res.ex x r1
      | none => .bad) Q X
  rw [ep]; exact q
theorem U_cat (q : Rn ((lvl c n).V x r) (fun A r1 => Rn ((lvl c n).V y r1) (fun B r2 => Rn (Res.of ((vw r2 A).bind fun u => (lstW u).bind fun us => (vw r2 B).bind fun w => (lstW w).bind fun ws => if Nat.ble (us.length + ws.length) size then some (.l ((us ++ ws).map U.d)) else none) r2) Q X) X) X) : Rn ((lvl c (n + 1)).U (.cat x y) r) Q X := by
  show Rn (((lvl c n).V x r).bind fun A r1 => ((lvl c n).V y r1).bind fun B r2 => Res.of ((vw r2 A).bind fun u => (lstW u).bind fun us => (vw r2 B).bind fun w => (lstW w).bind fun ws => if Nat.ble (us.length + ws.length) size then some (.l ((us ++ ws).map U.d)) else none) r2) Q X
  simp only [Rn_bind]; exact q
theorem U_slc {lo hi : Option IE} (q : Rn ((lvl c n).V x r) (fun A r1 => Rn (optE (lvl c n) lo r1) (fun l r2 => Rn (optE (lvl c n) hi r2) (fun h r3 => Rn (Res.of ((vw r3 A).bind fun u => (lstW u).map fun ws => .l ((cut ws l h).map U.d)) r3) Q X) X) X) X) : Rn ((lvl c (n + 1)).U (.slc x lo hi) r) Q X := by
  show Rn (((lvl c n).V x r).bind fun A r1 => (optE (lvl c n) lo r1).bind fun l r2 => (optE (lvl c n) hi r2).bind fun h r3 => Res.of ((vw r3 A).bind fun u => (lstW u).map fun ws => .l ((cut ws l h).map U.d)) r3) Q X
  simp only [Rn_bind]; exact q
theorem O_none {Q : Option Int → Env → Prop} {s : SF} (q : Q none r) : Rn (optE s none r) Q X := q
theorem O_some {Q : Option Int → Env → Prop} {s : SF} (q : Rn (s.E a r) (fun x r1 => ∃ j, x = .int j ∧ Q (some j) r1) X) : Rn (optE s (some a) r) Q X := by
  show Rn ((s.E a r).bind fun x r1 => match x with | .int i => .ok (some i) r1 | _ => .bad) Q X
  rw [Rn_bind]
  exact q.imp fun x r1 ⟨j, e, q⟩ => by subst e; exact q
end
/-! ### statements -/
section
variable {c : CF} {n i : Nat} {r r1 : Env} {D : Dn} {a b : IE} {u : IU} {s : SF} {st : IS} {sts : List IS}
theorem S_cons (q : Sn (stepS (lvl c n) st r) (D.wn fun r1 => Sn ((lvl c (n + 1)).S sts r1) D)) : Sn ((lvl c (n + 1)).S (st :: sts) r) D := by
  show Sn (stepSs (lvl c n) (st :: sts) r) D
  unfold stepSs
  cases e : stepS (lvl c n) st r <;> (rw [e] at q; exact q)
theorem S_nil (q : D.N r) : Sn ((lvl c (n + 1)).S [] r) D := q
theorem S_exp (q : Rn (s.E a r) (fun _ r1 => D.N r1) D.X) : Sn (stepS s (.exp a) r) D := by
  show Sn ((s.E a r).toS fun _ r1 => .nx r1) D
  rw [Sn_toS]; exact q
theorem S_asg {g : IG} (q : Rn (s.E a r) (fun w r1 => ∃ r2, bindG g w r1 = some r2 ∧ D.N r2) D.X) : Sn (stepS s (.asg g a) r) D := by
  show Sn ((s.E a r).toS fun w r1 => match bindG g w r1 with | some r2 => .nx r2 | none => .bad) D
  rw [Sn_toS]
  exact q.imp fun w r1 ⟨r2, e, q⟩ => by rw [e]; exact q
theorem S_own (q : Rn (s.U u r) (fun w r1 => ∃ r2, setV r1 i w = some r2 ∧ D.N r2) D.X) : Sn (stepS s (.own i u) r) D := by
  show Sn ((s.U u r).toS fun w r1 => match setV r1 i w with | some r2 => .nx r2 | none => .bad) D
  rw [Sn_toS]
  exact q.imp fun w r1 ⟨r2, e, q⟩ => by rw [e]; exact q
theorem S_par {j : Nat} (q : Rn (s.E a r) (fun x r1 => Rn (s.E b r1) (fun y r2 => ∃ r4, ((setV r2 i (.d x)).bind fun r3 => setV r3 j (.d y)) = some r4 ∧ D.N r4) D.X) D.X) : Sn (stepS s (.par i j a b) r) D := by
  show Sn ((s.E a r).toS fun x r1 => (s.E b r1).toS fun y r2 => match (setV r2 i (.d x)).bind fun r3 => setV r3 j (.d y) with
    | some r4 => .nx r4
    | none => .bad) D
  rw [Sn_toS]
  exact q.imp fun x r1 q => by
    rw [Sn_toS]
    exact q.imp fun y r2 ⟨r4, e, q⟩ => by rw [e]; exact q
theorem S_ret (q : Rn (s.U u r) (fun w r1 => D.T w r1) D.X) : Sn (stepS s (.ret u) r) D := by
  show Sn ((s.U u r).toS fun w r1 => .rt w r1) D
  rw [Sn_toS]; exact q
theorem S_if {t : IT} {x y : List IS} (q : Rn (s.T t r) (fun k r1 => if k = true then Sn (s.S x r1) D else Sn (s.S y r1) D) D.X) : Sn (stepS s (.ifs t x y) r) D := by
  show Sn ((s.T t r).toS fun k r1 => if k then s.S x r1 else s.S y r1) D
  rw [Sn_toS]
  exact q.imp fun k r1 q => by cases k <;> exact q
theorem S_sub (q : Rn (s.E b r) (fun v r1 => ∃ us, lookU r1 i = some (.l us) ∧ Rn (s.E a r1) (fun n r2 => Sn (putS i v n r2) D) D.X) D.X) : Sn (stepS s (.sub i a b) r) D := by
  show Sn ((s.E b r).toS fun v r1 => (match lookU r1 i with
    | some (.l _) => (s.E a r1).toS fun n r2 => putS i v n r2
    | _ => .bad)) D
  rw [Sn_toS]
  exact q.imp fun v r1 ⟨us, e, q⟩ => by
    rw [e]
    show Sn ((s.E a r1).toS _) D
    rw [Sn_toS]; exact q
theorem R_sub {us : List U} {ws : List W} {v : W} {k : Int} {j : Nat} (e1 : lookU r i = some (.l us)) (e2 : ix us.length k = some j) (e3 : dats us = some ws) (e4 : putV r i (.l (us.set j (.d v))) = some r1) (q : D.N r1) : Sn (putS i v (.int k) r) D := by
  unfold putS
  rw [e1]
  show Sn (match ix us.length k, dats us with
    | some j, some _ => (match putV r i (.l (us.set j (.d v))) with
      | some r3 => SRes.nx r3
      | none => .bad)
    | _, _ => .bad) D
  rw [e2, e3]
  show Sn (match putV r i (.l (us.set j (.d v))) with
      | some r3 => SRes.nx r3
      | none => .bad) D
  rw [e4]; exact q
theorem S_dsub (q : Rn (s.E b r) (fun v r1 => ∃ ks us, lookU r1 i = some (.c ks us) ∧ Rn (s.E a r1) (fun n r2 => Sn (dputS i v n r2) D) D.X) D.X) : Sn (stepS s (.dsub i a b) r) D := by
  show Sn ((s.E b r).toS fun v r1 => (match lookU r1 i with
    | some (.c _ _) => (s.E a r1).toS fun n r2 => dputS i v n r2
    | _ => .bad)) D
  rw [Sn_toS]
  exact q.imp fun v r1 ⟨ks, us, e, q⟩ => by
    rw [e]
    show Sn ((s.E a r1).toS _) D
    rw [Sn_toS]; exact q
theorem S_rse {k k' : Nat} (q : Rn (s.E a r) (fun w r1 => D.X ⟨k, [k'], [w]⟩ r1) D.X) : Sn (stepS s (.rse k (some k') (some a)) r) D := by
  show Sn ((s.E a r).toS fun w r1 => .ex ⟨k, [k'], [w]⟩ r1) D
  rw [Sn_toS]; exact q
theorem S_try {bd h : List IS} {cs no : List Nat} (q : Sn (s.S bd r) (D.wx fun x r1 => Sn (handle s x r1 cs no i h) D)) : Sn (stepS s (.try bd cs no i h) r) D := by
  show Sn (match s.S bd r with | .ex x r1 => handle s x r1 cs no i h | y => y) D
  cases e : s.S bd r <;> (rw [e] at q; exact q)
theorem S_hnd {x : Xn} {cs no : List Nat} {h : List IS} {e : En} (hc : cs.any (Nat.beq x.c) = true) (hn : nth r i = some e) (hp : plainE e = true) (q : Sn (unX i (s.S h (r.set i (.x x.c x.ks x.ws)))) D) : Sn (handle s x r cs no i h) D := by
  unfold handle
  rw [hc, if_pos rfl, hn]
  show Sn (if plainE e then unX i (s.S h (r.set i (.x x.c x.ks x.ws))) else .bad) D
  rw [hp, if_pos rfl]; exact q
theorem S_unX {x : SRes} (q : Sn x (D.wu i)) : Sn (unX i x) D := by
  cases x <;> exact q
theorem S_mat {cs : List (W × List IS)} (q : Rn (s.E a r) (fun w r1 => Sn (pick s w r1 cs) D) D.X) : Sn (stepS s (.mat a cs) r) D := by
  show Sn ((s.E a r).toS fun w r1 => pick s w r1 cs) D
  rw [Sn_toS]; exact q
theorem M_nil {w : W} (q : D.N r) : Sn (pick s w r []) D := q
theorem M_yes {w k : W} {b : List IS} {cs : List (W × List IS)} (e : eqW w k = some true) (q : Sn (s.S b r) D) : Sn (pick s w r ((k, b) :: cs)) D := by
  unfold pick
  rw [e]; exact q
theorem M_no {w k : W} {b : List IS} {cs : List (W × List IS)} (e : eqW w k = some false) (q : Sn (pick s w r cs) D) : Sn (pick s w r ((k, b) :: cs)) D := by
  unfold pick
  rw [e]; exact q
theorem S_for {g : IG} {it : II} {body : List IS} (q : Rn (stepI s it r) (fun k r1 => k.ks = [] ∧ Sn (forL (fun w r2 => match bindG g w r2 with
      | some r3 => s.S body r3
      | none => .bad) k.ws r1) D) D.X) : Sn (stepS s (.for g it body) r) D := by
  show Sn ((stepI s it r).toS fun k r1 => if k.ks.isEmpty then forL (fun w r2 => match bindG g w r2 with
      | some r3 => s.S body r3
      | none => .bad) k.ws r1 else .bad) D
  rw [Sn_toS]
  exact q.imp fun k r1 ⟨e, q⟩ => by rw [e]; exact q
/-- a for loop by an invariant -/
theorem F_inv {f : W → Env → SRes} {ws : List W} (I : Nat → Env → Prop) (h0 : I 0 r) (hs : ∀ k w r, ws[k]? = some w → I k r → Sn (f w r) (D.wl (I (k + 1)))) (he : ∀ r, I ws.length r → D.N r) : Sn (forL f ws r) D := by
  have key : ∀ (us : List W) (k : Nat) (r : Env), k ≤ ws.length → ws.drop k = us → I k r → Sn (forL f us r) D := by
    intro us
    induction us with
    | nil =>
      intro k r hk e h
      have : ws.length ≤ k := List.drop_eq_nil_iff.mp e
      have hk : k = ws.length := by omega
      subst hk
      exact he r h
    | cons w us ih =>
      intro k r hk e h
      have hw : ws[k]? = some w := by
        have := congrArg (fun l => l[0]?) e
        simpa using this
      have hk2 : k + 1 ≤ ws.length := (List.getElem?_eq_some_iff.mp hw).1
      have e2 : ws.drop (k + 1) = us := by
        have := congrArg (List.drop 1) e
        rwa [List.drop_drop, List.drop_one, List.tail_cons] at this
      have q := hs k w r hw h
      unfold forL
      cases x : f w r with
      | nx r1 => rw [x] at q; exact ih (k + 1) r1 hk2 e2 q
      | ct r1 => rw [x] at q; exact ih (k + 1) r1 hk2 e2 q
      | bk r1 => rw [x] at q; exact q
      | rt u r1 => rw [x] at q; exact q
      | ex y r1 => rw [x] at q; exact q
      | bad => rw [x] at q; exact q
  exact key ws 0 r (Nat.zero_le _) rfl h0
theorem iteY {p : Prop} {A B : Prop} [Decidable p] (h : p) (q : A) : if p then A else B := by rw [if_pos h]; exact q
theorem iteN {p : Prop} {A B : Prop} [Decidable p] (h : ¬ p) (q : B) : if p then A else B := by rw [if_neg h]; exact q
/-! walks -/
theorem I_rng {Q : Wk → Env → Prop} {X : Xn → Env → Prop} (q : Rn (s.E a r) (fun w r1 => ∃ k : Int, w = .int k ∧ (-1000000 ≤ k ∧ k ≤ 1000000) ∧ Q ⟨iota 0 k.toNat, []⟩ r1) X) : Rn (stepI s (.rng a) r) Q X := by
  show Rn ((s.E a r).bind fun x r1 => match x with
    | .int n => if decide (n ≤ 1000000) && decide (-1000000 ≤ n) then .ok ⟨iota 0 n.toNat, []⟩ r1 else .bad
    | _ => .bad) Q X
  rw [Rn_bind]
  exact q.imp fun w r1 ⟨k, e, h, q⟩ => by
    subst e
    show Rn (if decide (k ≤ 1000000) && decide (-1000000 ≤ k) then Res.ok ⟨iota 0 k.toNat, []⟩ r1 else .bad) Q X
    rw [decide_eq_true h.1, decide_eq_true h.2]
    exact q
theorem I_v {Q : Wk → Env → Prop} {X : Xn → Env → Prop} {x : IV} (q : Rn (s.V x r) (fun A r1 => Rn (Res.of (walkA r1 A) r1) Q X) X) : Rn (stepI s (.v x) r) Q X := by
  show Rn ((s.V x r).bind fun x r1 => Res.of (walkA r1 x) r1) Q X
  rw [Rn_bind]; exact q
end
/-! ### comprehensions, numbers, lists -/
section
variable {c : CF} {n i : Nat} {r r1 : Env} {X : Xn → Env → Prop} {s : SF}
theorem U_comp {Q : U → Env → Prop} {elt : IE} {g : IG} {own : List Nat} {it : II} {t : Option IT} (q : Rn (stepI (lvl c n) it r) (fun k r1 => (Nat.ble k.ws.length size && ownOk r1 own && k.ks.all (fun q => !own.any (Nat.beq q.1))) = true ∧ Rn (compL k own (turnL (lvl c n) elt g t) k.ws (wipe r1 own)) (fun ws r2 => Q (.l (ws.map U.d)) (back r1 r2 own)) (fun _ _ => False)) X) : Rn ((lvl c (n + 1)).U (.comp elt g own it t) r) Q X := by
  show Rn ((compM (lvl c n) elt g own it t r).bind fun ws r1 => .ok (.l (ws.map U.d)) r1) Q X
  rw [Rn_bind]
  unfold compM
  rw [Rn_bind]
  exact q.imp fun k r1 ⟨e, q⟩ => by
    rw [e, if_pos rfl]
    cases z : compL k own (turnL (lvl c n) elt g t) k.ws (wipe r1 own) with
    | ok ws r2 => rw [z] at q; exact q
    | ex x r2 => rw [z] at q; exact q.elim
    | bad => rw [z] at q; exact q.elim
theorem S_lc {D : Dn} {bo : Bool} {elt : IE} {g : IG} {own : List Nat} {it : II} {t : Option IT} (q : Rn (stepI s it r) (fun k r1 => (Nat.ble k.ws.length size && ownOk r1 own && k.ks.all (fun q => !own.any (Nat.beq q.1))) = true ∧ Rn (compL k own (turnL s elt g t) k.ws (wipe r1 own)) (fun ws r2 => ∃ r3, setV (back r1 r2 own) i (if bo then .l (ws.map U.d) else .d (.lis ws)) = some r3 ∧ D.N r3) (fun _ _ => False)) D.X) : Sn (stepS s (.lc bo i elt g own it t) r) D := by
  show Sn ((compM s elt g own it t r).toS fun ws r1 => match setV r1 i (if bo then .l (ws.map U.d) else .d (.lis ws)) with
    | some r2 => .nx r2
    | none => .bad) D
  rw [Sn_toS]
  unfold compM
  rw [Rn_bind]
  exact q.imp fun k r1 ⟨e, q⟩ => by
    rw [e, if_pos rfl]
    cases z : compL k own (turnL s elt g t) k.ws (wipe r1 own) with
    | ok ws r2 =>
      rw [z] at q
      obtain ⟨r3, e3, q⟩ := q
      show Sn (match setV (back r1 r2 own) i (if bo then .l (ws.map U.d) else .d (.lis ws)) with
        | some r2 => .nx r2
        | none => .bad) D
      rw [e3]; exact q
    | ex x r2 => rw [z] at q; exact q.elim
    | bad => rw [z] at q; exact q.elim
theorem C_nil {k : Wk} {own : List Nat} {f : W → Env → Res (Option W)} {Q : List W → Env → Prop} (h : k.still r = true) (_h2 : True = True) (q : Q [] r) : Rn (compL k own f [] r) Q X := by
  show Rn (if k.still r then Res.ok [] r else .bad) Q X
  rw [h]; exact q
def turnB (s : SF) (elt : IE) (t : Option IT) (r1 : Env) : Res (Option W) := match t with
      | none => (s.E elt r1).bind fun u r2 => .ok (some u) r2
      | some t => (s.T t r1).bind fun b r2 => if b then (s.E elt r2).bind fun u r3 => .ok (some u) r3 else .ok none r2
theorem C_turn {k : Wk} {own : List Nat} {elt : IE} {g : IG} {t : Option IT} {w : W} {ws : List W} {Q : List W → Env → Prop} (h : k.still r = true) (hb : bindG g w r = some r1)
    (q : Rn (turnB s elt t r1) (fun o r2 => Rn (compL k own (turnL s elt g t) ws (wipe r2 own)) (fun us r3 => Q (o.toList ++ us) r3) (fun _ _ => False)) (fun _ _ => False)) : Rn (compL k own (turnL s elt g t) (w :: ws) r) Q X := by
  unfold compL
  rw [h, if_pos rfl]
  have e : turnL s elt g t w r = turnB s elt t r1 := by
    unfold turnL turnB
    rw [hb]
    try (cases t <;> rfl)
  rw [← e] at q
  cases z : turnL s elt g t w r with
  | bad => rw [z] at q; exact q.elim
  | ex x r2 => rw [z] at q; exact q.elim
  | ok o r2 =>
    rw [z] at q
    have q : Rn (compL k own (turnL s elt g t) ws (wipe r2 own)) (fun us r3 => Q (o.toList ++ us) r3) (fun _ _ => False) := q
    show Rn (match compL k own (turnL s elt g t) ws (wipe r2 own) with
      | .ok us r2 => (match o with
        | some u => Res.ok (u :: us) r2
        | none => .ok us r2)
      | _ => .bad) Q X
    cases z2 : compL k own (turnL s elt g t) ws (wipe r2 own) with
    | bad => rw [z2] at q; exact q.elim
    | ex x r3 => rw [z2] at q; exact q.elim
    | ok us r3 =>
      rw [z2] at q
      cases o with
      | none => exact q
      | some u => exact q
theorem C_e {elt : IE} {Q : Option W → Env → Prop} (q : Rn (s.E elt r) (fun u r2 => Q (some u) r2) X) : Rn (turnB s elt none r) Q X := by
  show Rn ((s.E elt r).bind fun u r2 => .ok (some u) r2) Q X
  rw [Rn_bind]; exact q
theorem C_t {t : IT} {elt : IE} {Q : Option W → Env → Prop} (q : Rn (s.T t r) (fun b r2 => if b = true then Rn (s.E elt r2) (fun u r3 => Q (some u) r3) X else Q none r2) X) : Rn (turnB s elt (some t) r) Q X := by
  show Rn ((s.T t r).bind fun b r2 => if b then (s.E elt r2).bind fun u r3 => .ok (some u) r3 else .ok none r2) Q X
  rw [Rn_bind]
  exact q.imp fun b r2 q => by
    cases b with
    | true => show Rn ((s.E elt r2).bind _) Q X; rw [Rn_bind]; exact q
    | false => exact q
theorem F_nil {f : W → Env → SRes} {D : Dn} (q : D.N r) : Sn (forL f [] r) D := q
theorem F_cons {g : IG} {body : List IS} {w : W} {ws : List W} {D : Dn} (hb : bindG g w r = some r1) (q : Sn (s.S body r1) (D.wl fun r2 => Sn (forL (fun w r2 => match bindG g w r2 with
      | some r3 => s.S body r3
      | none => .bad) ws r2) D)) : Sn (forL (fun w r2 => match bindG g w r2 with
      | some r3 => s.S body r3
      | none => .bad) (w :: ws) r) D := by
  unfold forL
  simp only [hb]
  cases z : s.S body r1 <;> (rw [z] at q; exact q)
theorem R_add {i j : Int} {Q : W → Env → Prop} (q : Q (.int (i + j)) r) : Rn (Res.of (arith .add (.int i) (.int j)) r) Q X := q
theorem R_subI {i j : Int} {Q : W → Env → Prop} (q : Q (.int (i - j)) r) : Rn (Res.of (arith .sub (.int i) (.int j)) r) Q X := q
theorem mulOk_r {i j : Int} (h : i.natAbs < 18446744073709551616 ∨ j.natAbs < 18446744073709551616) : mulOk i j = true := by
  unfold mulOk
  rw [Bool.or_eq_true, Bool.or_eq_true, Nat.blt_eq, Nat.blt_eq, Nat.blt_eq]
  rcases h with h | h
  · exact .inl (.inr h)
  · exact .inr h
theorem R_mul {i j : Int} {Q : W → Env → Prop} (h : i.natAbs < 18446744073709551616 ∨ j.natAbs < 18446744073709551616) (q : Q (.int (i * j)) r) : Rn (Res.of (arith .mul (.int i) (.int j)) r) Q X := by
  show Rn (Res.of (if mulOk i j then some (.int (i * j)) else none) r) Q X
  rw [mulOk_r h]; exact q
theorem R_mod {i j : Int} {Q : W → Env → Prop} (h : 0 < j) (q : Q (.int (i % j)) r) : Rn (Res.of (arith .mod (.int i) (.int j)) r) Q X := by
  show Rn (Res.of (if decide (0 < j) then some (.int (i % j)) else none) r) Q X
  rw [decide_eq_true h]; exact q
theorem R_div {i j : Int} {Q : W → Env → Prop} (h : 0 < j ∧ j < 1000000000000000000) (q : Q (.int (i / j)) r) : Rn (Res.of (arith .fdiv (.int i) (.int j)) r) Q X := by
  show Rn (Res.of (if decide (0 < j) && Nat.blt j.natAbs.log2 9000 then some (.int (i / j)) else none) r) Q X
  rw [decide_eq_true h.1]
  have : j.natAbs.log2 < 9000 := by
    have h1 : j.natAbs < 2 ^ 60 := by have := h.2; omega
    have h2 : j.natAbs ≠ 0 := by have := h.1; omega
    have := (Nat.log2_lt h2).mpr h1
    omega
  rw [Nat.blt_eq.mpr this]; exact q
theorem R_pow {i j : Int} {w : W} {Q : W → Env → Prop} (h : arith .pow (.int i) (.int j) = some w) (q : Q w r) : Rn (Res.of (arith .pow (.int i) (.int j)) r) Q X := by
  rw [h]; exact q
theorem R_cat {A B : Arg} {us ws : List W} {Q : U → Env → Prop} (e1 : vw r A = some (.lis us)) (e2 : vw r B = some (.lis ws)) (e3 : Nat.ble (us.length + ws.length) size = true) (_e4 : True = True) (q : Q (.l ((us ++ ws).map U.d)) r) : Rn (Res.of ((vw r A).bind fun u => (lstW u).bind fun us => (vw r B).bind fun w => (lstW w).bind fun ws => if Nat.ble (us.length + ws.length) size then some (.l ((us ++ ws).map U.d)) else none) r) Q X := by
  rw [e1, e2]
  show Rn (Res.of (if Nat.ble (us.length + ws.length) size then some (.l ((us ++ ws).map U.d)) else none) r) Q X
  rw [e3]; exact q
theorem R_slcU {A : Arg} {ws us : List W} {l h : Option Int} {Q : U → Env → Prop} (e1 : vw r A = some (.lis ws)) (e2 : cut ws l h = us) (q : Q (.l (us.map U.d)) r) : Rn (Res.of ((vw r A).bind fun u => (lstW u).map fun ws => .l ((cut ws l h).map U.d)) r) Q X := by
  rw [e1]
  show Q (.l ((cut ws l h).map U.d)) r
  rw [e2]; exact q
theorem U_srt {x : IV} {Q : U → Env → Prop} (q : Rn ((lvl c n).V x r) (fun A r1 => Rn (Res.of ((vw r1 A).bind fun u => (sortF u).map fun ws => .l (ws.map U.d)) r1) Q X) X) : Rn ((lvl c (n + 1)).U (.srt x) r) Q X := by
  show Rn (((lvl c n).V x r).bind fun A r1 => Res.of ((vw r1 A).bind fun u => (sortF u).map fun ws => .l (ws.map U.d)) r1) Q X
  rw [Rn_bind]; exact q
theorem R_srt {A : Arg} {u : W} {ws : List W} {Q : U → Env → Prop} (e1 : vw r A = some u) (e2 : sortF u = some ws) (q : Q (.l (ws.map U.d)) r) : Rn (Res.of ((vw r A).bind fun u => (sortF u).map fun ws => .l (ws.map U.d)) r) Q X := by
  rw [e1, Option.bind_some, e2]; exact q
theorem R_wlk {A : Arg} {k : Wk} {Q : Wk → Env → Prop} (e : walkA r A = some k) (q : Q k r) : Rn (Res.of (walkA r A) r) Q X := by rw [e]; exact q
theorem R_dput {D : Dn} {ks : List W} {us : List U} {ws : List W} {v k : W} (e1 : lookU r i = some (.c ks us)) (e2 : dats us = some ws) (e3 : (keyOk k && Nat.blt ks.length size) = true) (e4 : putV r i (.c (dput k v ks ws).1 ((dput k v ks ws).2.map U.d)) = some r1) (q : D.N r1) : Sn (dputS i v k r) D := by
  unfold dputS
  rw [e1]
  show Sn (match dats us with
    | some ws => if keyOk k && Nat.blt ks.length size then (match putV r i (.c (dput k v ks ws).1 ((dput k v ks ws).2.map U.d)) with
      | some r3 => SRes.nx r3
      | none => .bad) else .bad
    | none => .bad) D
  rw [e2]
  show Sn (if keyOk k && Nat.blt ks.length size then (match putV r i (.c (dput k v ks ws).1 ((dput k v ks ws).2.map U.d)) with
      | some r3 => SRes.nx r3
      | none => .bad) else .bad) D
  rw [e3, if_pos rfl, e4]; exact q
theorem R_dgt {k d w : W} {Q : W → Env → Prop} (e : dgetV i k d r = some w) (q : Q w r) : Rn (Res.of (dgetV i k d r) r) Q X := by rw [e]; exact q
end
/-! ### calls -/
theorem run_ok {P : List FD} {F d f : Nat} {fd : FD} {es : List En} {u : U} {os : List U} {r0 : Env} (hf : nth P f = some fd) (hl : Nat.beq es.length fd.ar = true) (h0 : es ++ pad (fd.sl - fd.ar) = r0) (q : Sn ((lvl (callF P F d) F).S fd.body r0) ⟨fun r => u = .d .non ∧ outs es r = some os, fun v r => v = u ∧ outs es r = some os, fun _ => False, fun _ => False, fun _ _ => False⟩) : callF P F (d + 1) f es = .ok u os := by
  subst h0
  unfold callF
  rw [hf]
  show (if Nat.beq es.length fd.ar then ((lvl (callF P F d) F).S fd.body (es ++ pad (fd.sl - fd.ar))).val es else .bad) = _
  rw [hl, if_pos rfl]
  cases e : (lvl (callF P F d) F).S fd.body (es ++ pad (fd.sl - fd.ar)) with
  | nx r => rw [e] at q; obtain ⟨rfl, q⟩ := q; show (match outs es r with | some os => CRes.ok (U.d .non) os | none => .bad) = _; rw [q]
  | rt v r => rw [e] at q; obtain ⟨rfl, q⟩ := q; show (match outs es r with | some os => CRes.ok v os | none => .bad) = _; rw [q]
  | bk r => rw [e] at q; exact q.elim
  | ct r => rw [e] at q; exact q.elim
  | ex x r => rw [e] at q; exact q.elim
  | bad => rw [e] at q; exact q.elim
/-- any outcome of a call that ends well -/
theorem run_any {P : List FD} {F d f : Nat} {fd : FD} {es : List En} {Z : U → List U → Prop} {r0 : Env} (hf : nth P f = some fd) (hl : Nat.beq es.length fd.ar = true) (h0 : es ++ pad (fd.sl - fd.ar) = r0) (q : Sn ((lvl (callF P F d) F).S fd.body r0) ⟨fun r => ∃ os, outs es r = some os ∧ Z (.d .non) os, fun v r => ∃ os, outs es r = some os ∧ Z v os, fun _ => False, fun _ => False, fun _ _ => False⟩) : ∃ u os, callF P F (d + 1) f es = .ok u os ∧ Z u os := by
  subst h0
  unfold callF
  rw [hf]
  show ∃ u os, (if Nat.beq es.length fd.ar then ((lvl (callF P F d) F).S fd.body (es ++ pad (fd.sl - fd.ar))).val es else .bad) = .ok u os ∧ Z u os
  rw [hl, if_pos rfl]
  cases e : (lvl (callF P F d) F).S fd.body (es ++ pad (fd.sl - fd.ar)) with
  | nx r => rw [e] at q; obtain ⟨os, q, z⟩ := q; exact ⟨.d .non, os, by show (match outs es r with | some os => CRes.ok (U.d .non) os | none => .bad) = _; rw [q], z⟩
  | rt v r => rw [e] at q; obtain ⟨os, q, z⟩ := q; exact ⟨v, os, by show (match outs es r with | some os => CRes.ok v os | none => .bad) = _; rw [q], z⟩
  | bk r => rw [e] at q; exact q.elim
  | ct r => rw [e] at q; exact q.elim
  | ex x r => rw [e] at q; exact q.elim
  | bad => rw [e] at q; exact q.elim
end FM


set_option linter.all false
set_option maxRecDepth 100000
set_option maxHeartbeats 2000000
/-! The evaluator by a script: what calls give is written ahead, what was called is noted. If the notes are true of c, so is the run. -/
namespace FM
/-- what is written ahead: what a call gives; behind n such operations: a value, an outcome, a thing, the names behind a change -/
inductive It where
  | a (r : CRes) | v (n : Nat) (w : W) | t (n : Nat) (b : Bool) | u (n : Nat) (u : U) | q (n : Nat) (r : Env)
/-- what is to be shown: a call, and what was said of the operations -/
inductive Ob where
  | a (f : Nat) (es : List En) (r : CRes) | v (o : Option W) (w : W) | t (o : Option Bool) (b : Bool) | u (o : Option U) (u : U) | q (o : Res W) (r : Env)
structure Kt where
  sc : List It
  lg : List Ob
abbrev RX (α : Type) := Res α × Kt
abbrev SX := SRes × Kt
def bX {α β : Type} (m : RX α) (f : α → Env → Kt → RX β) : RX β := match m with
  | (.ok a r, k) => f a r k
  | (.ex x r, k) => (.ex x r, k)
  | (.bad, k) => (.bad, k)
def tX {α : Type} (m : RX α) (f : α → Env → Kt → SX) : SX := match m with
  | (.ok a r, k) => f a r k
  | (.ex x r, k) => (.ex x r, k)
  | (.bad, k) => (.bad, k)
def ofW (o : Option W) (r : Env) (k : Kt) : RX W := match k.sc with
  | .v 0 w :: sc => (.ok w r, ⟨sc, .v o w :: k.lg⟩)
  | .v (n + 1) w :: sc => (Res.of o r, ⟨.v n w :: sc, k.lg⟩)
  | _ => (Res.of o r, k)
def ofT (o : Option Bool) (r : Env) (k : Kt) : RX Bool := match k.sc with
  | .t 0 w :: sc => (.ok w r, ⟨sc, .t o w :: k.lg⟩)
  | .t (n + 1) w :: sc => (Res.of o r, ⟨.t n w :: sc, k.lg⟩)
  | _ => (Res.of o r, k)
def ofU (o : Option U) (r : Env) (k : Kt) : RX U := match k.sc with
  | .u 0 w :: sc => (.ok w r, ⟨sc, .u o w :: k.lg⟩)
  | .u (n + 1) w :: sc => (Res.of o r, ⟨.u n w :: sc, k.lg⟩)
  | _ => (Res.of o r, k)
def ofQ (o : Res W) (k : Kt) : RX W := match k.sc with
  | .q 0 r :: sc => (.ok .non r, ⟨sc, .q o r :: k.lg⟩)
  | .q (n + 1) r :: sc => (o, ⟨.q n r :: sc, k.lg⟩)
  | _ => (o, k)
structure SFX where
  E : IE → Env → Kt → RX W
  V : IV → Env → Kt → RX Arg
  T : IT → Env → Kt → RX Bool
  U : IU → Env → Kt → RX U
  S : List IS → Env → Kt → SX
  Wh : IT → List IS → Env → Kt → SX
def SFX.bot : SFX := ⟨fun _ _ k => (.bad, k), fun _ _ k => (.bad, k), fun _ _ k => (.bad, k), fun _ _ k => (.bad, k), fun _ _ k => (.bad, k), fun _ _ _ k => (.bad, k)⟩
def evsX {α β : Type} (f : α → Env → Kt → RX β) : List α → Env → Kt → RX (List β)
  | [], r, k => (.ok [] r, k)
  | e :: es, r, k => bX (f e r k) fun w r1 k => bX (evsX f es r1 k) fun ws r2 k => (.ok (w :: ws) r2, k)
def stepIX (s : SFX) : II → Env → Kt → RX Wk
  | .v a, r, k => bX (s.V a r k) fun x r1 k => (Res.of (walkA r1 x) r1, k)
  | .rng a, r, k => bX (s.E a r k) fun x r1 k => match x with
    | .int n => if decide (n ≤ 1000000) && decide (-1000000 ≤ n) then (.ok ⟨iota 0 n.toNat, []⟩ r1, k) else (.bad, k)
    | _ => (.bad, k)
  | .rng2 a b, r, k => bX (s.E a r k) fun x r1 k => bX (s.E b r1 k) fun y r2 k => match x, y with
    | .int m, .int n => if decide (n ≤ 1000000) && decide (-1000000 ≤ n) && decide (m ≤ 1000000) && decide (-1000000 ≤ m) then (.ok ⟨iota m (n - m).toNat, []⟩ r2, k) else (.bad, k)
    | _, _ => (.bad, k)
  | .zip a b, r, k => bX (s.V a r k) fun x r1 k => bX (s.V b r1 k) fun y r2 k => (Res.of ((vw r2 x).bind fun u => (lstW u).bind fun us => (vw r2 y).bind fun w => (lstW w).map fun ws => ⟨zipW us ws, keep x u ++ keep y w⟩) r2, k)
  | .enm a, r, k => bX (s.V a r k) fun x r1 k => (Res.of ((vw r1 x).bind fun u => (lstW u).map fun ws => ⟨enmW 0 ws, keep x u⟩) r1, k)
def compLX (q : Wk) (own : List Nat) (f : W → Env → Kt → RX (Option W)) : List W → Env → Kt → RX (List W)
  | [], r, k => if q.still r then (.ok [] r, k) else (.bad, k)
  | w :: ws, r, k => if q.still r then (match f w r k with
    | (.ok o r1, k1) => (match compLX q own f ws (wipe r1 own) k1 with
      | (.ok us r2, k2) => (match o with
        | some u => (.ok (u :: us) r2, k2)
        | none => (.ok us r2, k2))
      | (_, k2) => (.bad, k2))
    | (_, k1) => (.bad, k1))
    else (.bad, k)
def optEX (s : SFX) (e : Option IE) (r : Env) (k : Kt) : RX (Option Int) := match e with
  | none => (.ok none r, k)
  | some e => bX (s.E e r k) fun x r1 k => match x with
    | .int i => (.ok (some i) r1, k)
    | _ => (.bad, k)
def turnLX (s : SFX) (elt : IE) (g : IG) (t : Option IT) (w : W) (r : Env) (k : Kt) : RX (Option W) := match bindG g w r with
  | none => (.bad, k)
  | some r1 => match t with
    | none => bX (s.E elt r1 k) fun u r2 k => (.ok (some u) r2, k)
    | some t => bX (s.T t r1 k) fun b r2 k => if b then bX (s.E elt r2 k) fun u r3 k => (.ok (some u) r3, k) else (.ok none r2, k)
def compMX (s : SFX) (elt : IE) (g : IG) (own : List Nat) (it : II) (t : Option IT) (r : Env) (k : Kt) : RX (List W) := bX (stepIX s it r k) fun q r1 k => if Nat.ble q.ws.length size && ownOk r1 own && q.ks.all (fun q => !own.any (Nat.beq q.1)) then (match compLX q own (turnLX s elt g t) q.ws (wipe r1 own) k with
    | (.ok ws r2, k) => (.ok ws (back r1 r2 own), k)
    | (_, k) => (.bad, k)) else (.bad, k)
def stepAX (s : SFX) : IA → Env → Kt → RX AV
  | .d e, r, k => bX (s.E e r k) fun w r1 k => (.ok (.d w) r1, k)
  | .r i, r, k => (match lookU r i with
    | some _ => (.ok (.r i) r, k)
    | none => (.bad, k))
  | .u x, r, k => bX (s.U x r k) fun u r1 k => (.ok (.u u) r1, k)
def runCX (f : Nat) (as : List AV) (r : Env) (k : Kt) : RX U := match args r as with
  | none => (.bad, k)
  | some (es, is) => match k.sc with
    | .a a :: sc => match a with
      | .ok u os => (match puts r is os with
        | some r1 => (.ok u r1, ⟨sc, Ob.a f es a :: k.lg⟩)
        | none => (.bad, ⟨sc, Ob.a f es a :: k.lg⟩))
      | .ex x os => (match puts r is os with
        | some r1 => (.ex x r1, ⟨sc, Ob.a f es a :: k.lg⟩)
        | none => (.bad, ⟨sc, Ob.a f es a :: k.lg⟩))
      | .bad => (.bad, ⟨sc, Ob.a f es a :: k.lg⟩)
    | _ => (.bad, k)
def stepUX (s : SFX) : IU → Env → Kt → RX U
  | .d e, r, k => bX (s.E e r k) fun w r1 k => (.ok (.d w) r1, k)
  | .mv i, r, k => (match mvV r i with
    | some (u, r1) => (.ok u r1, k)
    | none => (.bad, k))
  | .lst es, r, k => bX (evsX s.E es r k) fun ws r1 k => (.ok (.l (ws.map U.d)) r1, k)
  | .comp elt g own it t, r, k => bX (compMX s elt g own it t r k) fun ws r1 k => (.ok (.l (ws.map U.d)) r1, k)
  | .cat a b, r, k => bX (s.V a r k) fun x r1 k => bX (s.V b r1 k) fun y r2 k => ofU ((vw r2 x).bind fun u => (lstW u).bind fun us => (vw r2 y).bind fun w => (lstW w).bind fun ws => if Nat.ble (us.length + ws.length) size then some (.l ((us ++ ws).map U.d)) else none) r2 k
  | .rep a n, r, k => bX (s.V a r k) fun x r1 k => bX (s.E n r1 k) fun y r2 k => match y with
    | .int j => ofU ((vw r2 x).bind fun u => (lstW u).bind fun us => if decide (-1000000 ≤ j) && Nat.ble (us.length * j.toNat) size && decide (j ≤ 1000000) then some (.l ((reps us j.toNat).map U.d)) else none) r2 k
    | _ => (.bad, k)
  | .slc a lo hi, r, k => bX (s.V a r k) fun x r1 k => bX (optEX s lo r1 k) fun l r2 k => bX (optEX s hi r2 k) fun h r3 k => ofU ((vw r3 x).bind fun u => (lstW u).map fun ws => .l ((cut ws l h).map U.d)) r3 k
  | .lof a, r, k => bX (s.V a r k) fun x r1 k => ofU ((vw r1 x).bind fun u => (seqW u).map fun ws => .l (ws.map U.d)) r1 k
  | .srt a, r, k => bX (s.V a r k) fun x r1 k => ofU ((vw r1 x).bind fun u => (sortF u).map fun ws => .l (ws.map U.d)) r1 k
  | .ndic, r, k => (.ok (.c [] []) r, k)
  | .dlt ps, r, k => bX (evsX (fun p r k => bX (s.E p.1 r k) fun a r1 k => bX (s.E p.2 r1 k) fun v r2 k => (.ok (a, v) r2, k)) ps r k) fun qs r1 k => if (qs.all fun q => keyOk q.1) && Nat.ble qs.length 15 && Nat.blt 0 qs.length then (.ok (.c (dall [] [] qs).1 ((dall [] [] qs).2.map U.d)) r1, k) else (.bad, k)
  | .call f as, r, k => bX (evsX (stepAX s) as r k) fun vs r1 k => runCX f vs r1 k
  | .callK f as, r, k => bX (evsX (stepAX s) as r k) fun vs r1 k => runCX f vs r1 k
def stepVX (s : SFX) : IV → Env → Kt → RX Arg
  | .e e, r, k => bX (s.E e r k) fun w r1 k => (.ok (.w w) r1, k)
  | .s i, r, k => (match lookU r i with
    | some _ => (.ok (.sl i) r, k)
    | none => (.bad, k))
  | .u x, r, k => bX (s.U x r k) fun u r1 k => (.ok (.fr u) r1, k)
def andEX (s : SFX) : List IE → Env → Kt → RX W
  | [], _, k => (.bad, k)
  | [e], r, k => s.E e r k
  | e :: es, r, k => bX (s.E e r k) fun w r1 k => match w with
    | .bl true => andEX s es r1 k
    | .bl false => (.ok (.bl false) r1, k)
    | _ => (.bad, k)
def orEX (s : SFX) : List IE → Env → Kt → RX W
  | [], _, k => (.bad, k)
  | [e], r, k => s.E e r k
  | e :: es, r, k => bX (s.E e r k) fun w r1 k => match w with
    | .bl true => (.ok (.bl true) r1, k)
    | .bl false => orEX s es r1 k
    | _ => (.bad, k)
def andTX (s : SFX) : List IT → Env → Kt → RX Bool
  | [], _, k => (.bad, k)
  | [e], r, k => s.T e r k
  | e :: es, r, k => bX (s.T e r k) fun b r1 k => if b then andTX s es r1 k else (.ok false r1, k)
def orTX (s : SFX) : List IT → Env → Kt → RX Bool
  | [], _, k => (.bad, k)
  | [e], r, k => s.T e r k
  | e :: es, r, k => bX (s.T e r k) fun b r1 k => if b then (.ok true r1, k) else orTX s es r1 k
def cmpSX (s : SFX) (op : C2) (a b : IV) (r : Env) (k : Kt) : RX Bool := bX (s.V a r k) fun x r1 k => bX (s.V b r1 k) fun y r2 k => ofT (cmp2 op x y r2) r2 k
def chnSX (s : SFX) (op op' : C2) (a b d : IV) (r : Env) (k : Kt) : RX Bool := bX (s.V a r k) fun x r1 k => bX (s.V b r1 k) fun y r2 k => bX (ofT (cmp2 op x y r2) r2 k) fun t r2 k => if t then bX (s.V d r2 k) fun z r3 k => ofT (cmp2 op' y z r3) r3 k else (.ok false r2, k)
def stepTX (s : SFX) : IT → Env → Kt → RX Bool
  | .val e, r, k => bX (s.E e r k) fun w r1 k => match w with
    | .bl b => (.ok b r1, k)
    | _ => (.bad, k)
  | .cmp op a b, r, k => cmpSX s op a b r k
  | .chn op op' a b d, r, k => chnSX s op op' a b d r k
  | .and ts, r, k => andTX s ts r k
  | .or ts, r, k => orTX s ts r k
  | .not t, r, k => bX (s.T t r k) fun b r1 k => (.ok (!b) r1, k)
def stepEX (s : SFX) : IE → Env → Kt → RX W
  | .var i, r, k => (match rdV r i with
    | some (w, r1) => (.ok w r1, k)
    | none => (.bad, k))
  | .cst w, r, k => (.ok w r, k)
  | .tup es, r, k => bX (evsX s.E es r k) fun ws r1 k => (.ok (.tup ws) r1, k)
  | .frz x, r, k => bX (s.U x r k) fun u r1 k => (.ok (fz u) r1, k)
  | .bin op a b, r, k => bX (s.V a r k) fun x r1 k => bX (s.V b r1 k) fun y r2 k => ofW ((vw r2 x).bind fun u => (vw r2 y).bind fun w => arith op u w) r2 k
  | .neg a, r, k => bX (s.E a r k) fun x r1 k => match x with
    | .int i => (.ok (.int (-i)) r1, k)
    | _ => (.bad, k)
  | .cmp op a b, r, k => bX (cmpSX s op a b r k) fun c r1 k => (.ok (.bl c) r1, k)
  | .chn op op' a b d, r, k => bX (chnSX s op op' a b d r k) fun c r1 k => (.ok (.bl c) r1, k)
  | .and es, r, k => andEX s es r k
  | .or es, r, k => orEX s es r k
  | .not a, r, k => bX (s.E a r k) fun x r1 k => match x with
    | .bl b => (.ok (.bl (!b)) r1, k)
    | _ => (.bad, k)
  | .ite t a b, r, k => bX (s.T t r k) fun x r1 k => if x then s.E a r1 k else s.E b r1 k
  | .idx a i, r, k => bX (s.V a r k) fun x r1 k => bX (s.E i r1 k) fun j r2 k => ofW ((vw r2 x).bind fun u => idxW u j) r2 k
  | .slc a lo hi, r, k => bX (s.V a r k) fun x r1 k => bX (optEX s lo r1 k) fun l r2 k => bX (optEX s hi r2 k) fun h r3 k => ofW ((vw r3 x).bind fun u => cutD u l h) r3 k
  | .didx a i, r, k => bX (s.V a r k) fun x r1 k => bX (s.E i r1 k) fun j r2 k => ofW ((vw r2 x).bind fun u => match u with
    | .dic ks vs => if keyOk j then dfind j ks vs else none
    | _ => none) r2 k
  | .dget i a d, r, k => (match lookU r i with
    | some (.c _ _) => bX (s.E a r k) fun a r1 k => bX (s.E d r1 k) fun d r2 k => ofW (dgetV i a d r2) r2 k
    | _ => (.bad, k))
  | .isi e t, r, k => bX (s.V e r k) fun x r1 k => ofW ((vw r1 x).bind fun w => tyIsO t w) r1 k
  | .blt f vs, r, k => bX (evsX s.V vs r k) fun xs r1 k => ofW ((vws r1 xs).bind fun ws => bltF f ws) r1 k
  | .app i e, r, k => (match lookU r i with
    | some (.l _) => bX (s.E e r k) fun y r1 k => ofQ (appS i y r1) k
    | _ => (.bad, k))
  | .ext i e, r, k => (match lookU r i with
    | some (.l _) => bX (s.V e r k) fun x r1 k => ofQ (extS i x r1) k
    | _ => (.bad, k))
  | .xfl i f, r, k => (match nth r i with
    | some (.x _ [l] [w]) => if Nat.beq l f then (.ok w r, k) else (.bad, k)
    | _ => (.bad, k))
  | .xis i cs no, r, k => (match nth r i with
    | some (.x c [_] [_]) => if cs.any (Nat.beq c) then (.ok (.bl true) r, k) else if no.any (Nat.beq c) then (.ok (.bl false) r, k) else (.bad, k)
    | _ => (.bad, k))
  | .unk, _, k => (.bad, k)
def forLX (f : W → Env → Kt → SX) : List W → Env → Kt → SX
  | [], r, k => (.nx r, k)
  | w :: ws, r, k => match f w r k with
    | (.nx r1, k) => forLX f ws r1 k
    | (.ct r1, k) => forLX f ws r1 k
    | (.bk r1, k) => (.nx r1, k)
    | x => x
def unXX (i : Nat) (x : SX) : SX := (unX i x.1, x.2)
def handleX (s : SFX) (x : Xn) (r : Env) (k : Kt) (cs no : List Nat) (i : Nat) (h : List IS) : SX := if cs.any (Nat.beq x.c) then (match nth r i with
    | some e => if plainE e then unXX i (s.S h (r.set i (.x x.c x.ks x.ws)) k) else (.bad, k)
    | none => (.bad, k)) else if no.any (Nat.beq x.c) then (.ex x r, k) else (.bad, k)
def pickX (s : SFX) (w : W) (r : Env) (k : Kt) : List (W × List IS) → SX
  | [] => (.nx r, k)
  | (u, b) :: cs => match eqW w u with
    | some true => s.S b r k
    | some false => pickX s w r k cs
    | none => (.bad, k)
def stepSX (s : SFX) : IS → Env → Kt → SX
  | .exp e, r, k => tX (s.E e r k) fun _ r1 k => (.nx r1, k)
  | .asg g e, r, k => tX (s.E e r k) fun w r1 k => match bindG g w r1 with
    | some r2 => (.nx r2, k)
    | none => (.bad, k)
  | .own i x, r, k => tX (s.U x r k) fun u r1 k => match setV r1 i u with
    | some r2 => (.nx r2, k)
    | none => (.bad, k)
  | .par i j a b, r, k => tX (s.E a r k) fun x r1 k => tX (s.E b r1 k) fun y r2 k => match (setV r2 i (.d x)).bind fun r3 => setV r3 j (.d y) with
    | some r4 => (.nx r4, k)
    | none => (.bad, k)
  | .sub i a e, r, k => tX (s.E e r k) fun v r1 k => (match lookU r1 i with
    | some (.l _) => tX (s.E a r1 k) fun n r2 k => (putS i v n r2, k)
    | _ => (.bad, k))
  | .dsub i a e, r, k => tX (s.E e r k) fun v r1 k => (match lookU r1 i with
    | some (.c _ _) => tX (s.E a r1 k) fun n r2 k => (dputS i v n r2, k)
    | _ => (.bad, k))
  | .ret x, r, k => tX (s.U x r k) fun u r1 k => (.rt u r1, k)
  | .ifs t a b, r, k => tX (s.T t r k) fun c r1 k => if c then s.S a r1 k else s.S b r1 k
  | .for g it body, r, k => tX (stepIX s it r k) fun q r1 k => if q.ks.isEmpty then forLX (fun w r2 k => match bindG g w r2 with
      | some r3 => s.S body r3 k
      | none => (.bad, k)) q.ws r1 k else (.bad, k)
  | .whl t body, r, k => s.Wh t body r k
  | .lc b i elt g own it t, r, k => tX (compMX s elt g own it t r k) fun ws r1 k => match setV r1 i (if b then .l (ws.map U.d) else .d (.lis ws)) with
    | some r2 => (.nx r2, k)
    | none => (.bad, k)
  | .rse c f e, r, k => (match f, e with
    | some f, some e => tX (s.E e r k) fun w r1 k => (.ex ⟨c, [f], [w]⟩ r1, k)
    | none, none => (.ex ⟨c, [], []⟩ r, k)
    | _, _ => (.bad, k))
  | .try body cs no i h, r, k => (match s.S body r k with
    | (.ex x r1, k) => handleX s x r1 k cs no i h
    | y => y)
  | .mat e cs, r, k => tX (s.E e r k) fun w r1 k => pickX s w r1 k cs
  | .pass, r, k => (.nx r, k)
  | .brk, r, k => (.bk r, k)
  | .cont, r, k => (.ct r, k)
  | .unk, _, k => (.bad, k)
def stepSsX (s : SFX) : List IS → Env → Kt → SX
  | [], r, k => (.nx r, k)
  | st :: sts, r, k => match stepSX s st r k with
    | (.nx r1, k) => stepSsX s sts r1 k
    | x => x
def stepWhX (s : SFX) (t : IT) (body : List IS) (r : Env) (k : Kt) : SX := tX (s.T t r k) fun b r1 k => if b then (match s.S body r1 k with
    | (.nx r2, k) => s.Wh t body r2 k
    | (.ct r2, k) => s.Wh t body r2 k
    | (.bk r2, k) => (.nx r2, k)
    | x => x) else (.nx r1, k)
def lvlX : Nat → SFX
  | 0 => SFX.bot
  | n + 1 => ⟨stepEX (lvlX n), stepVX (lvlX n), stepTX (lvlX n), stepUX (lvlX n), stepSsX (lvlX n), stepWhX (lvlX n)⟩
end FM


set_option linter.all false
set_option maxRecDepth 100000
set_option maxHeartbeats 2000000
namespace FM
def Ob.ok (c : CF) : Ob → Prop
  | .a f es y => c f es = y
  | .v o y => o = some y
  | .t o y => o = some y
  | .u o y => o = some y
  | .q o y => o = .ok .non y
def Gd (c : CF) : List Ob → Prop
  | [] => True
  | [q] => q.ok c
  | q :: l => q.ok c ∧ Gd c l
theorem Gd.cons {c : CF} {q : Ob} {l : List Ob} : Gd c (q :: l) ↔ q.ok c ∧ Gd c l := by
  cases l with
  | nil => exact ⟨fun h => ⟨h, trivial⟩, fun h => h.1⟩
  | cons p l => exact Iff.rfl
theorem Gd.both {c : CF} : ∀ {a b : List Ob}, Gd c (a ++ b) → Gd c a ∧ Gd c b
  | [], b, h => ⟨trivial, h⟩
  | q :: a, b, h => by
    have h := Gd.cons.mp (show Gd c (q :: (a ++ b)) from h)
    obtain ⟨h1, h2⟩ := Gd.both h.2
    exact ⟨Gd.cons.mpr ⟨h.1, h1⟩, h2⟩
theorem Gd.l {c : CF} {a b : List Ob} (h : Gd c (a ++ b)) : Gd c a := h.both.1
theorem Gd.r {c : CF} {a b : List Ob} (h : Gd c (a ++ b)) : Gd c b := h.both.2
def Ag (c : CF) {α : Type} (k : Kt) (x : Res α) (y : RX α) : Prop := ∃ l, y.2.lg = l ++ k.lg ∧ (Gd c l → y.1 = .bad ∨ x = y.1)
def AgS (c : CF) (k : Kt) (x : SRes) (y : SX) : Prop := ∃ l, y.2.lg = l ++ k.lg ∧ (Gd c l → y.1 = .bad ∨ x = y.1)
section
variable {c : CF} {α β : Type} {k : Kt}
theorem Ag.p {x : Res α} : Ag c k x (x, k) := ⟨[], rfl, fun _ => .inr rfl⟩
theorem Ag.b {x : Res α} : Ag c k x (.bad, k) := ⟨[], rfl, fun _ => .inl rfl⟩
theorem AgS.p {x : SRes} : AgS c k x (x, k) := ⟨[], rfl, fun _ => .inr rfl⟩
theorem AgS.b {x : SRes} : AgS c k x (.bad, k) := ⟨[], rfl, fun _ => .inl rfl⟩
theorem Ag.bind {m : Res α} {y : RX α} {f : α → Env → Res β} {g : α → Env → Kt → RX β} (h : Ag c k m y) (hf : ∀ a r k1, Ag c k1 (f a r) (g a r k1)) : Ag c k (m.bind f) (bX y g) := by
  obtain ⟨l, e, h⟩ := h
  obtain ⟨y1, k1⟩ := y
  cases y1 with
  | bad => exact ⟨l, e, fun _ => .inl rfl⟩
  | ex x r =>
    refine ⟨l, e, fun G => ?_⟩
    rcases h G with z | rfl
    · cases z
    · exact .inr rfl
  | ok a r =>
    obtain ⟨l2, e2, h2⟩ := hf a r k1
    refine ⟨l2 ++ l, ?_, fun G => ?_⟩
    · show (g a r k1).2.lg = _
      rw [e2, show k1.lg = l ++ k.lg from e, List.append_assoc]
    · rcases h G.r with z | rfl
      · cases z
      · exact h2 G.l
theorem Ag.toS {m : Res α} {y : RX α} {f : α → Env → SRes} {g : α → Env → Kt → SX} (h : Ag c k m y) (hf : ∀ a r k1, AgS c k1 (f a r) (g a r k1)) : AgS c k (m.toS f) (tX y g) := by
  obtain ⟨l, e, h⟩ := h
  obtain ⟨y1, k1⟩ := y
  cases y1 with
  | bad => exact ⟨l, e, fun _ => .inl rfl⟩
  | ex x r =>
    refine ⟨l, e, fun G => ?_⟩
    rcases h G with z | rfl
    · cases z
    · exact .inr rfl
  | ok a r =>
    obtain ⟨l2, e2, h2⟩ := hf a r k1
    refine ⟨l2 ++ l, ?_, fun G => ?_⟩
    · show (g a r k1).2.lg = _
      rw [e2, show k1.lg = l ++ k.lg from e, List.append_assoc]
    · rcases h G.r with z | rfl
      · cases z
      · exact h2 G.l
end
section
variable {c : CF} {k : Kt} {r : Env}
theorem Ag.ow {o : Option W} : Ag c k (Res.of o r) (ofW o r k) := by
  unfold ofW
  split
  · exact ⟨[_], rfl, fun h => .inr (by rw [show o = some _ from h]; rfl)⟩
  · exact ⟨[], rfl, fun _ => .inr rfl⟩
  · exact Ag.p
theorem Ag.ot {o : Option Bool} : Ag c k (Res.of o r) (ofT o r k) := by
  unfold ofT
  split
  · exact ⟨[_], rfl, fun h => .inr (by rw [show o = some _ from h]; rfl)⟩
  · exact ⟨[], rfl, fun _ => .inr rfl⟩
  · exact Ag.p
theorem Ag.ou {o : Option U} : Ag c k (Res.of o r) (ofU o r k) := by
  unfold ofU
  split
  · exact ⟨[_], rfl, fun h => .inr (by rw [show o = some _ from h]; rfl)⟩
  · exact ⟨[], rfl, fun _ => .inr rfl⟩
  · exact Ag.p
theorem Ag.oq {o : Res W} : Ag c k o (ofQ o k) := by
  unfold ofQ
  split
  · exact ⟨[_], rfl, fun h => .inr h⟩
  · exact ⟨[], rfl, fun _ => .inr rfl⟩
  · exact Ag.p
end
structure Tr (c : CF) (s : SF) (sX : SFX) : Prop where
  E : ∀ e r k, Ag c k (s.E e r) (sX.E e r k)
  V : ∀ e r k, Ag c k (s.V e r) (sX.V e r k)
  T : ∀ e r k, Ag c k (s.T e r) (sX.T e r k)
  U : ∀ e r k, Ag c k (s.U e r) (sX.U e r k)
  S : ∀ e r k, AgS c k (s.S e r) (sX.S e r k)
  Wh : ∀ t b r k, AgS c k (s.Wh t b r) (sX.Wh t b r k)
section
variable {c : CF} {s : SF} {sX : SFX} (Y : Tr c s sX)
theorem evs_x {α β : Type} {f : α → Env → Res β} {g : α → Env → Kt → RX β} (h : ∀ a r k, Ag c k (f a r) (g a r k)) : ∀ (es : List α) (r : Env) (k : Kt), Ag c k (evs f es r) (evsX g es r k)
  | [], r, k => Ag.p
  | e :: es, r, k => (h e r k).bind fun w r1 k1 => (evs_x h es r1 k1).bind fun ws r2 k2 => Ag.p
include Y
theorem opt_x (e : Option IE) (r : Env) (k : Kt) : Ag c k (optE s e r) (optEX sX e r k) := by
  cases e with
  | none => exact Ag.p
  | some e => exact (Y.E e r k).bind fun x r1 k1 => by cases x <;> first | exact Ag.p | exact Ag.b
theorem step_i (i : II) (r : Env) (k : Kt) : Ag c k (stepI s i r) (stepIX sX i r k) := by
  cases i with
  | v a => exact (Y.V a r k).bind fun x r1 k1 => Ag.p
  | rng a =>
    refine (Y.E a r k).bind fun x r1 k1 => ?_
    cases x with
    | int n =>
      dsimp only
      split
      · exact Ag.p
      · exact Ag.b
    | _ => exact Ag.b
  | rng2 a b =>
    refine (Y.E a r k).bind fun x r1 k1 => (Y.E b r1 k1).bind fun y r2 k2 => ?_
    cases x with
    | int m =>
      cases y with
      | int n =>
        dsimp only
        split
        · exact Ag.p
        · exact Ag.b
      | _ => exact Ag.b
    | _ => exact Ag.b
  | zip a b => exact (Y.V a r k).bind fun x r1 k1 => (Y.V b r1 k1).bind fun y r2 k2 => Ag.p
  | enm a => exact (Y.V a r k).bind fun x r1 k1 => Ag.p
omit Y in
theorem comp_l (q : Wk) (own : List Nat) {f : W → Env → Res (Option W)} {g : W → Env → Kt → RX (Option W)} (h : ∀ w r k, Ag c k (f w r) (g w r k)) : ∀ (ws : List W) (r : Env) (k : Kt), Ag c k (compL q own f ws r) (compLX q own g ws r k)
  | [], r, k => by
    unfold compL compLX
    split
    · exact Ag.p
    · exact Ag.b
  | w :: ws, r, k => by
    unfold compL compLX
    split
    · obtain ⟨l, e, hw⟩ := h w r k
      generalize hy : g w r k = y at e hw ⊢
      obtain ⟨y1, k1⟩ := y
      cases y1 with
      | bad => exact ⟨l, e, fun _ => .inl rfl⟩
      | ex x r1 => exact ⟨l, e, fun _ => .inl rfl⟩
      | ok o r1 =>
        obtain ⟨l2, e2, h2⟩ := comp_l q own h ws (wipe r1 own) k1
        dsimp only
        generalize hz : compLX q own g ws (wipe r1 own) k1 = z at e2 h2 ⊢
        obtain ⟨z1, k2⟩ := z
        have el : k2.lg = (l2 ++ l) ++ k.lg := by rw [show k2.lg = l2 ++ k1.lg from e2, show k1.lg = l ++ k.lg from e, List.append_assoc]
        cases z1 with
        | bad => exact ⟨l2 ++ l, el, fun _ => .inl rfl⟩
        | ex x r2 => exact ⟨l2 ++ l, el, fun _ => .inl rfl⟩
        | ok us r2 =>
          cases o with
          | none =>
            refine ⟨l2 ++ l, el, fun G => ?_⟩
            rcases hw G.r with z | e1
            · cases z
            · rcases h2 G.l with z | e3
              · cases z
              · right
                rw [e1]
                dsimp only
                rw [e3]
          | some u =>
            refine ⟨l2 ++ l, el, fun G => ?_⟩
            rcases hw G.r with z | e1
            · cases z
            · rcases h2 G.l with z | e3
              · cases z
              · right
                rw [e1]
                dsimp only
                rw [e3]
    · exact Ag.b
theorem turn_l (elt : IE) (g : IG) (t : Option IT) (w : W) (r : Env) (k : Kt) : Ag c k (turnL s elt g t w r) (turnLX sX elt g t w r k) := by
  unfold turnL turnLX
  cases bindG g w r with
  | none => exact Ag.b
  | some r1 =>
    cases t with
    | none => exact (Y.E elt r1 k).bind fun u r2 k2 => Ag.p
    | some t =>
      refine (Y.T t r1 k).bind fun b r2 k2 => ?_
      cases b with
      | true => exact (Y.E elt r2 k2).bind fun u r3 k3 => Ag.p
      | false => exact Ag.p
theorem comp_m (elt : IE) (g : IG) (own : List Nat) (it : II) (t : Option IT) (r : Env) (k : Kt) : Ag c k (compM s elt g own it t r) (compMX sX elt g own it t r k) := by
  refine (step_i Y it r k).bind fun q r1 k1 => ?_
  split
  · obtain ⟨l, e, h⟩ := comp_l q own (turn_l Y elt g t) q.ws (wipe r1 own) k1
    generalize hy : compLX q own (turnLX sX elt g t) q.ws (wipe r1 own) k1 = y at e h ⊢
    obtain ⟨y1, k2⟩ := y
    cases y1 with
    | bad => exact ⟨l, e, fun _ => .inl rfl⟩
    | ex x r1 => exact ⟨l, e, fun _ => .inl rfl⟩
    | ok ws r2 =>
      refine ⟨l, e, fun G => ?_⟩
      rcases h G with z | e1
      · cases z
      · right
        rw [e1]
  · exact Ag.b
theorem step_a (a : IA) (r : Env) (k : Kt) : Ag c k (stepA s a r) (stepAX sX a r k) := by
  cases a with
  | d e => exact (Y.E e r k).bind fun w r1 k1 => Ag.p
  | r i =>
    show Ag c k (match lookU r i with | some _ => Res.ok (AV.r i) r | none => .bad) (match lookU r i with | some _ => (Res.ok (AV.r i) r, k) | none => (.bad, k))
    cases lookU r i with
    | none => exact Ag.b
    | some _ => exact Ag.p
  | u x => exact (Y.U x r k).bind fun w r1 k1 => Ag.p
omit Y in
theorem run_c (f : Nat) (as : List AV) (r : Env) (k : Kt) : Ag c k (runC c f as r) (runCX f as r k) := by
  unfold runC runCX
  cases args r as with
  | none => exact Ag.b
  | some q =>
    obtain ⟨es, is⟩ := q
    dsimp only
    obtain ⟨sc, lg⟩ := k
    rcases sc with _ | ⟨i, sc⟩
    · exact Ag.b
    cases i with
    | v _ _ => exact Ag.b
    | t _ _ => exact Ag.b
    | u _ _ => exact Ag.b
    | q _ _ => exact Ag.b
    | a a =>
      have one : ∀ z : Res U, (c f es = a → (match c f es with
          | .ok u os => (match puts r is os with | some r1 => Res.ok u r1 | none => .bad)
          | .ex x os => (match puts r is os with | some r1 => .ex x r1 | none => .bad)
          | .bad => .bad) = z) → Ag c ⟨.a a :: sc, lg⟩ (match c f es with
          | .ok u os => (match puts r is os with | some r1 => Res.ok u r1 | none => .bad)
          | .ex x os => (match puts r is os with | some r1 => .ex x r1 | none => .bad)
          | .bad => .bad) (z, ⟨sc, .a f es a :: lg⟩) := fun z hz => ⟨[.a f es a], rfl, fun G => .inr (hz G)⟩
      cases a with
      | ok u os =>
        dsimp only
        cases hp : puts r is os with
        | none => exact one _ fun e => by rw [e]; dsimp only; rw [hp]
        | some r1 => exact one _ fun e => by rw [e]; dsimp only; rw [hp]
      | ex u os =>
        dsimp only
        cases hp : puts r is os with
        | none => exact one _ fun e => by rw [e]; dsimp only; rw [hp]
        | some r1 => exact one _ fun e => by rw [e]; dsimp only; rw [hp]
      | bad => exact one _ fun e => by rw [e]
theorem step_u (x : IU) (r : Env) (k : Kt) : Ag c k (stepU c s x r) (stepUX sX x r k) := by
  cases x with
  | d e => exact (Y.E e r k).bind fun w r1 k1 => Ag.p
  | mv i =>
    show Ag c k (match mvV r i with | some (u, r1) => Res.ok u r1 | none => .bad) (match mvV r i with | some (u, r1) => (Res.ok u r1, k) | none => (.bad, k))
    cases mvV r i with
    | none => exact Ag.b
    | some q => exact Ag.p
  | lst es => exact (evs_x Y.E es r k).bind fun ws r1 k1 => Ag.p
  | comp elt g own it t => exact (comp_m Y elt g own it t r k).bind fun ws r1 k1 => Ag.p
  | cat a b => exact (Y.V a r k).bind fun x r1 k1 => (Y.V b r1 k1).bind fun y r2 k2 => Ag.ou
  | rep a n => exact (Y.V a r k).bind fun x r1 k1 => (Y.E n r1 k1).bind fun y r2 k2 => by cases y <;> first | exact Ag.ou | exact Ag.b
  | slc a lo hi => exact (Y.V a r k).bind fun x r1 k1 => (opt_x Y lo r1 k1).bind fun l r2 k2 => (opt_x Y hi r2 k2).bind fun h r3 k3 => Ag.ou
  | lof a => exact (Y.V a r k).bind fun x r1 k1 => Ag.ou
  | srt a => exact (Y.V a r k).bind fun x r1 k1 => Ag.ou
  | ndic => exact Ag.p
  | dlt ps =>
    refine (evs_x (fun p r k => (Y.E p.1 r k).bind fun a r1 k1 => (Y.E p.2 r1 k1).bind fun v r2 k2 => Ag.p) ps r k).bind fun qs r1 k1 => ?_
    split
    · exact Ag.p
    · exact Ag.b
  | call f as => exact (evs_x (step_a Y) as r k).bind fun vs r1 k1 => run_c f vs r1 k1
  | callK f as => exact (evs_x (step_a Y) as r k).bind fun vs r1 k1 => run_c f vs r1 k1
theorem step_v (x : IV) (r : Env) (k : Kt) : Ag c k (stepV s x r) (stepVX sX x r k) := by
  cases x with
  | e e => exact (Y.E e r k).bind fun w r1 k1 => Ag.p
  | s i =>
    show Ag c k (match lookU r i with | some _ => Res.ok (Arg.sl i) r | none => .bad) (match lookU r i with | some _ => (Res.ok (Arg.sl i) r, k) | none => (.bad, k))
    cases lookU r i with
    | none => exact Ag.b
    | some q => exact Ag.p
  | u x => exact (Y.U x r k).bind fun w r1 k1 => Ag.p
theorem and_e : ∀ (es : List IE) (r : Env) (k : Kt), Ag c k (andE s es r) (andEX sX es r k)
  | [], r, k => Ag.b
  | [e], r, k => Y.E e r k
  | e :: f :: es, r, k => (Y.E e r k).bind fun w r1 k1 => by
      cases w with
      | bl b => cases b with
        | true => exact and_e (f :: es) r1 k1
        | false => exact Ag.p
      | _ => exact Ag.b
theorem or_e : ∀ (es : List IE) (r : Env) (k : Kt), Ag c k (orE s es r) (orEX sX es r k)
  | [], r, k => Ag.b
  | [e], r, k => Y.E e r k
  | e :: f :: es, r, k => (Y.E e r k).bind fun w r1 k1 => by
      cases w with
      | bl b => cases b with
        | true => exact Ag.p
        | false => exact or_e (f :: es) r1 k1
      | _ => exact Ag.b
theorem and_t : ∀ (es : List IT) (r : Env) (k : Kt), Ag c k (andT s es r) (andTX sX es r k)
  | [], r, k => Ag.b
  | [e], r, k => Y.T e r k
  | e :: f :: es, r, k => (Y.T e r k).bind fun b r1 k1 => by
      cases b with
      | true => exact and_t (f :: es) r1 k1
      | false => exact Ag.p
theorem or_t : ∀ (es : List IT) (r : Env) (k : Kt), Ag c k (orT s es r) (orTX sX es r k)
  | [], r, k => Ag.b
  | [e], r, k => Y.T e r k
  | e :: f :: es, r, k => (Y.T e r k).bind fun b r1 k1 => by
      cases b with
      | true => exact Ag.p
      | false => exact or_t (f :: es) r1 k1
theorem cmp_s (op : C2) (a b : IV) (r : Env) (k : Kt) : Ag c k (cmpS s op a b r) (cmpSX sX op a b r k) := (Y.V a r k).bind fun x r1 k1 => (Y.V b r1 k1).bind fun y r2 k2 => Ag.ot
theorem chn_s (op op' : C2) (a b d : IV) (r : Env) (k : Kt) : Ag c k (chnS s op op' a b d r) (chnSX sX op op' a b d r k) := (Y.V a r k).bind fun x r1 k1 => (Y.V b r1 k1).bind fun y r2 k2 => by
  have h : Ag c k2 ((Res.of (cmp2 op x y r2) r2).bind fun t r2 => if t then (s.V d r2).bind fun z r3 => Res.of (cmp2 op' y z r3) r3 else .ok false r2) (bX (ofT (cmp2 op x y r2) r2 k2) fun t r2 k => if t then bX (sX.V d r2 k) fun z r3 k => ofT (cmp2 op' y z r3) r3 k else (.ok false r2, k)) := by
    refine Ag.ot.bind fun t r3 k3 => ?_
    cases t with
    | true => exact (Y.V d r3 k3).bind fun z r4 k4 => Ag.ot
    | false => exact Ag.p
  cases hq : cmp2 op x y r2 with
  | none => rw [hq] at h; exact h
  | some b => cases b <;> (rw [hq] at h; exact h)
theorem step_t (x : IT) (r : Env) (k : Kt) : Ag c k (stepT s x r) (stepTX sX x r k) := by
  cases x with
  | val e => exact (Y.E e r k).bind fun w r1 k1 => by cases w <;> first | exact Ag.p | exact Ag.b
  | cmp op a b => exact cmp_s Y op a b r k
  | chn op op' a b d => exact chn_s Y op op' a b d r k
  | and ts => exact and_t Y ts r k
  | or ts => exact or_t Y ts r k
  | not t => exact (Y.T t r k).bind fun b r1 k1 => Ag.p
theorem step_e (x : IE) (r : Env) (k : Kt) : Ag c k (stepE s x r) (stepEX sX x r k) := by
  cases x with
  | var i =>
    show Ag c k (match rdV r i with | some (w, r1) => Res.ok w r1 | none => .bad) (match rdV r i with | some (w, r1) => (Res.ok w r1, k) | none => (.bad, k))
    cases rdV r i with
    | none => exact Ag.b
    | some q => exact Ag.p
  | cst w => exact Ag.p
  | tup es => exact (evs_x Y.E es r k).bind fun ws r1 k1 => Ag.p
  | frz x => exact (Y.U x r k).bind fun w r1 k1 => Ag.p
  | bin op a b => exact (Y.V a r k).bind fun x r1 k1 => (Y.V b r1 k1).bind fun y r2 k2 => Ag.ow
  | neg a => exact (Y.E a r k).bind fun w r1 k1 => by cases w <;> first | exact Ag.p | exact Ag.b
  | cmp op a b => exact (cmp_s Y op a b r k).bind fun w r1 k1 => Ag.p
  | chn op op' a b d => exact (chn_s Y op op' a b d r k).bind fun w r1 k1 => Ag.p
  | and es => exact and_e Y es r k
  | or es => exact or_e Y es r k
  | not a => exact (Y.E a r k).bind fun w r1 k1 => by cases w <;> first | exact Ag.p | exact Ag.b
  | ite t a b =>
    refine (Y.T t r k).bind fun x r1 k1 => ?_
    cases x with
    | true => exact Y.E a r1 k1
    | false => exact Y.E b r1 k1
  | idx a i => exact (Y.V a r k).bind fun x r1 k1 => (Y.E i r1 k1).bind fun y r2 k2 => Ag.ow
  | slc a lo hi => exact (Y.V a r k).bind fun x r1 k1 => (opt_x Y lo r1 k1).bind fun l r2 k2 => (opt_x Y hi r2 k2).bind fun h r3 k3 => Ag.ow
  | didx a i => exact (Y.V a r k).bind fun x r1 k1 => (Y.E i r1 k1).bind fun y r2 k2 => Ag.ow
  | dget i a d =>
    simp only [stepE, stepEX]
    cases lookU r i with
    | none => exact Ag.b
    | some u => cases u with
      | c ks us => exact (Y.E a r k).bind fun x r1 k1 => (Y.E d r1 k1).bind fun y r2 k2 => Ag.ow
      | _ => exact Ag.b
  | isi e t => exact (Y.V e r k).bind fun x r1 k1 => Ag.ow
  | blt f vs => exact (evs_x Y.V vs r k).bind fun ws r1 k1 => Ag.ow
  | app i e =>
    simp only [stepE, stepEX]
    cases lookU r i with
    | none => exact Ag.b
    | some u => cases u with
      | l us => exact (Y.E e r k).bind fun x r1 k1 => Ag.oq
      | _ => exact Ag.b
  | ext i e =>
    simp only [stepE, stepEX]
    cases lookU r i with
    | none => exact Ag.b
    | some u => cases u with
      | l us => exact (Y.V e r k).bind fun x r1 k1 => Ag.oq
      | _ => exact Ag.b
  | xfl i f =>
    have e : stepEX sX (.xfl i f) r k = (stepE s (.xfl i f) r, k) := by
      simp only [stepE, stepEX]
      generalize nth r i = o
      rcases o with _ | (_ | _ | _ | ⟨c', ks, ws⟩)
      case some.x =>
        rcases ks with _ | ⟨l, _ | ⟨_, _⟩⟩ <;> rcases ws with _ | ⟨w, _ | ⟨_, _⟩⟩ <;> first | rfl | (dsimp only; split <;> rfl)
      all_goals rfl
    rw [e]; exact Ag.p
  | xis i cs no =>
    have e : stepEX sX (.xis i cs no) r k = (stepE s (.xis i cs no) r, k) := by
      simp only [stepE, stepEX]
      generalize nth r i = o
      rcases o with _ | (_ | _ | _ | ⟨c', ks, ws⟩)
      case some.x =>
        rcases ks with _ | ⟨l, _ | ⟨_, _⟩⟩ <;> rcases ws with _ | ⟨w, _ | ⟨_, _⟩⟩ <;> first | rfl | (dsimp only; split; rfl; split <;> rfl)
      all_goals rfl
    rw [e]; exact Ag.p
  | unk => exact Ag.b
omit Y in
theorem for_l {f : W → Env → SRes} {g : W → Env → Kt → SX} (h : ∀ w r k, AgS c k (f w r) (g w r k)) : ∀ (ws : List W) (r : Env) (k : Kt), AgS c k (forL f ws r) (forLX g ws r k)
  | [], r, k => AgS.p
  | w :: ws, r, k => by
    unfold forL forLX
    obtain ⟨l, e, hw⟩ := h w r k
    generalize hy : g w r k = y at e hw ⊢
    obtain ⟨y1, k1⟩ := y
    have go : ∀ r1, (Gd c l → f w r = .nx r1 ∨ f w r = .ct r1) → AgS c k (match f w r with | .nx r1 => forL f ws r1 | .ct r1 => forL f ws r1 | .bk r1 => .nx r1 | x => x) (forLX g ws r1 k1) := fun r1 hq => by
      obtain ⟨l2, e2, h2⟩ := for_l h ws r1 k1
      refine ⟨l2 ++ l, by rw [e2, show k1.lg = l ++ k.lg from e, List.append_assoc], fun G => ?_⟩
      rcases hq G.r with z | z <;> (rw [z]; exact h2 G.l)
    cases y1 with
    | nx r1 => exact go r1 fun G => (hw G).elim (fun z => by cases z) .inl
    | ct r1 => exact go r1 fun G => (hw G).elim (fun z => by cases z) .inr
    | bk r1 =>
      refine ⟨l, e, fun G => ?_⟩
      rcases hw G with z | z
      · cases z
      · right; rw [z]
    | rt u r1 =>
      refine ⟨l, e, fun G => ?_⟩
      rcases hw G with z | z
      · cases z
      · right; rw [z]
    | ex u r1 =>
      refine ⟨l, e, fun G => ?_⟩
      rcases hw G with z | z
      · cases z
      · right; rw [z]
    | bad => exact ⟨l, e, fun _ => .inl rfl⟩
theorem pick_x (w : W) (r : Env) (k : Kt) : ∀ cs : List (W × List IS), AgS c k (pick s w r cs) (pickX sX w r k cs)
  | [] => AgS.p
  | (u, b) :: cs => by
    unfold pick pickX
    cases eqW w u with
    | none => exact AgS.b
    | some x => cases x with
      | true => exact Y.S b r k
      | false => exact pick_x w r k cs
theorem handle_x (x : Xn) (r : Env) (k : Kt) (cs no : List Nat) (i : Nat) (h : List IS) : AgS c k (handle s x r cs no i h) (handleX sX x r k cs no i h) := by
  unfold handle handleX
  split
  · cases nth r i with
    | none => exact AgS.b
    | some e =>
      dsimp only
      split
      · obtain ⟨l, q, hh⟩ := Y.S h (r.set i (.x x.c x.ks x.ws)) k
        refine ⟨l, q, fun G => ?_⟩
        rcases hh G with z | z
        · left
          show unX i _ = _
          rw [z]; rfl
        · right
          show _ = unX i _
          rw [z]
      · exact AgS.b
  · split
    · exact AgS.p
    · exact AgS.b
theorem step_s (x : IS) (r : Env) (k : Kt) : AgS c k (stepS s x r) (stepSX sX x r k) := by
  cases x with
  | exp e => exact (Y.E e r k).toS fun w r1 k1 => AgS.p
  | asg g e =>
    refine (Y.E e r k).toS fun w r1 k1 => ?_
    cases bindG g w r1 with
    | none => exact AgS.b
    | some r2 => exact AgS.p
  | own i x =>
    refine (Y.U x r k).toS fun w r1 k1 => ?_
    cases setV r1 i w with
    | none => exact AgS.b
    | some r2 => exact AgS.p
  | par i j a b =>
    refine (Y.E a r k).toS fun w r1 k1 => (Y.E b r1 k1).toS fun v r2 k2 => ?_
    cases (setV r2 i (.d w)).bind fun r3 => setV r3 j (.d v) with
    | none => exact AgS.b
    | some r2 => exact AgS.p
  | sub i a e =>
    refine (Y.E e r k).toS fun w r1 k1 => ?_
    cases lookU r1 i with
    | none => exact AgS.b
    | some u => cases u with
      | l us => exact (Y.E a r1 k1).toS fun x r1 k1 => AgS.p
      | _ => exact AgS.b
  | dsub i a e =>
    refine (Y.E e r k).toS fun w r1 k1 => ?_
    cases lookU r1 i with
    | none => exact AgS.b
    | some u => cases u with
      | c ks us => exact (Y.E a r1 k1).toS fun x r1 k1 => AgS.p
      | _ => exact AgS.b
  | ret x => exact (Y.U x r k).toS fun w r1 k1 => AgS.p
  | ifs t a b =>
    refine (Y.T t r k).toS fun x r1 k1 => ?_
    cases x with
    | true => exact Y.S a r1 k1
    | false => exact Y.S b r1 k1
  | «for» g it body =>
    refine (step_i Y it r k).toS fun q r1 k1 => ?_
    split
    · exact for_l (fun w r2 k2 => by
        cases bindG g w r2 with
        | none => exact AgS.b
        | some r3 => exact Y.S body r3 k2) q.ws r1 k1
    · exact AgS.b
  | whl t body => exact Y.Wh t body r k
  | lc b i elt g own it t =>
    refine (comp_m Y elt g own it t r k).toS fun ws r1 k1 => ?_
    cases setV r1 i (if b then .l (ws.map U.d) else .d (.lis ws)) with
    | none => exact AgS.b
    | some r2 => exact AgS.p
  | rse q f e =>
    simp only [stepS, stepSX]
    cases f with
    | none => cases e with
      | none => exact AgS.p
      | some e => exact AgS.b
    | some f => cases e with
      | none => exact AgS.b
      | some e => exact (Y.E e r k).toS fun w r1 k1 => AgS.p
  | «try» body cs no i h =>
    simp only [stepS, stepSX]
    obtain ⟨l, e, hw⟩ := Y.S body r k
    generalize hy : sX.S body r k = y at e hw ⊢
    obtain ⟨y1, k1⟩ := y
    have same : ∀ y1, (∀ x r, y1 ≠ SRes.ex x r) → (Gd c l → y1 = .bad ∨ s.S body r = y1) → AgS c k (match s.S body r with | .ex x r1 => handle s x r1 cs no i h | y => y) (y1, k1) := fun y1 n q => ⟨l, e, fun G => by
      rcases q G with z | z
      · exact .inl z
      · right
        rw [z]
        cases y1 <;> first | rfl | exact absurd rfl (n _ _)⟩
    cases y1 with
    | ex x r1 =>
      obtain ⟨l2, e2, h2⟩ := handle_x Y x r1 k1 cs no i h
      refine ⟨l2 ++ l, ?_, fun G => ?_⟩
      · show (handleX sX x r1 k1 cs no i h).2.lg = _
        rw [e2, show k1.lg = l ++ k.lg from e, List.append_assoc]
      · rcases hw G.r with z | z
        · cases z
        · rw [z]; exact h2 G.l
    | nx r1 => exact same _ (fun _ _ z => nomatch z) hw
    | rt u r1 => exact same _ (fun _ _ z => nomatch z) hw
    | bk r1 => exact same _ (fun _ _ z => nomatch z) hw
    | ct r1 => exact same _ (fun _ _ z => nomatch z) hw
    | bad => exact same _ (fun _ _ z => nomatch z) hw
  | mat e cs => exact (Y.E e r k).toS fun w r1 k1 => pick_x Y w r1 k1 cs
  | pass => exact AgS.p
  | brk => exact AgS.p
  | cont => exact AgS.p
  | unk => exact AgS.b
theorem step_ss : ∀ (xs : List IS) (r : Env) (k : Kt), AgS c k (stepSs s xs r) (stepSsX sX xs r k)
  | [], r, k => AgS.p
  | x :: xs, r, k => by
    unfold stepSs stepSsX
    obtain ⟨l, e, hw⟩ := step_s Y x r k
    generalize hy : stepSX sX x r k = y at e hw ⊢
    obtain ⟨y1, k1⟩ := y
    have same : ∀ y1, (∀ r, y1 ≠ SRes.nx r) → (Gd c l → y1 = .bad ∨ stepS s x r = y1) → AgS c k (match stepS s x r with | .nx r1 => stepSs s xs r1 | y => y) (y1, k1) := fun y1 n q => ⟨l, e, fun G => by
      rcases q G with z | z
      · exact .inl z
      · right
        rw [z]
        cases y1 <;> first | rfl | exact absurd rfl (n _)⟩
    cases y1 with
    | nx r1 =>
      obtain ⟨l2, e2, h2⟩ := step_ss xs r1 k1
      refine ⟨l2 ++ l, ?_, fun G => ?_⟩
      · show (stepSsX sX xs r1 k1).2.lg = _
        rw [e2, show k1.lg = l ++ k.lg from e, List.append_assoc]
      · rcases hw G.r with z | z
        · cases z
        · rw [z]; exact h2 G.l
    | ex x r1 => exact same _ (fun _ z => nomatch z) hw
    | rt u r1 => exact same _ (fun _ z => nomatch z) hw
    | bk r1 => exact same _ (fun _ z => nomatch z) hw
    | ct r1 => exact same _ (fun _ z => nomatch z) hw
    | bad => exact same _ (fun _ z => nomatch z) hw
theorem step_wh (t : IT) (b : List IS) (r : Env) (k : Kt) : AgS c k (stepWh s t b r) (stepWhX sX t b r k) := by
  refine (Y.T t r k).toS fun x r1 k1 => ?_
  cases x with
  | false => exact AgS.p
  | true =>
    obtain ⟨l, e, hw⟩ := Y.S b r1 k1
    rw [if_pos rfl, if_pos rfl]
    generalize hy : sX.S b r1 k1 = y at e hw ⊢
    obtain ⟨y1, k2⟩ := y
    have go : ∀ r2, (Gd c l → s.S b r1 = .nx r2 ∨ s.S b r1 = .ct r2) → AgS c k1 (match s.S b r1 with | .nx r2 => s.Wh t b r2 | .ct r2 => s.Wh t b r2 | .bk r2 => .nx r2 | x => x) (sX.Wh t b r2 k2) := fun r2 hq => by
      obtain ⟨l2, e2, h2⟩ := Y.Wh t b r2 k2
      refine ⟨l2 ++ l, by rw [e2, show k2.lg = l ++ k1.lg from e, List.append_assoc], fun G => ?_⟩
      rcases hq G.r with z | z <;> (rw [z]; exact h2 G.l)
    cases y1 with
    | nx r1 => exact go r1 fun G => (hw G).elim (fun z => by cases z) .inl
    | ct r1 => exact go r1 fun G => (hw G).elim (fun z => by cases z) .inr
    | bk r1 =>
      refine ⟨l, e, fun G => ?_⟩
      rcases hw G with z | z
      · cases z
      · right; rw [z]
    | rt u r1 =>
      refine ⟨l, e, fun G => ?_⟩
      rcases hw G with z | z
      · cases z
      · right; rw [z]
    | ex u r1 =>
      refine ⟨l, e, fun G => ?_⟩
      rcases hw G with z | z
      · cases z
      · right; rw [z]
    | bad => exact ⟨l, e, fun _ => .inl rfl⟩
end
theorem tr (c : CF) : ∀ n : Nat, Tr c (lvl c n) (lvlX n)
  | 0 => ⟨fun _ _ _ => Ag.b, fun _ _ _ => Ag.b, fun _ _ _ => Ag.b, fun _ _ _ => Ag.b, fun _ _ _ => AgS.b, fun _ _ _ _ => AgS.b⟩
  | n + 1 => ⟨step_e (tr c n), step_v (tr c n), step_t (tr c n), step_u (tr c n), step_ss (tr c n), step_wh (tr c n)⟩
/-- a run by its script -/
theorem runX {c : CF} {n : Nat} {b : List IS} {r : Env} {sc : List It} {x : SRes} {l : List Ob} {sc' : List It} (h : (lvlX n).S b r ⟨sc, []⟩ = (x, ⟨sc', l⟩)) (hb : x ≠ .bad) (g : Gd c l) : (lvl c n).S b r = x := by
  obtain ⟨l2, e, q⟩ := (tr c n).S b r ⟨sc, []⟩
  rw [h] at e q
  have e : l = l2 ++ [] := e
  rw [List.append_nil] at e
  subst e
  rcases q g with z | z
  · exact absurd z hb
  · exact z
end FM


set_option linter.all false
set_option maxRecDepth 100000
set_option maxHeartbeats 4000000
/-! Loops of the evaluator by an invariant, as equations. -/
namespace FM
theorem forL_nx {f : W → Env → SRes} {ws : List W} (I : Nat → Env → Prop) (hs : ∀ k w r, ws[k]? = some w → I k r → ∃ r', f w r = .nx r' ∧ I (k + 1) r') : ∀ (us : List W) (k : Nat) (r : Env), ws.drop k = us → I k r → ∃ r', forL f us r = .nx r' ∧ I (k + us.length) r'
  | [], k, r, _, h => ⟨r, rfl, h⟩
  | u :: us, k, r, e, h => by
    have hk : ws[k]? = some u := by
      have := congrArg (fun l => l[0]?) e
      simpa using this
    have ht : ws.drop (k + 1) = us := by
      have := congrArg List.tail e
      rw [List.tail_drop] at this
      exact this
    obtain ⟨r1, h1, h2⟩ := hs k u r hk h
    obtain ⟨r2, h3, h4⟩ := forL_nx I hs us (k + 1) r1 ht h2
    refine ⟨r2, ?_, ?_⟩
    · unfold forL
      rw [h1]
      exact h3
    · rw [List.length_cons, show k + (us.length + 1) = k + 1 + us.length by omega]
      exact h4
theorem S_nx {c : CF} {n : Nat} {st : IS} {sts : List IS} {r r1 : Env} (h : stepS (lvl c n) st r = .nx r1) : (lvl c (n + 1)).S (st :: sts) r = (lvl c (n + 1)).S sts r1 := by
  show stepSs (lvl c n) (st :: sts) r = stepSs (lvl c n) sts r1
  rw [stepSs, h]
theorem S_single {c : CF} {n : Nat} {st : IS} {r : Env} : (lvl c (n + 1)).S [st] r = stepS (lvl c n) st r := by
  show stepSs (lvl c n) [st] r = _
  rw [stepSs]
  cases stepS (lvl c n) st r <;> rfl
theorem S_end {c : CF} {n : Nat} {r : Env} : (lvl c (n + 1)).S [] r = .nx r := rfl
theorem for_nx {s : SF} {g : IG} {it : II} {body : List IS} {ws : List W} {r r1 : Env} (hI : stepI s it r = .ok ⟨ws, []⟩ r1) (I : Nat → Env → Prop) (h0 : I 0 r1) (hs : ∀ k w r, ws[k]? = some w → I k r → ∃ r2 r3, bindG g w r = some r2 ∧ s.S body r2 = .nx r3 ∧ I (k + 1) r3) : ∃ r', stepS s (.for g it body) r = .nx r' ∧ I ws.length r' := by
  obtain ⟨r', h1, h2⟩ := forL_nx (f := fun w r2 => match bindG g w r2 with
      | some r3 => s.S body r3
      | none => .bad) (ws := ws) I (fun k w r hk h => by
    obtain ⟨r2, r3, e1, e2, e3⟩ := hs k w r hk h
    refine ⟨r3, ?_, e3⟩
    rw [e1]
    exact e2) ws 0 r1 rfl h0
  refine ⟨r', ?_, by rw [Nat.zero_add] at h2; exact h2⟩
  show ((stepI s it r).toS fun k r1 => if k.ks.isEmpty then forL _ k.ws r1 else .bad) = _
  rw [hI]
  exact h1
/-- a call by its body's run -/
theorem call_eq {P : List FD} {d f : Nat} {es : List En} {fd : FD} {x : SRes} {y : CRes} (hf : nth P f = some fd) (hl : Nat.beq es.length fd.ar = true) (h : (lvl (callF P 60 d) 60).S fd.body (es ++ pad (fd.sl - fd.ar)) = x) (hv : x.val es = y) : callF P 60 (d + 1) f es = y := by
  unfold callF
  rw [hf]
  dsimp only
  rw [hl, if_pos rfl, h, hv]
theorem iota_at {lo : Int} : ∀ {n k : Nat} {w : W}, (iota lo n)[k]? = some w → w = .int (lo + k) ∧ k < n
  | 0, k, w, h => by simp [iota] at h
  | n + 1, 0, w, h => by
    simp [iota] at h
    exact ⟨by rw [← h]; simp, Nat.succ_pos n⟩
  | n + 1, k + 1, w, h => by
    have h : (iota (lo + 1) n)[k]? = some w := by simpa [iota] using h
    obtain ⟨h1, h2⟩ := iota_at h
    exact ⟨by rw [h1]; congr 1; omega, Nat.succ_lt_succ h2⟩
end FM


set_option linter.all false
set_option maxRecDepth 100000
set_option maxHeartbeats 4000000
namespace FL
open FM
theorem X_1 {α : Type} {p q : α → Prop} {a : α} (h : p a) (k : q a) : ∃ x, p x ∧ q x := ⟨a, h, k⟩
theorem X_2 {α β : Type} {p q : α → β → Prop} {a : α} {b : β} (h : p a b) (k : q a b) : ∃ x y, p x y ∧ q x y := ⟨a, b, h, k⟩
theorem X_3 {p q : Prop} (h : p) (k : q) : p ∧ q := ⟨h, k⟩
def bPool : List IS := [.asg (.nm 2) (.cst (.int 0)),
    .ifs (.cmp .lt (.s 1) (.e (.blt .len [.s 0]))) [.asg (.nm 2) (.idx (.s 0) (.var 1))] [],
    .asg (.nm 3) (.blt .abs [.s 2]),
    .asg (.nm 4) (.bin .mod (.e (.bin .mul (.e (.bin .add (.e (.bin .add (.e (.bin .mod (.s 3) (.e (.cst (.int 2147483629))))) (.e (.bin .mul (.e (.cst (.int 7919))) (.s 1))))) (.e (.cst (.int 31))))) (.e (.cst (.int 48271))))) (.e (.cst (.int 2147483647)))),
    .ret (.lst [.bin .mul (.s 3) (.e (.blt .int [.e (.cmp .ge (.s 3) (.e (.bin .pow (.e (.cst (.int 10))) (.e (.cst (.int 18))))))])), .var 4])]
def bDraw : List IS := [.ifs (.cmp .gt (.e (.idx (.s 0) (.cst (.int 0)))) (.e (.cst (.int 0)))) [.asg (.nm 2) (.bin .mod (.e (.idx (.s 0) (.cst (.int 0)))) (.s 1)),
    .sub 0 (.cst (.int 0)) (.bin .fdiv (.e (.idx (.s 0) (.cst (.int 0)))) (.s 1)),
    .ret (.d (.var 2))] [],
    .sub 0 (.cst (.int 1)) (.bin .mod (.e (.bin .add (.e (.bin .mul (.e (.idx (.s 0) (.cst (.int 1)))) (.e (.cst (.int 48271))))) (.e (.cst (.int 11))))) (.e (.cst (.int 2147483647)))),
    .ret (.d (.bin .mod (.e (.bin .fdiv (.e (.bin .mod (.e (.bin .mul (.e (.idx (.s 0) (.cst (.int 1)))) (.e (.idx (.s 0) (.cst (.int 1)))))) (.e (.cst (.int 2147483629))))) (.e (.cst (.int 64))))) (.s 1)))]
def bSum (dr : Nat) : List IS := [.own 2 (.ndic),
    .for (.nm 3) (.rng (.bin .mul (.u (.call dr [.r 0, .d (.cst (.int 3))])) (.e (.blt .int [.e (.cmp .ne (.s 1) (.u (.lst [])))])))) [.asg (.nm 4) (.idx (.s 1) (.frz (.call dr [.r 0, .d (.blt .len [.s 1])]))),
    .dsub 2 (.var 4) (.bin .add (.e (.dget 2 (.var 4) (.cst (.int 0)))) (.e (.idx (.u (.lst [.cst (.int 1), .neg (.cst (.int 1)), .cst (.int 2)])) (.frz (.call dr [.r 0, .d (.cst (.int 3))])))))],
    .asg (.nm 5) (.blt .tuple [.u (.comp (.tup [.didx (.s 2) (.var 4), .var 4]) (.nm 4) [4] (.v (.u (.srt (.s 2)))) (some (.cmp .ne (.e (.didx (.s 2) (.var 4))) (.e (.cst (.int 0))))))]),
    .ret (.d (.tup [.cst (.str [115, 117, 109]), .idx (.u (.lst [.cst (.int 0), .cst (.int 1), .neg (.cst (.int 2)), .cst (.int 5)])) (.frz (.call dr [.r 0, .d (.cst (.int 4))])), .var 5]))]
def bDeed (dr su : Nat) : List IS := [.asg (.nm 3) (.frz (.cat (.u (.cat (.s 1) (.s 1))) (.u (.slc (.u (.lst [.cst (.int 0), .cst (.int 1)])) none (some (.bin .add (.e (.cst (.int 1))) (.u (.call dr [.r 0, .d (.cst (.int 2))])))))))),
    .asg (.nm 4) (.tup [.idx (.u (.lst [.cst (.str [97]), .cst (.str [98])])) (.frz (.call dr [.r 0, .d (.cst (.int 2))])), .idx (.s 3) (.frz (.call dr [.r 0, .d (.blt .len [.s 3])]))]),
    .asg (.nm 5) (.idx (.u (.lst [.cst (.str [114, 101, 97, 100]), .cst (.str [114, 101, 97, 100]), .cst (.str [97, 100, 100]), .cst (.str [97, 100, 100]), .cst (.str [112, 117, 116]), .cst (.str [114, 97, 105, 115, 101]), .cst (.str [108, 111, 119, 101, 114])])) (.frz (.call dr [.r 0, .d (.cst (.int 7))]))),
    .ifs (.cmp .eq (.s 5) (.e (.cst (.str [114, 101, 97, 100])))) [.exp (.app 2 (.idx (.u (.lst [.cst (.str [120]), .cst (.str [121])])) (.frz (.call dr [.r 0, .d (.cst (.int 2))])))),
    .ret (.d (.tup [.cst (.str [114, 101, 97, 100]), .var 4, .idx (.s 2) (.neg (.cst (.int 1)))]))] [],
    .ret (.d (.tup [.var 5, .var 4, .frz (.call su [.r 0, .d (.frz (.cat (.s 1) (.s 2)))])]))]
section
variable {P : List FD} {dr : Nat}
/-- a pool -/
def pl (a b : Int) : U := .l [.d (.int a), .d (.int b)]
def POk (a b : Int) : Prop := 0 ≤ a ∧ 0 ≤ b ∧ b < 2147483647
def ZDraw (n : Int) (u : U) (os : List U) : Prop := ∃ k a' b', u = .d (.int k) ∧ os = [pl a' b'] ∧ 0 ≤ k ∧ k < n ∧ POk a' b'
theorem draw_ok (hD : nth P dr = some ⟨2, 3, bDraw⟩) {d : Nat} {a b n : Int} (hp : POk a b) (hn : 0 < n) (hn2 : n < 1000000000000000000) : ∃ u os, callF P 60 (d + 1) dr [.t (pl a b), .m (.d (.int n))] = .ok u os ∧ ZDraw n u os := by
  obtain ⟨ha, hb, hb2⟩ := hp
  refine run_any (Z := ZDraw n) (r0 := [.t (pl a b), .m (.d (.int n)), .no]) hD rfl rfl ?_
  show Sn ((lvl (callF P 60 d) 60).S bDraw _) _
  unfold bDraw pl
  repeat (first | with_reducible refine E_cst ?_ | with_reducible refine V_e ?_ | with_reducible refine V_u ?_ | with_reducible refine A_nil ?_ | with_reducible refine A_cons ?_ | with_reducible refine A_d ?_ | with_reducible refine A_u ?_ | with_reducible refine S_cons ?_ | with_reducible refine S_nil ?_ | with_reducible refine S_ret ?_ | with_reducible refine S_if ?_ | with_reducible refine S_asg ?_ | with_reducible refine S_own ?_ | with_reducible refine T_val ?_ | with_reducible refine T_not ?_ | with_reducible refine T_cmp ?_ | with_reducible refine T_or1 ?_ | with_reducible refine T_or ?_ | with_reducible refine T_and1 ?_ | with_reducible refine T_and ?_ | with_reducible refine T_chn ?_ | with_reducible refine E_idx ?_ | with_reducible refine E_tup ?_ | with_reducible refine E_bin ?_ | with_reducible refine E_cmp ?_ | with_reducible refine E_isi ?_ | with_reducible refine E_blt ?_ | with_reducible refine E_frz ?_ | with_reducible refine E_chn ?_ | with_reducible refine E_and1 ?_ | with_reducible refine E_and ?_ | with_reducible refine E_or1 ?_ | with_reducible refine E_or ?_ | with_reducible refine E_not ?_ | with_reducible refine E_neg ?_ | with_reducible refine E_ite ?_ | with_reducible refine E_didx ?_ | with_reducible refine U_d ?_ | with_reducible refine U_lst ?_ | with_reducible refine U_cat ?_ | with_reducible refine U_slc ?_ | with_reducible refine U_lof ?_ | with_reducible refine U_srt ?_ | with_reducible refine U_comp ?_ | with_reducible refine U_ndic ?_ | with_reducible refine U_dlt ?_ | with_reducible refine U_call ?_ | with_reducible refine O_none ?_ | with_reducible refine O_some ?_ | with_reducible refine I_v ?_ | with_reducible refine I_rng ?_ | with_reducible refine I_zip ?_ | with_reducible refine S_for ?_ | with_reducible refine S_lc ?_ | with_reducible refine S_par ?_ | with_reducible refine S_sub ?_ | with_reducible refine S_dsub ?_ | with_reducible refine S_exp ?_ | with_reducible refine S_rse ?_ | with_reducible refine S_try ?_ | with_reducible refine S_unX ?_ | with_reducible refine S_mat ?_ | with_reducible refine M_nil ?_ | ((with_reducible apply E_var); (first | rfl | decide)) | ((with_reducible apply V_s); (first | rfl | decide)) | ((with_reducible apply A_r); (first | rfl | decide)) | ((with_reducible apply U_mv); (first | rfl | decide)) | ((with_reducible apply E_dget); (first | rfl | decide)) | ((with_reducible apply E_app); (first | rfl | decide)) | ((with_reducible apply R_bin); (first | rfl | decide); (first | rfl | decide)) | ((with_reducible apply R_cmp); (first | rfl | decide); (first | rfl | decide); (first | rfl | decide)) | ((with_reducible apply R_idx); (first | rfl | decide); (first | rfl | decide)) | ((with_reducible apply R_isi); (first | rfl | decide); (first | rfl | decide)) | ((with_reducible apply R_blt); (first | rfl | decide); (first | rfl | decide)) | ((with_reducible apply R_didx); (first | rfl | decide); (first | rfl | decide); (first | rfl | decide)) | ((with_reducible apply R_cat); (first | rfl | decide); (first | rfl | decide); (first | rfl | decide); (first | rfl | decide)) | ((with_reducible apply R_slcU); (first | rfl | decide); (first | rfl | decide)) | ((with_reducible apply R_srt); (first | rfl | decide); (first | rfl | decide)) | ((with_reducible apply R_lof); (first | rfl | decide); (first | rfl | decide)) | ((with_reducible apply R_add)) | ((with_reducible apply R_subI)) | ((with_reducible apply R_sub); (first | rfl | decide); (first | rfl | decide); (first | rfl | decide); (first | rfl | decide)) | ((with_reducible apply R_dput); (first | rfl | decide); (first | rfl | decide); (first | rfl | decide); (first | rfl | decide)) | ((with_reducible apply R_dgt); (first | rfl | decide)) | ((with_reducible apply R_app); (first | rfl | decide); (first | rfl | decide); (first | rfl | decide)) | ((with_reducible apply R_wlk); (first | rfl | decide)) | ((with_reducible apply R_zip); (first | rfl | decide)) | ((with_reducible apply E_xfl); (first | rfl | decide)) | ((with_reducible apply E_xis); (first | rfl | decide); (first | rfl | decide)) | ((with_reducible apply M_yes); (first | rfl | decide)) | ((with_reducible apply M_no); (first | rfl | decide)) | ((with_reducible apply S_hnd); (first | rfl | decide); (first | rfl | decide); (first | rfl | decide)) | ((with_reducible apply X_1); rfl) | ((with_reducible apply X_2); rfl) | ((with_reducible apply X_3); rfl) | ((with_reducible refine R_mod ?_ ?_); omega) | ((with_reducible refine R_div ?_ ?_); omega) | ((with_reducible refine R_mul ?_ ?_); (first | (left; omega) | (right; omega))) | ((with_reducible apply R_pow); rfl) | ((with_reducible apply C_nil); rfl; rfl) | (with_reducible refine F_nil ?_) | ((with_reducible apply C_turn); rfl; rfl) | ((with_reducible apply F_cons); rfl) | with_reducible refine C_e ?_ | with_reducible refine C_t ?_)
  by_cases ha0 : 0 < a
  · refine iteY (decide_eq_true ha0) ?_
    repeat (first | ((with_reducible refine R_div ?_ ?_); exact ⟨hn, hn2⟩) | with_reducible refine E_cst ?_ | with_reducible refine V_e ?_ | with_reducible refine V_u ?_ | with_reducible refine A_nil ?_ | with_reducible refine A_cons ?_ | with_reducible refine A_d ?_ | with_reducible refine A_u ?_ | with_reducible refine S_cons ?_ | with_reducible refine S_nil ?_ | with_reducible refine S_ret ?_ | with_reducible refine S_if ?_ | with_reducible refine S_asg ?_ | with_reducible refine S_own ?_ | with_reducible refine T_val ?_ | with_reducible refine T_not ?_ | with_reducible refine T_cmp ?_ | with_reducible refine T_or1 ?_ | with_reducible refine T_or ?_ | with_reducible refine T_and1 ?_ | with_reducible refine T_and ?_ | with_reducible refine T_chn ?_ | with_reducible refine E_idx ?_ | with_reducible refine E_tup ?_ | with_reducible refine E_bin ?_ | with_reducible refine E_cmp ?_ | with_reducible refine E_isi ?_ | with_reducible refine E_blt ?_ | with_reducible refine E_frz ?_ | with_reducible refine E_chn ?_ | with_reducible refine E_and1 ?_ | with_reducible refine E_and ?_ | with_reducible refine E_or1 ?_ | with_reducible refine E_or ?_ | with_reducible refine E_not ?_ | with_reducible refine E_neg ?_ | with_reducible refine E_ite ?_ | with_reducible refine E_didx ?_ | with_reducible refine U_d ?_ | with_reducible refine U_lst ?_ | with_reducible refine U_cat ?_ | with_reducible refine U_slc ?_ | with_reducible refine U_lof ?_ | with_reducible refine U_srt ?_ | with_reducible refine U_comp ?_ | with_reducible refine U_ndic ?_ | with_reducible refine U_dlt ?_ | with_reducible refine U_call ?_ | with_reducible refine O_none ?_ | with_reducible refine O_some ?_ | with_reducible refine I_v ?_ | with_reducible refine I_rng ?_ | with_reducible refine I_zip ?_ | with_reducible refine S_for ?_ | with_reducible refine S_lc ?_ | with_reducible refine S_par ?_ | with_reducible refine S_sub ?_ | with_reducible refine S_dsub ?_ | with_reducible refine S_exp ?_ | with_reducible refine S_rse ?_ | with_reducible refine S_try ?_ | with_reducible refine S_unX ?_ | with_reducible refine S_mat ?_ | with_reducible refine M_nil ?_ | ((with_reducible apply E_var); (first | rfl | decide)) | ((with_reducible apply V_s); (first | rfl | decide)) | ((with_reducible apply A_r); (first | rfl | decide)) | ((with_reducible apply U_mv); (first | rfl | decide)) | ((with_reducible apply E_dget); (first | rfl | decide)) | ((with_reducible apply E_app); (first | rfl | decide)) | ((with_reducible apply R_bin); (first | rfl | decide); (first | rfl | decide)) | ((with_reducible apply R_cmp); (first | rfl | decide); (first | rfl | decide); (first | rfl | decide)) | ((with_reducible apply R_idx); (first | rfl | decide); (first | rfl | decide)) | ((with_reducible apply R_isi); (first | rfl | decide); (first | rfl | decide)) | ((with_reducible apply R_blt); (first | rfl | decide); (first | rfl | decide)) | ((with_reducible apply R_didx); (first | rfl | decide); (first | rfl | decide); (first | rfl | decide)) | ((with_reducible apply R_cat); (first | rfl | decide); (first | rfl | decide); (first | rfl | decide); (first | rfl | decide)) | ((with_reducible apply R_slcU); (first | rfl | decide); (first | rfl | decide)) | ((with_reducible apply R_srt); (first | rfl | decide); (first | rfl | decide)) | ((with_reducible apply R_lof); (first | rfl | decide); (first | rfl | decide)) | ((with_reducible apply R_add)) | ((with_reducible apply R_subI)) | ((with_reducible apply R_sub); (first | rfl | decide); (first | rfl | decide); (first | rfl | decide); (first | rfl | decide)) | ((with_reducible apply R_dput); (first | rfl | decide); (first | rfl | decide); (first | rfl | decide); (first | rfl | decide)) | ((with_reducible apply R_dgt); (first | rfl | decide)) | ((with_reducible apply R_app); (first | rfl | decide); (first | rfl | decide); (first | rfl | decide)) | ((with_reducible apply R_wlk); (first | rfl | decide)) | ((with_reducible apply R_zip); (first | rfl | decide)) | ((with_reducible apply E_xfl); (first | rfl | decide)) | ((with_reducible apply E_xis); (first | rfl | decide); (first | rfl | decide)) | ((with_reducible apply M_yes); (first | rfl | decide)) | ((with_reducible apply M_no); (first | rfl | decide)) | ((with_reducible apply S_hnd); (first | rfl | decide); (first | rfl | decide); (first | rfl | decide)) | ((with_reducible apply X_1); rfl) | ((with_reducible apply X_2); rfl) | ((with_reducible apply X_3); rfl) | ((with_reducible refine R_mod ?_ ?_); omega) | ((with_reducible refine R_div ?_ ?_); omega) | ((with_reducible refine R_mul ?_ ?_); (first | (left; omega) | (right; omega))) | ((with_reducible apply R_pow); rfl) | ((with_reducible apply C_nil); rfl; rfl) | (with_reducible refine F_nil ?_) | ((with_reducible apply C_turn); rfl; rfl) | ((with_reducible apply F_cons); rfl) | with_reducible refine C_e ?_ | with_reducible refine C_t ?_)
    exact ⟨_, _, _, rfl, rfl, Int.emod_nonneg _ (by omega), Int.emod_lt_of_pos _ hn, Int.ediv_nonneg ha (by omega), hb, hb2⟩
  · refine iteN (fun h => ha0 (of_decide_eq_true h)) ?_
    have hn0 : (b * 48271 + 11) % 2147483647 < 2147483647 := Int.emod_lt_of_pos _ (by decide)
    have hn1 : 0 ≤ (b * 48271 + 11) % 2147483647 := Int.emod_nonneg _ (by decide)
    repeat (first | with_reducible refine E_cst ?_ | with_reducible refine V_e ?_ | with_reducible refine V_u ?_ | with_reducible refine A_nil ?_ | with_reducible refine A_cons ?_ | with_reducible refine A_d ?_ | with_reducible refine A_u ?_ | with_reducible refine S_cons ?_ | with_reducible refine S_nil ?_ | with_reducible refine S_ret ?_ | with_reducible refine S_if ?_ | with_reducible refine S_asg ?_ | with_reducible refine S_own ?_ | with_reducible refine T_val ?_ | with_reducible refine T_not ?_ | with_reducible refine T_cmp ?_ | with_reducible refine T_or1 ?_ | with_reducible refine T_or ?_ | with_reducible refine T_and1 ?_ | with_reducible refine T_and ?_ | with_reducible refine T_chn ?_ | with_reducible refine E_idx ?_ | with_reducible refine E_tup ?_ | with_reducible refine E_bin ?_ | with_reducible refine E_cmp ?_ | with_reducible refine E_isi ?_ | with_reducible refine E_blt ?_ | with_reducible refine E_frz ?_ | with_reducible refine E_chn ?_ | with_reducible refine E_and1 ?_ | with_reducible refine E_and ?_ | with_reducible refine E_or1 ?_ | with_reducible refine E_or ?_ | with_reducible refine E_not ?_ | with_reducible refine E_neg ?_ | with_reducible refine E_ite ?_ | with_reducible refine E_didx ?_ | with_reducible refine U_d ?_ | with_reducible refine U_lst ?_ | with_reducible refine U_cat ?_ | with_reducible refine U_slc ?_ | with_reducible refine U_lof ?_ | with_reducible refine U_srt ?_ | with_reducible refine U_comp ?_ | with_reducible refine U_ndic ?_ | with_reducible refine U_dlt ?_ | with_reducible refine U_call ?_ | with_reducible refine O_none ?_ | with_reducible refine O_some ?_ | with_reducible refine I_v ?_ | with_reducible refine I_rng ?_ | with_reducible refine I_zip ?_ | with_reducible refine S_for ?_ | with_reducible refine S_lc ?_ | with_reducible refine S_par ?_ | with_reducible refine S_sub ?_ | with_reducible refine S_dsub ?_ | with_reducible refine S_exp ?_ | with_reducible refine S_rse ?_ | with_reducible refine S_try ?_ | with_reducible refine S_unX ?_ | with_reducible refine S_mat ?_ | with_reducible refine M_nil ?_ | ((with_reducible apply E_var); (first | rfl | decide)) | ((with_reducible apply V_s); (first | rfl | decide)) | ((with_reducible apply A_r); (first | rfl | decide)) | ((with_reducible apply U_mv); (first | rfl | decide)) | ((with_reducible apply E_dget); (first | rfl | decide)) | ((with_reducible apply E_app); (first | rfl | decide)) | ((with_reducible apply R_bin); (first | rfl | decide); (first | rfl | decide)) | ((with_reducible apply R_cmp); (first | rfl | decide); (first | rfl | decide); (first | rfl | decide)) | ((with_reducible apply R_idx); (first | rfl | decide); (first | rfl | decide)) | ((with_reducible apply R_isi); (first | rfl | decide); (first | rfl | decide)) | ((with_reducible apply R_blt); (first | rfl | decide); (first | rfl | decide)) | ((with_reducible apply R_didx); (first | rfl | decide); (first | rfl | decide); (first | rfl | decide)) | ((with_reducible apply R_cat); (first | rfl | decide); (first | rfl | decide); (first | rfl | decide); (first | rfl | decide)) | ((with_reducible apply R_slcU); (first | rfl | decide); (first | rfl | decide)) | ((with_reducible apply R_srt); (first | rfl | decide); (first | rfl | decide)) | ((with_reducible apply R_lof); (first | rfl | decide); (first | rfl | decide)) | ((with_reducible apply R_add)) | ((with_reducible apply R_subI)) | ((with_reducible apply R_sub); (first | rfl | decide); (first | rfl | decide); (first | rfl | decide); (first | rfl | decide)) | ((with_reducible apply R_dput); (first | rfl | decide); (first | rfl | decide); (first | rfl | decide); (first | rfl | decide)) | ((with_reducible apply R_dgt); (first | rfl | decide)) | ((with_reducible apply R_app); (first | rfl | decide); (first | rfl | decide); (first | rfl | decide)) | ((with_reducible apply R_wlk); (first | rfl | decide)) | ((with_reducible apply R_zip); (first | rfl | decide)) | ((with_reducible apply E_xfl); (first | rfl | decide)) | ((with_reducible apply E_xis); (first | rfl | decide); (first | rfl | decide)) | ((with_reducible apply M_yes); (first | rfl | decide)) | ((with_reducible apply M_no); (first | rfl | decide)) | ((with_reducible apply S_hnd); (first | rfl | decide); (first | rfl | decide); (first | rfl | decide)) | ((with_reducible apply X_1); rfl) | ((with_reducible apply X_2); rfl) | ((with_reducible apply X_3); rfl) | ((with_reducible refine R_mod ?_ ?_); omega) | ((with_reducible refine R_div ?_ ?_); omega) | ((with_reducible refine R_mul ?_ ?_); (first | (left; omega) | (right; omega))) | ((with_reducible apply R_pow); rfl) | ((with_reducible apply C_nil); rfl; rfl) | (with_reducible refine F_nil ?_) | ((with_reducible apply C_turn); rfl; rfl) | ((with_reducible apply F_cons); rfl) | with_reducible refine C_e ?_ | with_reducible refine C_t ?_)
    exact ⟨_, _, _, rfl, rfl, Int.emod_nonneg _ (by omega), Int.emod_lt_of_pos _ hn, ha, hn1, hn0⟩
/-- a draw within a run -/
theorem R_draw (hD : nth P dr = some ⟨2, 3, bDraw⟩) {d i : Nat} {a b n : Int} {r : Env} {r' : Int → Int → Env} {Q : U → Env → Prop} {X : Xn → Env → Prop} (hl : lookU r i = some (pl a b)) (hp : POk a b) (hn : 0 < n) (hn2 : n < 1000000000000000000) (hr : ∀ a' b', putV r i (pl a' b') = some (r' a' b'))
    (q : ∀ k a' b', 0 ≤ k → k < n → POk a' b' → Q (.d (.int k)) (r' a' b')) : Rn (runC (callF P 60 (d + 1)) dr [.r i, .d (.int n)] r) Q X := by
  obtain ⟨u, os, h, k, a', b', rfl, rfl, h1, h2, h3⟩ := draw_ok hD (d := d) hp hn hn2
  refine R_call (es := [.t (pl a b), .m (.d (.int n))]) (is := [i]) ?_ h (r1 := r' a' b') ?_ (q k a' b' h1 h2 h3)
  · show ((lookU r i).bind fun u => (args r [.d (.int n)]).bind fun q => if q.2.any (Nat.beq i) then none else some (.t u :: q.1, i :: q.2)) = _
    rw [hl]
    rfl
  · show ((putV r i (pl a' b')).bind fun r1 => puts r1 [] []) = _
    rw [hr]
    rfl
theorem nth_map {ns : List Int} {k : Int} (h0 : 0 ≤ k) (h1 : k < ns.length) : ∃ i, idxW (.scr (ns.map W.int)) (.int k) = some (.int i) := by
  obtain ⟨j, rfl⟩ := Int.eq_ofNat_of_zero_le h0
  have hj : j < ns.length := by omega
  have e1 : ix (ns.map W.int).length (j : Int) = some j := by
    show (if Nat.blt j (ns.map W.int).length then some j else none) = _
    rw [List.length_map, Nat.blt_eq.mpr hj]; rfl
  have : ∀ (l : List Int) (j : Nat), j < l.length → ∃ i, nth (l.map W.int) j = some (.int i) := by
    intro l
    induction l with
    | nil => intro j hj; exact absurd hj (Nat.not_lt_zero _)
    | cons a l ih =>
      intro j hj
      cases j with
      | zero => exact ⟨a, rfl⟩
      | succ j => exact ih j (Nat.lt_of_succ_lt_succ hj)
  obtain ⟨i, hi⟩ := this ns j hj
  refine ⟨i, ?_⟩
  show ((ix (ns.map W.int).length (j : Int)).bind fun j => nth (ns.map W.int) j) = _
  rw [e1]
  exact hi
theorem ite_small (b : Bool) : (if b = true then (1 : Int) else 0).natAbs < 18446744073709551616 := by cases b <;> decide
theorem pool_end {i k : Int} {b : Bool} : POk ((if i < 0 then -i else i) * (if b = true then 1 else 0)) (((if i < 0 then -i else i) % 2147483629 + 7919 * k + 31) * 48271 % 2147483647) := by
  refine ⟨Int.mul_nonneg (by split <;> omega) (by cases b <;> decide), Int.emod_nonneg _ (by decide), Int.emod_lt_of_pos _ (by decide)⟩
def ZPool (u : U) (os : List U) : Prop := ∃ a b, u = pl a b ∧ os = [] ∧ POk a b
theorem pool_ok (hP : nth P dr = some ⟨2, 5, bPool⟩) {d : Nat} {ns : List Int} {k : Int} (h0 : 0 ≤ k) (h1 : k < 100) : ∃ u os, callF P 60 (d + 1) dr [.m (.d (.scr (ns.map W.int))), .m (.d (.int k))] = .ok u os ∧ ZPool u os := by
  refine run_any (Z := ZPool) (r0 := [.m (.d (.scr (ns.map W.int))), .m (.d (.int k)), .no, .no, .no]) hP rfl rfl ?_
  show Sn ((lvl (callF P 60 d) 60).S bPool _) _
  unfold bPool
  repeat (first | with_reducible refine E_cst ?_ | with_reducible refine V_e ?_ | with_reducible refine V_u ?_ | with_reducible refine A_nil ?_ | with_reducible refine A_cons ?_ | with_reducible refine A_d ?_ | with_reducible refine A_u ?_ | with_reducible refine S_cons ?_ | with_reducible refine S_nil ?_ | with_reducible refine S_ret ?_ | with_reducible refine S_if ?_ | with_reducible refine S_asg ?_ | with_reducible refine S_own ?_ | with_reducible refine T_val ?_ | with_reducible refine T_not ?_ | with_reducible refine T_cmp ?_ | with_reducible refine T_or1 ?_ | with_reducible refine T_or ?_ | with_reducible refine T_and1 ?_ | with_reducible refine T_and ?_ | with_reducible refine T_chn ?_ | with_reducible refine E_idx ?_ | with_reducible refine E_tup ?_ | with_reducible refine E_bin ?_ | with_reducible refine E_cmp ?_ | with_reducible refine E_isi ?_ | with_reducible refine E_blt ?_ | with_reducible refine E_frz ?_ | with_reducible refine E_chn ?_ | with_reducible refine E_and1 ?_ | with_reducible refine E_and ?_ | with_reducible refine E_or1 ?_ | with_reducible refine E_or ?_ | with_reducible refine E_not ?_ | with_reducible refine E_neg ?_ | with_reducible refine E_ite ?_ | with_reducible refine E_didx ?_ | with_reducible refine U_d ?_ | with_reducible refine U_lst ?_ | with_reducible refine U_cat ?_ | with_reducible refine U_slc ?_ | with_reducible refine U_lof ?_ | with_reducible refine U_srt ?_ | with_reducible refine U_comp ?_ | with_reducible refine U_ndic ?_ | with_reducible refine U_dlt ?_ | with_reducible refine U_call ?_ | with_reducible refine O_none ?_ | with_reducible refine O_some ?_ | with_reducible refine I_v ?_ | with_reducible refine I_rng ?_ | with_reducible refine I_zip ?_ | with_reducible refine S_for ?_ | with_reducible refine S_lc ?_ | with_reducible refine S_par ?_ | with_reducible refine S_sub ?_ | with_reducible refine S_dsub ?_ | with_reducible refine S_exp ?_ | with_reducible refine S_rse ?_ | with_reducible refine S_try ?_ | with_reducible refine S_unX ?_ | with_reducible refine S_mat ?_ | with_reducible refine M_nil ?_ | ((with_reducible apply E_var); (first | rfl | decide)) | ((with_reducible apply V_s); (first | rfl | decide)) | ((with_reducible apply A_r); (first | rfl | decide)) | ((with_reducible apply U_mv); (first | rfl | decide)) | ((with_reducible apply E_dget); (first | rfl | decide)) | ((with_reducible apply E_app); (first | rfl | decide)) | ((with_reducible apply R_bin); (first | rfl | decide); (first | rfl | decide)) | ((with_reducible apply R_cmp); (first | rfl | decide); (first | rfl | decide); (first | rfl | decide)) | ((with_reducible apply R_idx); (first | rfl | decide); (first | rfl | decide)) | ((with_reducible apply R_isi); (first | rfl | decide); (first | rfl | decide)) | ((with_reducible apply R_blt); (first | rfl | decide); (first | rfl | decide)) | ((with_reducible apply R_didx); (first | rfl | decide); (first | rfl | decide); (first | rfl | decide)) | ((with_reducible apply R_cat); (first | rfl | decide); (first | rfl | decide); (first | rfl | decide); (first | rfl | decide)) | ((with_reducible apply R_slcU); (first | rfl | decide); (first | rfl | decide)) | ((with_reducible apply R_srt); (first | rfl | decide); (first | rfl | decide)) | ((with_reducible apply R_lof); (first | rfl | decide); (first | rfl | decide)) | ((with_reducible apply R_add)) | ((with_reducible apply R_subI)) | ((with_reducible apply R_sub); (first | rfl | decide); (first | rfl | decide); (first | rfl | decide); (first | rfl | decide)) | ((with_reducible apply R_dput); (first | rfl | decide); (first | rfl | decide); (first | rfl | decide); (first | rfl | decide)) | ((with_reducible apply R_dgt); (first | rfl | decide)) | ((with_reducible apply R_app); (first | rfl | decide); (first | rfl | decide); (first | rfl | decide)) | ((with_reducible apply R_wlk); (first | rfl | decide)) | ((with_reducible apply R_zip); (first | rfl | decide)) | ((with_reducible apply E_xfl); (first | rfl | decide)) | ((with_reducible apply E_xis); (first | rfl | decide); (first | rfl | decide)) | ((with_reducible apply M_yes); (first | rfl | decide)) | ((with_reducible apply M_no); (first | rfl | decide)) | ((with_reducible apply S_hnd); (first | rfl | decide); (first | rfl | decide); (first | rfl | decide)) | ((with_reducible apply X_1); rfl) | ((with_reducible apply X_2); rfl) | ((with_reducible apply X_3); rfl) | ((with_reducible refine R_mod ?_ ?_); omega) | ((with_reducible refine R_div ?_ ?_); omega) | ((with_reducible refine R_mul ?_ ?_); (first | (left; omega) | (right; omega))) | ((with_reducible apply R_pow); rfl) | ((with_reducible apply C_nil); rfl; rfl) | (with_reducible refine F_nil ?_) | ((with_reducible apply C_turn); rfl; rfl) | ((with_reducible apply F_cons); rfl) | with_reducible refine C_e ?_ | with_reducible refine C_t ?_)
  by_cases hk : k < ns.length
  · obtain ⟨i, hi⟩ := nth_map h0 hk
    refine iteY (decide_eq_true (by rw [List.length_map]; exact hk)) ?_
    repeat (first | ((with_reducible apply R_idx); rfl; exact hi) | ((with_reducible refine R_mul ?_ ?_); exact .inr (ite_small _)) | with_reducible refine E_cst ?_ | with_reducible refine V_e ?_ | with_reducible refine V_u ?_ | with_reducible refine A_nil ?_ | with_reducible refine A_cons ?_ | with_reducible refine A_d ?_ | with_reducible refine A_u ?_ | with_reducible refine S_cons ?_ | with_reducible refine S_nil ?_ | with_reducible refine S_ret ?_ | with_reducible refine S_if ?_ | with_reducible refine S_asg ?_ | with_reducible refine S_own ?_ | with_reducible refine T_val ?_ | with_reducible refine T_not ?_ | with_reducible refine T_cmp ?_ | with_reducible refine T_or1 ?_ | with_reducible refine T_or ?_ | with_reducible refine T_and1 ?_ | with_reducible refine T_and ?_ | with_reducible refine T_chn ?_ | with_reducible refine E_idx ?_ | with_reducible refine E_tup ?_ | with_reducible refine E_bin ?_ | with_reducible refine E_cmp ?_ | with_reducible refine E_isi ?_ | with_reducible refine E_blt ?_ | with_reducible refine E_frz ?_ | with_reducible refine E_chn ?_ | with_reducible refine E_and1 ?_ | with_reducible refine E_and ?_ | with_reducible refine E_or1 ?_ | with_reducible refine E_or ?_ | with_reducible refine E_not ?_ | with_reducible refine E_neg ?_ | with_reducible refine E_ite ?_ | with_reducible refine E_didx ?_ | with_reducible refine U_d ?_ | with_reducible refine U_lst ?_ | with_reducible refine U_cat ?_ | with_reducible refine U_slc ?_ | with_reducible refine U_lof ?_ | with_reducible refine U_srt ?_ | with_reducible refine U_comp ?_ | with_reducible refine U_ndic ?_ | with_reducible refine U_dlt ?_ | with_reducible refine U_call ?_ | with_reducible refine O_none ?_ | with_reducible refine O_some ?_ | with_reducible refine I_v ?_ | with_reducible refine I_rng ?_ | with_reducible refine I_zip ?_ | with_reducible refine S_for ?_ | with_reducible refine S_lc ?_ | with_reducible refine S_par ?_ | with_reducible refine S_sub ?_ | with_reducible refine S_dsub ?_ | with_reducible refine S_exp ?_ | with_reducible refine S_rse ?_ | with_reducible refine S_try ?_ | with_reducible refine S_unX ?_ | with_reducible refine S_mat ?_ | with_reducible refine M_nil ?_ | ((with_reducible apply E_var); (first | rfl | decide)) | ((with_reducible apply V_s); (first | rfl | decide)) | ((with_reducible apply A_r); (first | rfl | decide)) | ((with_reducible apply U_mv); (first | rfl | decide)) | ((with_reducible apply E_dget); (first | rfl | decide)) | ((with_reducible apply E_app); (first | rfl | decide)) | ((with_reducible apply R_bin); (first | rfl | decide); (first | rfl | decide)) | ((with_reducible apply R_cmp); (first | rfl | decide); (first | rfl | decide); (first | rfl | decide)) | ((with_reducible apply R_idx); (first | rfl | decide); (first | rfl | decide)) | ((with_reducible apply R_isi); (first | rfl | decide); (first | rfl | decide)) | ((with_reducible apply R_blt); (first | rfl | decide); (first | rfl | decide)) | ((with_reducible apply R_didx); (first | rfl | decide); (first | rfl | decide); (first | rfl | decide)) | ((with_reducible apply R_cat); (first | rfl | decide); (first | rfl | decide); (first | rfl | decide); (first | rfl | decide)) | ((with_reducible apply R_slcU); (first | rfl | decide); (first | rfl | decide)) | ((with_reducible apply R_srt); (first | rfl | decide); (first | rfl | decide)) | ((with_reducible apply R_lof); (first | rfl | decide); (first | rfl | decide)) | ((with_reducible apply R_add)) | ((with_reducible apply R_subI)) | ((with_reducible apply R_sub); (first | rfl | decide); (first | rfl | decide); (first | rfl | decide); (first | rfl | decide)) | ((with_reducible apply R_dput); (first | rfl | decide); (first | rfl | decide); (first | rfl | decide); (first | rfl | decide)) | ((with_reducible apply R_dgt); (first | rfl | decide)) | ((with_reducible apply R_app); (first | rfl | decide); (first | rfl | decide); (first | rfl | decide)) | ((with_reducible apply R_wlk); (first | rfl | decide)) | ((with_reducible apply R_zip); (first | rfl | decide)) | ((with_reducible apply E_xfl); (first | rfl | decide)) | ((with_reducible apply E_xis); (first | rfl | decide); (first | rfl | decide)) | ((with_reducible apply M_yes); (first | rfl | decide)) | ((with_reducible apply M_no); (first | rfl | decide)) | ((with_reducible apply S_hnd); (first | rfl | decide); (first | rfl | decide); (first | rfl | decide)) | ((with_reducible apply iteY); (first | rfl | decide)) | ((with_reducible apply iteF); (first | rfl | decide)) | ((with_reducible apply iteN); (first | rfl | decide)) | ((with_reducible apply X_1); rfl) | ((with_reducible apply X_2); rfl) | ((with_reducible apply X_3); rfl) | ((with_reducible refine R_mod ?_ ?_); omega) | ((with_reducible refine R_div ?_ ?_); omega) | ((with_reducible refine R_mul ?_ ?_); (first | (left; omega) | (right; omega))) | ((with_reducible apply R_pow); rfl) | ((with_reducible apply C_nil); rfl; rfl) | (with_reducible refine F_nil ?_) | ((with_reducible apply C_turn); rfl; rfl) | ((with_reducible apply F_cons); rfl) | with_reducible refine C_e ?_ | with_reducible refine C_t ?_)
    exact ⟨_, _, rfl, rfl, pool_end⟩
  · refine iteN (fun h => hk (by have := of_decide_eq_true h; rw [List.length_map] at this; exact this)) ?_
    repeat (first | ((with_reducible refine R_mul ?_ ?_); exact .inr (ite_small _)) | with_reducible refine E_cst ?_ | with_reducible refine V_e ?_ | with_reducible refine V_u ?_ | with_reducible refine A_nil ?_ | with_reducible refine A_cons ?_ | with_reducible refine A_d ?_ | with_reducible refine A_u ?_ | with_reducible refine S_cons ?_ | with_reducible refine S_nil ?_ | with_reducible refine S_ret ?_ | with_reducible refine S_if ?_ | with_reducible refine S_asg ?_ | with_reducible refine S_own ?_ | with_reducible refine T_val ?_ | with_reducible refine T_not ?_ | with_reducible refine T_cmp ?_ | with_reducible refine T_or1 ?_ | with_reducible refine T_or ?_ | with_reducible refine T_and1 ?_ | with_reducible refine T_and ?_ | with_reducible refine T_chn ?_ | with_reducible refine E_idx ?_ | with_reducible refine E_tup ?_ | with_reducible refine E_bin ?_ | with_reducible refine E_cmp ?_ | with_reducible refine E_isi ?_ | with_reducible refine E_blt ?_ | with_reducible refine E_frz ?_ | with_reducible refine E_chn ?_ | with_reducible refine E_and1 ?_ | with_reducible refine E_and ?_ | with_reducible refine E_or1 ?_ | with_reducible refine E_or ?_ | with_reducible refine E_not ?_ | with_reducible refine E_neg ?_ | with_reducible refine E_ite ?_ | with_reducible refine E_didx ?_ | with_reducible refine U_d ?_ | with_reducible refine U_lst ?_ | with_reducible refine U_cat ?_ | with_reducible refine U_slc ?_ | with_reducible refine U_lof ?_ | with_reducible refine U_srt ?_ | with_reducible refine U_comp ?_ | with_reducible refine U_ndic ?_ | with_reducible refine U_dlt ?_ | with_reducible refine U_call ?_ | with_reducible refine O_none ?_ | with_reducible refine O_some ?_ | with_reducible refine I_v ?_ | with_reducible refine I_rng ?_ | with_reducible refine I_zip ?_ | with_reducible refine S_for ?_ | with_reducible refine S_lc ?_ | with_reducible refine S_par ?_ | with_reducible refine S_sub ?_ | with_reducible refine S_dsub ?_ | with_reducible refine S_exp ?_ | with_reducible refine S_rse ?_ | with_reducible refine S_try ?_ | with_reducible refine S_unX ?_ | with_reducible refine S_mat ?_ | with_reducible refine M_nil ?_ | ((with_reducible apply E_var); (first | rfl | decide)) | ((with_reducible apply V_s); (first | rfl | decide)) | ((with_reducible apply A_r); (first | rfl | decide)) | ((with_reducible apply U_mv); (first | rfl | decide)) | ((with_reducible apply E_dget); (first | rfl | decide)) | ((with_reducible apply E_app); (first | rfl | decide)) | ((with_reducible apply R_bin); (first | rfl | decide); (first | rfl | decide)) | ((with_reducible apply R_cmp); (first | rfl | decide); (first | rfl | decide); (first | rfl | decide)) | ((with_reducible apply R_idx); (first | rfl | decide); (first | rfl | decide)) | ((with_reducible apply R_isi); (first | rfl | decide); (first | rfl | decide)) | ((with_reducible apply R_blt); (first | rfl | decide); (first | rfl | decide)) | ((with_reducible apply R_didx); (first | rfl | decide); (first | rfl | decide); (first | rfl | decide)) | ((with_reducible apply R_cat); (first | rfl | decide); (first | rfl | decide); (first | rfl | decide); (first | rfl | decide)) | ((with_reducible apply R_slcU); (first | rfl | decide); (first | rfl | decide)) | ((with_reducible apply R_srt); (first | rfl | decide); (first | rfl | decide)) | ((with_reducible apply R_lof); (first | rfl | decide); (first | rfl | decide)) | ((with_reducible apply R_add)) | ((with_reducible apply R_subI)) | ((with_reducible apply R_sub); (first | rfl | decide); (first | rfl | decide); (first | rfl | decide); (first | rfl | decide)) | ((with_reducible apply R_dput); (first | rfl | decide); (first | rfl | decide); (first | rfl | decide); (first | rfl | decide)) | ((with_reducible apply R_dgt); (first | rfl | decide)) | ((with_reducible apply R_app); (first | rfl | decide); (first | rfl | decide); (first | rfl | decide)) | ((with_reducible apply R_wlk); (first | rfl | decide)) | ((with_reducible apply R_zip); (first | rfl | decide)) | ((with_reducible apply E_xfl); (first | rfl | decide)) | ((with_reducible apply E_xis); (first | rfl | decide); (first | rfl | decide)) | ((with_reducible apply M_yes); (first | rfl | decide)) | ((with_reducible apply M_no); (first | rfl | decide)) | ((with_reducible apply S_hnd); (first | rfl | decide); (first | rfl | decide); (first | rfl | decide)) | ((with_reducible apply iteY); (first | rfl | decide)) | ((with_reducible apply iteF); (first | rfl | decide)) | ((with_reducible apply iteN); (first | rfl | decide)) | ((with_reducible apply X_1); rfl) | ((with_reducible apply X_2); rfl) | ((with_reducible apply X_3); rfl) | ((with_reducible refine R_mod ?_ ?_); omega) | ((with_reducible refine R_div ?_ ?_); omega) | ((with_reducible refine R_mul ?_ ?_); (first | (left; omega) | (right; omega))) | ((with_reducible apply R_pow); rfl) | ((with_reducible apply C_nil); rfl; rfl) | (with_reducible refine F_nil ?_) | ((with_reducible apply C_turn); rfl; rfl) | ((with_reducible apply F_cons); rfl) | with_reducible refine C_e ?_ | with_reducible refine C_t ?_)
    exact ⟨_, _, rfl, rfl, pool_end⟩
end
end FL


set_option linter.all false
set_option maxRecDepth 100000
set_option maxHeartbeats 4000000
namespace FL
open FM
section
variable {P : List FD} {dr su : Nat}
/-- the names of parameters and of what is read; those in their order -/
def NM : List (List Nat) := [[112], [113], [120], [121]]
def PR : List (List Nat × List Nat) := [([112], [113]), ([112], [120]), ([112], [121]), ([113], [120]), ([113], [121]), ([120], [121])]
theorem NM_pr {n m : List Nat} (h1 : n ∈ NM) (h2 : m ∈ NM) (ne : n ≠ m) : (n, m) ∈ PR ∨ (m, n) ∈ PR := by
  simp only [NM, List.mem_cons, List.not_mem_nil, or_false] at h1 h2
  rcases h1 with rfl | rfl | rfl | rfl <;> rcases h2 with rfl | rfl | rfl | rfl <;> first | exact absurd rfl ne | simp [PR]
theorem PR_lt {n m : List Nat} (h : (n, m) ∈ PR) : ltS n m = true ∧ ltS m n = false ∧ eqS n m = false ∧ eqS m n = false ∧ n ∈ NM ∧ m ∈ NM := by
  simp only [PR, List.mem_cons, List.not_mem_nil, or_false, Prod.mk.injEq] at h
  rcases h with ⟨rfl, rfl⟩ | ⟨rfl, rfl⟩ | ⟨rfl, rfl⟩ | ⟨rfl, rfl⟩ | ⟨rfl, rfl⟩ | ⟨rfl, rfl⟩ <;> decide
theorem self (n : List Nat) : beqW (.str n) (.str n) = true := beqW_self _
/-- the terms of a sum -/
def Tm (ts : List W) : Prop := ts = [] ∨ (∃ f n, n ∈ NM ∧ f ≠ 0 ∧ -9 < f ∧ f < 9 ∧ ts = [.tup [.int f, .str n]]) ∨ ∃ f n g m, (n, m) ∈ PR ∧ f ≠ 0 ∧ -9 < f ∧ f < 9 ∧ g ≠ 0 ∧ -9 < g ∧ g < 9 ∧ ts = [.tup [.int f, .str n], .tup [.int g, .str m]]
def Names (ws : List W) : Prop := ∀ w ∈ ws, ∃ n, n ∈ NM ∧ w = .str n
/-- terms whose names are among these -/
def TmIn (ws : List W) (ts : List W) : Prop := Tm ts ∧ ∀ f n, W.tup [.int f, .str n] ∈ ts → W.str n ∈ ws
def IsSum (ws : List W) (w : W) : Prop := ∃ c ts, w = .tup [.str [115, 117, 109], .int c, .tup ts] ∧ (c = 0 ∨ c = 1 ∨ c = -2 ∨ c = 5) ∧ TmIn ws ts
theorem name_at {ws : List W} {r : Int} (hm : Names ws) (h0 : 0 ≤ r) (h1 : r < ws.length) : ∃ n, n ∈ NM ∧ W.str n ∈ ws ∧ idxW (.lis ws) (.int r) = some (.str n) := by
  obtain ⟨j, rfl⟩ := Int.eq_ofNat_of_zero_le h0
  have hj : j < ws.length := by omega
  have e1 : ix ws.length (j : Int) = some j := by
    show (if Nat.blt j ws.length then some j else none) = _
    rw [Nat.blt_eq.mpr hj]; rfl
  have e2 : ∀ (l : List W) (j : Nat), j < l.length → ∃ w, w ∈ l ∧ nth l j = some w := by
    intro l
    induction l with
    | nil => intro j hj; exact absurd hj (Nat.not_lt_zero _)
    | cons a l ih =>
      intro j hj
      cases j with
      | zero => exact ⟨a, List.mem_cons_self, rfl⟩
      | succ j =>
        obtain ⟨w, a1, a2⟩ := ih j (Nat.lt_of_succ_lt_succ hj)
        exact ⟨w, List.mem_cons_of_mem _ a1, a2⟩
  obtain ⟨w, hw, e⟩ := e2 ws j hj
  obtain ⟨n, hn, rfl⟩ := hm w hw
  refine ⟨n, hn, hw, ?_⟩
  show (ix ws.length (j : Int)).bind (fun j => nth ws j) = _
  rw [e1]
  exact e
theorem dgetV_of {r : Env} {i : Nat} {ks vs : List W} {n : List Nat} {d : W} (hl : vw r (.sl i) = some (.dic ks vs)) : dgetV i (.str n) d r = some ((dfind (.str n) ks vs).getD d) := by
  unfold dgetV
  rw [hl]
  rfl
/-- one turn of the loop of _law_sum -/
theorem turn_ok (hD : nth P dr = some ⟨2, 3, bDraw⟩) {d : Nat} {a b : Int} {ws ks vs : List W} {us : List U} {v3 v4 v5 : En} {D : Dn} (hp : POk a b) (hw : 0 < ws.length) (hl : ws.length < 1000) (hm : Names ws) (hu : vwU (.c ks us) = some (.dic ks vs)) (hus : dats us = some vs) (hk : ks.length < 1000) (h4 : v4 = .no ∨ ∃ u, v4 = .m u)
    (hv : ∀ n, n ∈ NM → ∃ i, (dfind (.str n) ks vs).getD (.int 0) = .int i)
    (q : ∀ n f i a' b', n ∈ NM → W.str n ∈ ws → -3 < f → f < 3 → f ≠ 0 → (dfind (.str n) ks vs).getD (.int 0) = .int i → POk a' b' → D.N [.t (pl a' b'), .m (.d (.lis ws)), .m (.c (dput (.str n) (.int (i + f)) ks vs).1 ((dput (.str n) (.int (i + f)) ks vs).2.map U.d)), v3, .m (.d (.str n)), v5]) :
    Sn ((lvl (callF P 60 (d + 1)) 59).S [.asg (.nm 4) (.idx (.s 1) (.frz (.call dr [.r 0, .d (.blt .len [.s 1])]))),
    .dsub 2 (.var 4) (.bin .add (.e (.dget 2 (.var 4) (.cst (.int 0)))) (.e (.idx (.u (.lst [.cst (.int 1), .neg (.cst (.int 1)), .cst (.int 2)])) (.frz (.call dr [.r 0, .d (.cst (.int 3))])))))] [.t (pl a b), .m (.d (.lis ws)), .m (.c ks us), v3, v4, v5]) D := by
  have hs : ∀ (e0 e1 e2 : En) (u : U), setV [e0, e1, e2, v3, v4, v5] 4 u = some [e0, e1, e2, v3, .m u, v5] := by
    rcases h4 with rfl | ⟨u, rfl⟩ <;> (intros; rfl)
  repeat (first | with_reducible refine E_cst ?_ | with_reducible refine V_e ?_ | with_reducible refine V_u ?_ | with_reducible refine A_nil ?_ | with_reducible refine A_cons ?_ | with_reducible refine A_d ?_ | with_reducible refine A_u ?_ | with_reducible refine S_cons ?_ | with_reducible refine S_nil ?_ | with_reducible refine S_ret ?_ | with_reducible refine S_if ?_ | with_reducible refine S_asg ?_ | with_reducible refine S_own ?_ | with_reducible refine T_val ?_ | with_reducible refine T_not ?_ | with_reducible refine T_cmp ?_ | with_reducible refine T_or1 ?_ | with_reducible refine T_or ?_ | with_reducible refine T_and1 ?_ | with_reducible refine T_and ?_ | with_reducible refine T_chn ?_ | with_reducible refine E_idx ?_ | with_reducible refine E_tup ?_ | with_reducible refine E_bin ?_ | with_reducible refine E_cmp ?_ | with_reducible refine E_isi ?_ | with_reducible refine E_blt ?_ | with_reducible refine E_frz ?_ | with_reducible refine E_chn ?_ | with_reducible refine E_and1 ?_ | with_reducible refine E_and ?_ | with_reducible refine E_or1 ?_ | with_reducible refine E_or ?_ | with_reducible refine E_not ?_ | with_reducible refine E_neg ?_ | with_reducible refine E_ite ?_ | with_reducible refine E_didx ?_ | with_reducible refine U_d ?_ | with_reducible refine U_lst ?_ | with_reducible refine U_cat ?_ | with_reducible refine U_slc ?_ | with_reducible refine U_lof ?_ | with_reducible refine U_srt ?_ | with_reducible refine U_comp ?_ | with_reducible refine U_ndic ?_ | with_reducible refine U_dlt ?_ | with_reducible refine U_call ?_ | with_reducible refine O_none ?_ | with_reducible refine O_some ?_ | with_reducible refine I_v ?_ | with_reducible refine I_rng ?_ | with_reducible refine I_zip ?_ | with_reducible refine S_for ?_ | with_reducible refine S_lc ?_ | with_reducible refine S_par ?_ | with_reducible refine S_sub ?_ | with_reducible refine S_dsub ?_ | with_reducible refine S_exp ?_ | with_reducible refine S_rse ?_ | with_reducible refine S_try ?_ | with_reducible refine S_unX ?_ | with_reducible refine S_mat ?_ | with_reducible refine M_nil ?_ | ((with_reducible apply E_var); (first | rfl | decide)) | ((with_reducible apply V_s); (first | rfl | decide)) | ((with_reducible apply A_r); (first | rfl | decide)) | ((with_reducible apply U_mv); (first | rfl | decide)) | ((with_reducible apply E_dget); (first | rfl | decide)) | ((with_reducible apply E_app); (first | rfl | decide)) | ((with_reducible apply R_bin); (first | rfl | decide); (first | rfl | decide)) | ((with_reducible apply R_cmp); (first | rfl | decide); (first | rfl | decide); (first | rfl | decide)) | ((with_reducible apply R_idx); (first | rfl | decide); (first | rfl | decide)) | ((with_reducible apply R_isi); (first | rfl | decide); (first | rfl | decide)) | ((with_reducible apply R_blt); (first | rfl | decide); (first | rfl | decide)) | ((with_reducible apply R_didx); (first | rfl | decide); (first | rfl | decide); (first | rfl | decide)) | ((with_reducible apply R_cat); (first | rfl | decide); (first | rfl | decide); (first | rfl | decide); (first | rfl | decide)) | ((with_reducible apply R_slcU); (first | rfl | decide); (first | rfl | decide)) | ((with_reducible apply R_srt); (first | rfl | decide); (first | rfl | decide)) | ((with_reducible apply R_lof); (first | rfl | decide); (first | rfl | decide)) | ((with_reducible apply R_add)) | ((with_reducible apply R_subI)) | ((with_reducible apply R_sub); (first | rfl | decide); (first | rfl | decide); (first | rfl | decide); (first | rfl | decide)) | ((with_reducible apply R_dput); (first | rfl | decide); (first | rfl | decide); (first | rfl | decide); (first | rfl | decide)) | ((with_reducible apply R_dgt); (first | rfl | decide)) | ((with_reducible apply R_app); (first | rfl | decide); (first | rfl | decide); (first | rfl | decide)) | ((with_reducible apply R_wlk); (first | rfl | decide)) | ((with_reducible apply R_zip); (first | rfl | decide)) | ((with_reducible apply E_xfl); (first | rfl | decide)) | ((with_reducible apply E_xis); (first | rfl | decide); (first | rfl | decide)) | ((with_reducible apply M_yes); (first | rfl | decide)) | ((with_reducible apply M_no); (first | rfl | decide)) | ((with_reducible apply S_hnd); (first | rfl | decide); (first | rfl | decide); (first | rfl | decide)) | ((with_reducible apply X_1); rfl) | ((with_reducible apply X_2); rfl) | ((with_reducible apply X_3); rfl) | ((with_reducible refine R_mod ?_ ?_); omega) | ((with_reducible refine R_div ?_ ?_); omega) | ((with_reducible refine R_mul ?_ ?_); (first | (left; omega) | (right; omega))) | ((with_reducible apply R_pow); rfl) | ((with_reducible apply C_nil); rfl; rfl) | (with_reducible refine F_nil ?_) | ((with_reducible apply C_turn); rfl; rfl) | ((with_reducible apply F_cons); rfl) | with_reducible refine C_e ?_ | with_reducible refine C_t ?_)
  refine R_draw hD (a := a) (b := b) rfl hp (by show (0 : Int) < ((ws.length : Nat) : Int); omega) (by show ((ws.length : Nat) : Int) < _; omega) (fun _ _ => rfl) fun k a1 b1 k0 k1 hp1 => ?_
  obtain ⟨n, hn, hnw, en⟩ := name_at hm k0 k1
  obtain ⟨i, hi⟩ := hv n hn
  refine R_idx rfl en ⟨_, hs _ _ _ _, ?_⟩
  have dg : ∀ (e0 e1 e3 e4 e5 : En), dgetV 2 (.str n) (.int 0) [e0, e1, .m (.c ks us), e3, e4, e5] = some (.int i) := fun e0 e1 e3 e4 e5 => by
    rw [dgetV_of (r := [e0, e1, .m (.c ks us), e3, e4, e5]) (i := 2) (ks := ks) (vs := vs) (show vw [e0, e1, .m (.c ks us), e3, e4, e5] (.sl 2) = _ from hu), hi]
  have hk2 : (keyOk (.str n) && Nat.blt ks.length size) = true := by
    show Nat.blt ks.length size = true
    exact Nat.blt_eq.mpr (Nat.lt_trans hk (by decide))
  repeat (first | (with_reducible refine R_dgt (dg _ _ _ _ _) ?_) | with_reducible refine E_cst ?_ | with_reducible refine V_e ?_ | with_reducible refine V_u ?_ | with_reducible refine A_nil ?_ | with_reducible refine A_cons ?_ | with_reducible refine A_d ?_ | with_reducible refine A_u ?_ | with_reducible refine S_cons ?_ | with_reducible refine S_nil ?_ | with_reducible refine S_ret ?_ | with_reducible refine S_if ?_ | with_reducible refine S_asg ?_ | with_reducible refine S_own ?_ | with_reducible refine T_val ?_ | with_reducible refine T_not ?_ | with_reducible refine T_cmp ?_ | with_reducible refine T_or1 ?_ | with_reducible refine T_or ?_ | with_reducible refine T_and1 ?_ | with_reducible refine T_and ?_ | with_reducible refine T_chn ?_ | with_reducible refine E_idx ?_ | with_reducible refine E_tup ?_ | with_reducible refine E_bin ?_ | with_reducible refine E_cmp ?_ | with_reducible refine E_isi ?_ | with_reducible refine E_blt ?_ | with_reducible refine E_frz ?_ | with_reducible refine E_chn ?_ | with_reducible refine E_and1 ?_ | with_reducible refine E_and ?_ | with_reducible refine E_or1 ?_ | with_reducible refine E_or ?_ | with_reducible refine E_not ?_ | with_reducible refine E_neg ?_ | with_reducible refine E_ite ?_ | with_reducible refine E_didx ?_ | with_reducible refine U_d ?_ | with_reducible refine U_lst ?_ | with_reducible refine U_cat ?_ | with_reducible refine U_slc ?_ | with_reducible refine U_lof ?_ | with_reducible refine U_srt ?_ | with_reducible refine U_comp ?_ | with_reducible refine U_ndic ?_ | with_reducible refine U_dlt ?_ | with_reducible refine U_call ?_ | with_reducible refine O_none ?_ | with_reducible refine O_some ?_ | with_reducible refine I_v ?_ | with_reducible refine I_rng ?_ | with_reducible refine I_zip ?_ | with_reducible refine S_for ?_ | with_reducible refine S_lc ?_ | with_reducible refine S_par ?_ | with_reducible refine S_sub ?_ | with_reducible refine S_dsub ?_ | with_reducible refine S_exp ?_ | with_reducible refine S_rse ?_ | with_reducible refine S_try ?_ | with_reducible refine S_unX ?_ | with_reducible refine S_mat ?_ | with_reducible refine M_nil ?_ | ((with_reducible apply E_var); (first | rfl | decide)) | ((with_reducible apply V_s); (first | rfl | decide)) | ((with_reducible apply A_r); (first | rfl | decide)) | ((with_reducible apply U_mv); (first | rfl | decide)) | ((with_reducible apply E_dget); (first | rfl | decide)) | ((with_reducible apply E_app); (first | rfl | decide)) | ((with_reducible apply R_bin); (first | rfl | decide); (first | rfl | decide)) | ((with_reducible apply R_cmp); (first | rfl | decide); (first | rfl | decide); (first | rfl | decide)) | ((with_reducible apply R_idx); (first | rfl | decide); (first | rfl | decide)) | ((with_reducible apply R_isi); (first | rfl | decide); (first | rfl | decide)) | ((with_reducible apply R_blt); (first | rfl | decide); (first | rfl | decide)) | ((with_reducible apply R_didx); (first | rfl | decide); (first | rfl | decide); (first | rfl | decide)) | ((with_reducible apply R_cat); (first | rfl | decide); (first | rfl | decide); (first | rfl | decide); (first | rfl | decide)) | ((with_reducible apply R_slcU); (first | rfl | decide); (first | rfl | decide)) | ((with_reducible apply R_srt); (first | rfl | decide); (first | rfl | decide)) | ((with_reducible apply R_lof); (first | rfl | decide); (first | rfl | decide)) | ((with_reducible apply R_add)) | ((with_reducible apply R_subI)) | ((with_reducible apply R_sub); (first | rfl | decide); (first | rfl | decide); (first | rfl | decide); (first | rfl | decide)) | ((with_reducible apply R_dput); (first | rfl | decide); (first | rfl | decide); (first | rfl | decide); (first | rfl | decide)) | ((with_reducible apply R_dgt); (first | rfl | decide)) | ((with_reducible apply R_app); (first | rfl | decide); (first | rfl | decide); (first | rfl | decide)) | ((with_reducible apply R_wlk); (first | rfl | decide)) | ((with_reducible apply R_zip); (first | rfl | decide)) | ((with_reducible apply E_xfl); (first | rfl | decide)) | ((with_reducible apply E_xis); (first | rfl | decide); (first | rfl | decide)) | ((with_reducible apply M_yes); (first | rfl | decide)) | ((with_reducible apply M_no); (first | rfl | decide)) | ((with_reducible apply S_hnd); (first | rfl | decide); (first | rfl | decide); (first | rfl | decide)) | ((with_reducible apply X_1); rfl) | ((with_reducible apply X_2); rfl) | ((with_reducible apply X_3); rfl) | ((with_reducible refine R_mod ?_ ?_); omega) | ((with_reducible refine R_div ?_ ?_); omega) | ((with_reducible refine R_mul ?_ ?_); (first | (left; omega) | (right; omega))) | ((with_reducible apply R_pow); rfl) | ((with_reducible apply C_nil); rfl; rfl) | (with_reducible refine F_nil ?_) | ((with_reducible apply C_turn); rfl; rfl) | ((with_reducible apply F_cons); rfl) | with_reducible refine C_e ?_ | with_reducible refine C_t ?_)
  refine R_draw hD (a := a1) (b := b1) rfl hp1 (by decide) (by decide) (fun _ _ => rfl) fun s a2 b2 s0 s1 hp2 => ?_
  have fin : ∀ f, -3 < f → f < 3 → f ≠ 0 → D.N [.t (pl a2 b2), .m (.d (.lis ws)), .m (.c (dput (.str n) (.int (i + f)) ks vs).1 ((dput (.str n) (.int (i + f)) ks vs).2.map U.d)), v3, .m (.d (.str n)), v5] := fun f f1 f2 f3 => q n f i a2 b2 hn hnw f1 f2 f3 hi hp2
  have h3 : s = 0 ∨ s = 1 ∨ s = 2 := by omega
  rcases h3 with rfl | rfl | rfl
  · repeat (first | ((with_reducible apply R_dput); rfl; exact hus; exact hk2; rfl) | with_reducible refine E_cst ?_ | with_reducible refine V_e ?_ | with_reducible refine V_u ?_ | with_reducible refine A_nil ?_ | with_reducible refine A_cons ?_ | with_reducible refine A_d ?_ | with_reducible refine A_u ?_ | with_reducible refine S_cons ?_ | with_reducible refine S_nil ?_ | with_reducible refine S_ret ?_ | with_reducible refine S_if ?_ | with_reducible refine S_asg ?_ | with_reducible refine S_own ?_ | with_reducible refine T_val ?_ | with_reducible refine T_not ?_ | with_reducible refine T_cmp ?_ | with_reducible refine T_or1 ?_ | with_reducible refine T_or ?_ | with_reducible refine T_and1 ?_ | with_reducible refine T_and ?_ | with_reducible refine T_chn ?_ | with_reducible refine E_idx ?_ | with_reducible refine E_tup ?_ | with_reducible refine E_bin ?_ | with_reducible refine E_cmp ?_ | with_reducible refine E_isi ?_ | with_reducible refine E_blt ?_ | with_reducible refine E_frz ?_ | with_reducible refine E_chn ?_ | with_reducible refine E_and1 ?_ | with_reducible refine E_and ?_ | with_reducible refine E_or1 ?_ | with_reducible refine E_or ?_ | with_reducible refine E_not ?_ | with_reducible refine E_neg ?_ | with_reducible refine E_ite ?_ | with_reducible refine E_didx ?_ | with_reducible refine U_d ?_ | with_reducible refine U_lst ?_ | with_reducible refine U_cat ?_ | with_reducible refine U_slc ?_ | with_reducible refine U_lof ?_ | with_reducible refine U_srt ?_ | with_reducible refine U_comp ?_ | with_reducible refine U_ndic ?_ | with_reducible refine U_dlt ?_ | with_reducible refine U_call ?_ | with_reducible refine O_none ?_ | with_reducible refine O_some ?_ | with_reducible refine I_v ?_ | with_reducible refine I_rng ?_ | with_reducible refine I_zip ?_ | with_reducible refine S_for ?_ | with_reducible refine S_lc ?_ | with_reducible refine S_par ?_ | with_reducible refine S_sub ?_ | with_reducible refine S_dsub ?_ | with_reducible refine S_exp ?_ | with_reducible refine S_rse ?_ | with_reducible refine S_try ?_ | with_reducible refine S_unX ?_ | with_reducible refine S_mat ?_ | with_reducible refine M_nil ?_ | ((with_reducible apply E_var); (first | rfl | decide)) | ((with_reducible apply V_s); (first | rfl | decide)) | ((with_reducible apply A_r); (first | rfl | decide)) | ((with_reducible apply U_mv); (first | rfl | decide)) | ((with_reducible apply E_dget); (first | rfl | decide)) | ((with_reducible apply E_app); (first | rfl | decide)) | ((with_reducible apply R_bin); (first | rfl | decide); (first | rfl | decide)) | ((with_reducible apply R_cmp); (first | rfl | decide); (first | rfl | decide); (first | rfl | decide)) | ((with_reducible apply R_idx); (first | rfl | decide); (first | rfl | decide)) | ((with_reducible apply R_isi); (first | rfl | decide); (first | rfl | decide)) | ((with_reducible apply R_blt); (first | rfl | decide); (first | rfl | decide)) | ((with_reducible apply R_didx); (first | rfl | decide); (first | rfl | decide); (first | rfl | decide)) | ((with_reducible apply R_cat); (first | rfl | decide); (first | rfl | decide); (first | rfl | decide); (first | rfl | decide)) | ((with_reducible apply R_slcU); (first | rfl | decide); (first | rfl | decide)) | ((with_reducible apply R_srt); (first | rfl | decide); (first | rfl | decide)) | ((with_reducible apply R_lof); (first | rfl | decide); (first | rfl | decide)) | ((with_reducible apply R_add)) | ((with_reducible apply R_subI)) | ((with_reducible apply R_sub); (first | rfl | decide); (first | rfl | decide); (first | rfl | decide); (first | rfl | decide)) | ((with_reducible apply R_dput); (first | rfl | decide); (first | rfl | decide); (first | rfl | decide); (first | rfl | decide)) | ((with_reducible apply R_dgt); (first | rfl | decide)) | ((with_reducible apply R_app); (first | rfl | decide); (first | rfl | decide); (first | rfl | decide)) | ((with_reducible apply R_wlk); (first | rfl | decide)) | ((with_reducible apply R_zip); (first | rfl | decide)) | ((with_reducible apply E_xfl); (first | rfl | decide)) | ((with_reducible apply E_xis); (first | rfl | decide); (first | rfl | decide)) | ((with_reducible apply M_yes); (first | rfl | decide)) | ((with_reducible apply M_no); (first | rfl | decide)) | ((with_reducible apply S_hnd); (first | rfl | decide); (first | rfl | decide); (first | rfl | decide)) | ((with_reducible apply X_1); rfl) | ((with_reducible apply X_2); rfl) | ((with_reducible apply X_3); rfl) | ((with_reducible refine R_mod ?_ ?_); omega) | ((with_reducible refine R_div ?_ ?_); omega) | ((with_reducible refine R_mul ?_ ?_); (first | (left; omega) | (right; omega))) | ((with_reducible apply R_pow); rfl) | ((with_reducible apply C_nil); rfl; rfl) | (with_reducible refine F_nil ?_) | ((with_reducible apply C_turn); rfl; rfl) | ((with_reducible apply F_cons); rfl) | with_reducible refine C_e ?_ | with_reducible refine C_t ?_)
    exact fin 1 (by decide) (by decide) (by decide)
  · repeat (first | ((with_reducible apply R_dput); rfl; exact hus; exact hk2; rfl) | with_reducible refine E_cst ?_ | with_reducible refine V_e ?_ | with_reducible refine V_u ?_ | with_reducible refine A_nil ?_ | with_reducible refine A_cons ?_ | with_reducible refine A_d ?_ | with_reducible refine A_u ?_ | with_reducible refine S_cons ?_ | with_reducible refine S_nil ?_ | with_reducible refine S_ret ?_ | with_reducible refine S_if ?_ | with_reducible refine S_asg ?_ | with_reducible refine S_own ?_ | with_reducible refine T_val ?_ | with_reducible refine T_not ?_ | with_reducible refine T_cmp ?_ | with_reducible refine T_or1 ?_ | with_reducible refine T_or ?_ | with_reducible refine T_and1 ?_ | with_reducible refine T_and ?_ | with_reducible refine T_chn ?_ | with_reducible refine E_idx ?_ | with_reducible refine E_tup ?_ | with_reducible refine E_bin ?_ | with_reducible refine E_cmp ?_ | with_reducible refine E_isi ?_ | with_reducible refine E_blt ?_ | with_reducible refine E_frz ?_ | with_reducible refine E_chn ?_ | with_reducible refine E_and1 ?_ | with_reducible refine E_and ?_ | with_reducible refine E_or1 ?_ | with_reducible refine E_or ?_ | with_reducible refine E_not ?_ | with_reducible refine E_neg ?_ | with_reducible refine E_ite ?_ | with_reducible refine E_didx ?_ | with_reducible refine U_d ?_ | with_reducible refine U_lst ?_ | with_reducible refine U_cat ?_ | with_reducible refine U_slc ?_ | with_reducible refine U_lof ?_ | with_reducible refine U_srt ?_ | with_reducible refine U_comp ?_ | with_reducible refine U_ndic ?_ | with_reducible refine U_dlt ?_ | with_reducible refine U_call ?_ | with_reducible refine O_none ?_ | with_reducible refine O_some ?_ | with_reducible refine I_v ?_ | with_reducible refine I_rng ?_ | with_reducible refine I_zip ?_ | with_reducible refine S_for ?_ | with_reducible refine S_lc ?_ | with_reducible refine S_par ?_ | with_reducible refine S_sub ?_ | with_reducible refine S_dsub ?_ | with_reducible refine S_exp ?_ | with_reducible refine S_rse ?_ | with_reducible refine S_try ?_ | with_reducible refine S_unX ?_ | with_reducible refine S_mat ?_ | with_reducible refine M_nil ?_ | ((with_reducible apply E_var); (first | rfl | decide)) | ((with_reducible apply V_s); (first | rfl | decide)) | ((with_reducible apply A_r); (first | rfl | decide)) | ((with_reducible apply U_mv); (first | rfl | decide)) | ((with_reducible apply E_dget); (first | rfl | decide)) | ((with_reducible apply E_app); (first | rfl | decide)) | ((with_reducible apply R_bin); (first | rfl | decide); (first | rfl | decide)) | ((with_reducible apply R_cmp); (first | rfl | decide); (first | rfl | decide); (first | rfl | decide)) | ((with_reducible apply R_idx); (first | rfl | decide); (first | rfl | decide)) | ((with_reducible apply R_isi); (first | rfl | decide); (first | rfl | decide)) | ((with_reducible apply R_blt); (first | rfl | decide); (first | rfl | decide)) | ((with_reducible apply R_didx); (first | rfl | decide); (first | rfl | decide); (first | rfl | decide)) | ((with_reducible apply R_cat); (first | rfl | decide); (first | rfl | decide); (first | rfl | decide); (first | rfl | decide)) | ((with_reducible apply R_slcU); (first | rfl | decide); (first | rfl | decide)) | ((with_reducible apply R_srt); (first | rfl | decide); (first | rfl | decide)) | ((with_reducible apply R_lof); (first | rfl | decide); (first | rfl | decide)) | ((with_reducible apply R_add)) | ((with_reducible apply R_subI)) | ((with_reducible apply R_sub); (first | rfl | decide); (first | rfl | decide); (first | rfl | decide); (first | rfl | decide)) | ((with_reducible apply R_dput); (first | rfl | decide); (first | rfl | decide); (first | rfl | decide); (first | rfl | decide)) | ((with_reducible apply R_dgt); (first | rfl | decide)) | ((with_reducible apply R_app); (first | rfl | decide); (first | rfl | decide); (first | rfl | decide)) | ((with_reducible apply R_wlk); (first | rfl | decide)) | ((with_reducible apply R_zip); (first | rfl | decide)) | ((with_reducible apply E_xfl); (first | rfl | decide)) | ((with_reducible apply E_xis); (first | rfl | decide); (first | rfl | decide)) | ((with_reducible apply M_yes); (first | rfl | decide)) | ((with_reducible apply M_no); (first | rfl | decide)) | ((with_reducible apply S_hnd); (first | rfl | decide); (first | rfl | decide); (first | rfl | decide)) | ((with_reducible apply X_1); rfl) | ((with_reducible apply X_2); rfl) | ((with_reducible apply X_3); rfl) | ((with_reducible refine R_mod ?_ ?_); omega) | ((with_reducible refine R_div ?_ ?_); omega) | ((with_reducible refine R_mul ?_ ?_); (first | (left; omega) | (right; omega))) | ((with_reducible apply R_pow); rfl) | ((with_reducible apply C_nil); rfl; rfl) | (with_reducible refine F_nil ?_) | ((with_reducible apply C_turn); rfl; rfl) | ((with_reducible apply F_cons); rfl) | with_reducible refine C_e ?_ | with_reducible refine C_t ?_)
    exact fin (-1) (by decide) (by decide) (by decide)
  · repeat (first | ((with_reducible apply R_dput); rfl; exact hus; exact hk2; rfl) | with_reducible refine E_cst ?_ | with_reducible refine V_e ?_ | with_reducible refine V_u ?_ | with_reducible refine A_nil ?_ | with_reducible refine A_cons ?_ | with_reducible refine A_d ?_ | with_reducible refine A_u ?_ | with_reducible refine S_cons ?_ | with_reducible refine S_nil ?_ | with_reducible refine S_ret ?_ | with_reducible refine S_if ?_ | with_reducible refine S_asg ?_ | with_reducible refine S_own ?_ | with_reducible refine T_val ?_ | with_reducible refine T_not ?_ | with_reducible refine T_cmp ?_ | with_reducible refine T_or1 ?_ | with_reducible refine T_or ?_ | with_reducible refine T_and1 ?_ | with_reducible refine T_and ?_ | with_reducible refine T_chn ?_ | with_reducible refine E_idx ?_ | with_reducible refine E_tup ?_ | with_reducible refine E_bin ?_ | with_reducible refine E_cmp ?_ | with_reducible refine E_isi ?_ | with_reducible refine E_blt ?_ | with_reducible refine E_frz ?_ | with_reducible refine E_chn ?_ | with_reducible refine E_and1 ?_ | with_reducible refine E_and ?_ | with_reducible refine E_or1 ?_ | with_reducible refine E_or ?_ | with_reducible refine E_not ?_ | with_reducible refine E_neg ?_ | with_reducible refine E_ite ?_ | with_reducible refine E_didx ?_ | with_reducible refine U_d ?_ | with_reducible refine U_lst ?_ | with_reducible refine U_cat ?_ | with_reducible refine U_slc ?_ | with_reducible refine U_lof ?_ | with_reducible refine U_srt ?_ | with_reducible refine U_comp ?_ | with_reducible refine U_ndic ?_ | with_reducible refine U_dlt ?_ | with_reducible refine U_call ?_ | with_reducible refine O_none ?_ | with_reducible refine O_some ?_ | with_reducible refine I_v ?_ | with_reducible refine I_rng ?_ | with_reducible refine I_zip ?_ | with_reducible refine S_for ?_ | with_reducible refine S_lc ?_ | with_reducible refine S_par ?_ | with_reducible refine S_sub ?_ | with_reducible refine S_dsub ?_ | with_reducible refine S_exp ?_ | with_reducible refine S_rse ?_ | with_reducible refine S_try ?_ | with_reducible refine S_unX ?_ | with_reducible refine S_mat ?_ | with_reducible refine M_nil ?_ | ((with_reducible apply E_var); (first | rfl | decide)) | ((with_reducible apply V_s); (first | rfl | decide)) | ((with_reducible apply A_r); (first | rfl | decide)) | ((with_reducible apply U_mv); (first | rfl | decide)) | ((with_reducible apply E_dget); (first | rfl | decide)) | ((with_reducible apply E_app); (first | rfl | decide)) | ((with_reducible apply R_bin); (first | rfl | decide); (first | rfl | decide)) | ((with_reducible apply R_cmp); (first | rfl | decide); (first | rfl | decide); (first | rfl | decide)) | ((with_reducible apply R_idx); (first | rfl | decide); (first | rfl | decide)) | ((with_reducible apply R_isi); (first | rfl | decide); (first | rfl | decide)) | ((with_reducible apply R_blt); (first | rfl | decide); (first | rfl | decide)) | ((with_reducible apply R_didx); (first | rfl | decide); (first | rfl | decide); (first | rfl | decide)) | ((with_reducible apply R_cat); (first | rfl | decide); (first | rfl | decide); (first | rfl | decide); (first | rfl | decide)) | ((with_reducible apply R_slcU); (first | rfl | decide); (first | rfl | decide)) | ((with_reducible apply R_srt); (first | rfl | decide); (first | rfl | decide)) | ((with_reducible apply R_lof); (first | rfl | decide); (first | rfl | decide)) | ((with_reducible apply R_add)) | ((with_reducible apply R_subI)) | ((with_reducible apply R_sub); (first | rfl | decide); (first | rfl | decide); (first | rfl | decide); (first | rfl | decide)) | ((with_reducible apply R_dput); (first | rfl | decide); (first | rfl | decide); (first | rfl | decide); (first | rfl | decide)) | ((with_reducible apply R_dgt); (first | rfl | decide)) | ((with_reducible apply R_app); (first | rfl | decide); (first | rfl | decide); (first | rfl | decide)) | ((with_reducible apply R_wlk); (first | rfl | decide)) | ((with_reducible apply R_zip); (first | rfl | decide)) | ((with_reducible apply E_xfl); (first | rfl | decide)) | ((with_reducible apply E_xis); (first | rfl | decide); (first | rfl | decide)) | ((with_reducible apply M_yes); (first | rfl | decide)) | ((with_reducible apply M_no); (first | rfl | decide)) | ((with_reducible apply S_hnd); (first | rfl | decide); (first | rfl | decide); (first | rfl | decide)) | ((with_reducible apply X_1); rfl) | ((with_reducible apply X_2); rfl) | ((with_reducible apply X_3); rfl) | ((with_reducible refine R_mod ?_ ?_); omega) | ((with_reducible refine R_div ?_ ?_); omega) | ((with_reducible refine R_mul ?_ ?_); (first | (left; omega) | (right; omega))) | ((with_reducible apply R_pow); rfl) | ((with_reducible apply C_nil); rfl; rfl) | (with_reducible refine F_nil ?_) | ((with_reducible apply C_turn); rfl; rfl) | ((with_reducible apply F_cons); rfl) | with_reducible refine C_e ?_ | with_reducible refine C_t ?_)
    exact fin 2 (by decide) (by decide) (by decide)
/-- what the dict of _law_sum is -/
def Dc (ws ks vs : List W) : Prop := (ks = [] ∧ vs = []) ∨ (∃ n f, n ∈ NM ∧ W.str n ∈ ws ∧ -9 < f ∧ f < 9 ∧ ks = [.str n] ∧ vs = [.int f]) ∨ ∃ n f m g, ((n, m) ∈ PR ∨ (m, n) ∈ PR) ∧ W.str n ∈ ws ∧ W.str m ∈ ws ∧ f ≠ 0 ∧ -9 < f ∧ f < 9 ∧ g ≠ 0 ∧ -9 < g ∧ g < 9 ∧ ks = [.str n, .str m] ∧ vs = [.int f, .int g]
def ZSum (ws : List W) (u : U) (os : List U) : Prop := ∃ w a' b', u = .d w ∧ os = [pl a' b'] ∧ IsSum ws w ∧ POk a' b'
/-- what follows the loop -/
theorem tail_ok (hD : nth P dr = some ⟨2, 3, bDraw⟩) {d : Nat} {a b : Int} {ws ks vs : List W} {v3 v4 : En} {D : Dn} (hp : POk a b) (hd : Dc ws ks vs) (h4 : v4 = .no ∨ ∃ w, v4 = .m (.d w))
    (q : ∀ w a' b' e1 e2 e3 e4 e5, IsSum ws w → POk a' b' → D.T (.d w) [.t (pl a' b'), e1, e2, e3, e4, e5]) :
    Sn ((lvl (callF P 60 (d + 1)) 60).S [.asg (.nm 5) (.blt .tuple [.u (.comp (.tup [.didx (.s 2) (.var 4), .var 4]) (.nm 4) [4] (.v (.u (.srt (.s 2)))) (some (.cmp .ne (.e (.didx (.s 2) (.var 4))) (.e (.cst (.int 0))))))]),
    .ret (.d (.tup [.cst (.str [115, 117, 109]), .idx (.u (.lst [.cst (.int 0), .cst (.int 1), .neg (.cst (.int 2)), .cst (.int 5)])) (.frz (.call dr [.r 0, .d (.cst (.int 4))])), .var 5]))] [.t (pl a b), .m (.d (.lis ws)), .m (.c ks (vs.map U.d)), v3, v4, .no]) D := by
  have last : ∀ (ts : List W) (e1 e2 e3 e4 : En), TmIn ws ts → Sn ((lvl (callF P 60 (d + 1)) 60).S [.ret (.d (.tup [.cst (.str [115, 117, 109]), .idx (.u (.lst [.cst (.int 0), .cst (.int 1), .neg (.cst (.int 2)), .cst (.int 5)])) (.frz (.call dr [.r 0, .d (.cst (.int 4))])), .var 5]))] [.t (pl a b), e1, e2, e3, e4, .m (.d (.tup ts))]) D := by
    intro ts e1 e2 e3 e4 hT
    repeat (first | with_reducible refine E_cst ?_ | with_reducible refine V_e ?_ | with_reducible refine V_u ?_ | with_reducible refine A_nil ?_ | with_reducible refine A_cons ?_ | with_reducible refine A_d ?_ | with_reducible refine A_u ?_ | with_reducible refine S_cons ?_ | with_reducible refine S_nil ?_ | with_reducible refine S_ret ?_ | with_reducible refine S_if ?_ | with_reducible refine S_asg ?_ | with_reducible refine S_own ?_ | with_reducible refine T_val ?_ | with_reducible refine T_not ?_ | with_reducible refine T_cmp ?_ | with_reducible refine T_or1 ?_ | with_reducible refine T_or ?_ | with_reducible refine T_and1 ?_ | with_reducible refine T_and ?_ | with_reducible refine T_chn ?_ | with_reducible refine E_idx ?_ | with_reducible refine E_tup ?_ | with_reducible refine E_bin ?_ | with_reducible refine E_cmp ?_ | with_reducible refine E_isi ?_ | with_reducible refine E_blt ?_ | with_reducible refine E_frz ?_ | with_reducible refine E_chn ?_ | with_reducible refine E_and1 ?_ | with_reducible refine E_and ?_ | with_reducible refine E_or1 ?_ | with_reducible refine E_or ?_ | with_reducible refine E_not ?_ | with_reducible refine E_neg ?_ | with_reducible refine E_ite ?_ | with_reducible refine E_didx ?_ | with_reducible refine U_d ?_ | with_reducible refine U_lst ?_ | with_reducible refine U_cat ?_ | with_reducible refine U_slc ?_ | with_reducible refine U_lof ?_ | with_reducible refine U_srt ?_ | with_reducible refine U_comp ?_ | with_reducible refine U_ndic ?_ | with_reducible refine U_dlt ?_ | with_reducible refine U_call ?_ | with_reducible refine O_none ?_ | with_reducible refine O_some ?_ | with_reducible refine I_v ?_ | with_reducible refine I_rng ?_ | with_reducible refine I_zip ?_ | with_reducible refine S_for ?_ | with_reducible refine S_lc ?_ | with_reducible refine S_par ?_ | with_reducible refine S_sub ?_ | with_reducible refine S_dsub ?_ | with_reducible refine S_exp ?_ | with_reducible refine S_rse ?_ | with_reducible refine S_try ?_ | with_reducible refine S_unX ?_ | with_reducible refine S_mat ?_ | with_reducible refine M_nil ?_ | ((with_reducible apply E_var); (first | rfl | decide)) | ((with_reducible apply V_s); (first | rfl | decide)) | ((with_reducible apply A_r); (first | rfl | decide)) | ((with_reducible apply U_mv); (first | rfl | decide)) | ((with_reducible apply E_dget); (first | rfl | decide)) | ((with_reducible apply E_app); (first | rfl | decide)) | ((with_reducible apply R_bin); (first | rfl | decide); (first | rfl | decide)) | ((with_reducible apply R_cmp); (first | rfl | decide); (first | rfl | decide); (first | rfl | decide)) | ((with_reducible apply R_idx); (first | rfl | decide); (first | rfl | decide)) | ((with_reducible apply R_isi); (first | rfl | decide); (first | rfl | decide)) | ((with_reducible apply R_blt); (first | rfl | decide); (first | rfl | decide)) | ((with_reducible apply R_didx); (first | rfl | decide); (first | rfl | decide); (first | rfl | decide)) | ((with_reducible apply R_cat); (first | rfl | decide); (first | rfl | decide); (first | rfl | decide); (first | rfl | decide)) | ((with_reducible apply R_slcU); (first | rfl | decide); (first | rfl | decide)) | ((with_reducible apply R_srt); (first | rfl | decide); (first | rfl | decide)) | ((with_reducible apply R_lof); (first | rfl | decide); (first | rfl | decide)) | ((with_reducible apply R_add)) | ((with_reducible apply R_subI)) | ((with_reducible apply R_sub); (first | rfl | decide); (first | rfl | decide); (first | rfl | decide); (first | rfl | decide)) | ((with_reducible apply R_dput); (first | rfl | decide); (first | rfl | decide); (first | rfl | decide); (first | rfl | decide)) | ((with_reducible apply R_dgt); (first | rfl | decide)) | ((with_reducible apply R_app); (first | rfl | decide); (first | rfl | decide); (first | rfl | decide)) | ((with_reducible apply R_wlk); (first | rfl | decide)) | ((with_reducible apply R_zip); (first | rfl | decide)) | ((with_reducible apply E_xfl); (first | rfl | decide)) | ((with_reducible apply E_xis); (first | rfl | decide); (first | rfl | decide)) | ((with_reducible apply M_yes); (first | rfl | decide)) | ((with_reducible apply M_no); (first | rfl | decide)) | ((with_reducible apply S_hnd); (first | rfl | decide); (first | rfl | decide); (first | rfl | decide)) | ((with_reducible apply X_1); rfl) | ((with_reducible apply X_2); rfl) | ((with_reducible apply X_3); rfl) | ((with_reducible refine R_mod ?_ ?_); omega) | ((with_reducible refine R_div ?_ ?_); omega) | ((with_reducible refine R_mul ?_ ?_); (first | (left; omega) | (right; omega))) | ((with_reducible apply R_pow); rfl) | ((with_reducible apply C_nil); rfl; rfl) | (with_reducible refine F_nil ?_) | ((with_reducible apply C_turn); rfl; rfl) | ((with_reducible apply F_cons); rfl) | with_reducible refine C_e ?_ | with_reducible refine C_t ?_)
    refine R_draw hD (a := a) (b := b) rfl hp (by decide) (by decide) (fun _ _ => rfl) fun s a2 b2 s0 s1 hp2 => ?_
    have h3 : s = 0 ∨ s = 1 ∨ s = 2 ∨ s = 3 := by omega
    rcases h3 with rfl | rfl | rfl | rfl
    · repeat (first | with_reducible refine E_cst ?_ | with_reducible refine V_e ?_ | with_reducible refine V_u ?_ | with_reducible refine A_nil ?_ | with_reducible refine A_cons ?_ | with_reducible refine A_d ?_ | with_reducible refine A_u ?_ | with_reducible refine S_cons ?_ | with_reducible refine S_nil ?_ | with_reducible refine S_ret ?_ | with_reducible refine S_if ?_ | with_reducible refine S_asg ?_ | with_reducible refine S_own ?_ | with_reducible refine T_val ?_ | with_reducible refine T_not ?_ | with_reducible refine T_cmp ?_ | with_reducible refine T_or1 ?_ | with_reducible refine T_or ?_ | with_reducible refine T_and1 ?_ | with_reducible refine T_and ?_ | with_reducible refine T_chn ?_ | with_reducible refine E_idx ?_ | with_reducible refine E_tup ?_ | with_reducible refine E_bin ?_ | with_reducible refine E_cmp ?_ | with_reducible refine E_isi ?_ | with_reducible refine E_blt ?_ | with_reducible refine E_frz ?_ | with_reducible refine E_chn ?_ | with_reducible refine E_and1 ?_ | with_reducible refine E_and ?_ | with_reducible refine E_or1 ?_ | with_reducible refine E_or ?_ | with_reducible refine E_not ?_ | with_reducible refine E_neg ?_ | with_reducible refine E_ite ?_ | with_reducible refine E_didx ?_ | with_reducible refine U_d ?_ | with_reducible refine U_lst ?_ | with_reducible refine U_cat ?_ | with_reducible refine U_slc ?_ | with_reducible refine U_lof ?_ | with_reducible refine U_srt ?_ | with_reducible refine U_comp ?_ | with_reducible refine U_ndic ?_ | with_reducible refine U_dlt ?_ | with_reducible refine U_call ?_ | with_reducible refine O_none ?_ | with_reducible refine O_some ?_ | with_reducible refine I_v ?_ | with_reducible refine I_rng ?_ | with_reducible refine I_zip ?_ | with_reducible refine S_for ?_ | with_reducible refine S_lc ?_ | with_reducible refine S_par ?_ | with_reducible refine S_sub ?_ | with_reducible refine S_dsub ?_ | with_reducible refine S_exp ?_ | with_reducible refine S_rse ?_ | with_reducible refine S_try ?_ | with_reducible refine S_unX ?_ | with_reducible refine S_mat ?_ | with_reducible refine M_nil ?_ | ((with_reducible apply E_var); (first | rfl | decide)) | ((with_reducible apply V_s); (first | rfl | decide)) | ((with_reducible apply A_r); (first | rfl | decide)) | ((with_reducible apply U_mv); (first | rfl | decide)) | ((with_reducible apply E_dget); (first | rfl | decide)) | ((with_reducible apply E_app); (first | rfl | decide)) | ((with_reducible apply R_bin); (first | rfl | decide); (first | rfl | decide)) | ((with_reducible apply R_cmp); (first | rfl | decide); (first | rfl | decide); (first | rfl | decide)) | ((with_reducible apply R_idx); (first | rfl | decide); (first | rfl | decide)) | ((with_reducible apply R_isi); (first | rfl | decide); (first | rfl | decide)) | ((with_reducible apply R_blt); (first | rfl | decide); (first | rfl | decide)) | ((with_reducible apply R_didx); (first | rfl | decide); (first | rfl | decide); (first | rfl | decide)) | ((with_reducible apply R_cat); (first | rfl | decide); (first | rfl | decide); (first | rfl | decide); (first | rfl | decide)) | ((with_reducible apply R_slcU); (first | rfl | decide); (first | rfl | decide)) | ((with_reducible apply R_srt); (first | rfl | decide); (first | rfl | decide)) | ((with_reducible apply R_lof); (first | rfl | decide); (first | rfl | decide)) | ((with_reducible apply R_add)) | ((with_reducible apply R_subI)) | ((with_reducible apply R_sub); (first | rfl | decide); (first | rfl | decide); (first | rfl | decide); (first | rfl | decide)) | ((with_reducible apply R_dput); (first | rfl | decide); (first | rfl | decide); (first | rfl | decide); (first | rfl | decide)) | ((with_reducible apply R_dgt); (first | rfl | decide)) | ((with_reducible apply R_app); (first | rfl | decide); (first | rfl | decide); (first | rfl | decide)) | ((with_reducible apply R_wlk); (first | rfl | decide)) | ((with_reducible apply R_zip); (first | rfl | decide)) | ((with_reducible apply E_xfl); (first | rfl | decide)) | ((with_reducible apply E_xis); (first | rfl | decide); (first | rfl | decide)) | ((with_reducible apply M_yes); (first | rfl | decide)) | ((with_reducible apply M_no); (first | rfl | decide)) | ((with_reducible apply S_hnd); (first | rfl | decide); (first | rfl | decide); (first | rfl | decide)) | ((with_reducible apply X_1); rfl) | ((with_reducible apply X_2); rfl) | ((with_reducible apply X_3); rfl) | ((with_reducible refine R_mod ?_ ?_); omega) | ((with_reducible refine R_div ?_ ?_); omega) | ((with_reducible refine R_mul ?_ ?_); (first | (left; omega) | (right; omega))) | ((with_reducible apply R_pow); rfl) | ((with_reducible apply C_nil); rfl; rfl) | (with_reducible refine F_nil ?_) | ((with_reducible apply C_turn); rfl; rfl) | ((with_reducible apply F_cons); rfl) | with_reducible refine C_e ?_ | with_reducible refine C_t ?_)
      exact q _ a2 b2 _ _ _ _ _ ⟨0, ts, rfl, by decide, hT⟩ hp2
    · repeat (first | with_reducible refine E_cst ?_ | with_reducible refine V_e ?_ | with_reducible refine V_u ?_ | with_reducible refine A_nil ?_ | with_reducible refine A_cons ?_ | with_reducible refine A_d ?_ | with_reducible refine A_u ?_ | with_reducible refine S_cons ?_ | with_reducible refine S_nil ?_ | with_reducible refine S_ret ?_ | with_reducible refine S_if ?_ | with_reducible refine S_asg ?_ | with_reducible refine S_own ?_ | with_reducible refine T_val ?_ | with_reducible refine T_not ?_ | with_reducible refine T_cmp ?_ | with_reducible refine T_or1 ?_ | with_reducible refine T_or ?_ | with_reducible refine T_and1 ?_ | with_reducible refine T_and ?_ | with_reducible refine T_chn ?_ | with_reducible refine E_idx ?_ | with_reducible refine E_tup ?_ | with_reducible refine E_bin ?_ | with_reducible refine E_cmp ?_ | with_reducible refine E_isi ?_ | with_reducible refine E_blt ?_ | with_reducible refine E_frz ?_ | with_reducible refine E_chn ?_ | with_reducible refine E_and1 ?_ | with_reducible refine E_and ?_ | with_reducible refine E_or1 ?_ | with_reducible refine E_or ?_ | with_reducible refine E_not ?_ | with_reducible refine E_neg ?_ | with_reducible refine E_ite ?_ | with_reducible refine E_didx ?_ | with_reducible refine U_d ?_ | with_reducible refine U_lst ?_ | with_reducible refine U_cat ?_ | with_reducible refine U_slc ?_ | with_reducible refine U_lof ?_ | with_reducible refine U_srt ?_ | with_reducible refine U_comp ?_ | with_reducible refine U_ndic ?_ | with_reducible refine U_dlt ?_ | with_reducible refine U_call ?_ | with_reducible refine O_none ?_ | with_reducible refine O_some ?_ | with_reducible refine I_v ?_ | with_reducible refine I_rng ?_ | with_reducible refine I_zip ?_ | with_reducible refine S_for ?_ | with_reducible refine S_lc ?_ | with_reducible refine S_par ?_ | with_reducible refine S_sub ?_ | with_reducible refine S_dsub ?_ | with_reducible refine S_exp ?_ | with_reducible refine S_rse ?_ | with_reducible refine S_try ?_ | with_reducible refine S_unX ?_ | with_reducible refine S_mat ?_ | with_reducible refine M_nil ?_ | ((with_reducible apply E_var); (first | rfl | decide)) | ((with_reducible apply V_s); (first | rfl | decide)) | ((with_reducible apply A_r); (first | rfl | decide)) | ((with_reducible apply U_mv); (first | rfl | decide)) | ((with_reducible apply E_dget); (first | rfl | decide)) | ((with_reducible apply E_app); (first | rfl | decide)) | ((with_reducible apply R_bin); (first | rfl | decide); (first | rfl | decide)) | ((with_reducible apply R_cmp); (first | rfl | decide); (first | rfl | decide); (first | rfl | decide)) | ((with_reducible apply R_idx); (first | rfl | decide); (first | rfl | decide)) | ((with_reducible apply R_isi); (first | rfl | decide); (first | rfl | decide)) | ((with_reducible apply R_blt); (first | rfl | decide); (first | rfl | decide)) | ((with_reducible apply R_didx); (first | rfl | decide); (first | rfl | decide); (first | rfl | decide)) | ((with_reducible apply R_cat); (first | rfl | decide); (first | rfl | decide); (first | rfl | decide); (first | rfl | decide)) | ((with_reducible apply R_slcU); (first | rfl | decide); (first | rfl | decide)) | ((with_reducible apply R_srt); (first | rfl | decide); (first | rfl | decide)) | ((with_reducible apply R_lof); (first | rfl | decide); (first | rfl | decide)) | ((with_reducible apply R_add)) | ((with_reducible apply R_subI)) | ((with_reducible apply R_sub); (first | rfl | decide); (first | rfl | decide); (first | rfl | decide); (first | rfl | decide)) | ((with_reducible apply R_dput); (first | rfl | decide); (first | rfl | decide); (first | rfl | decide); (first | rfl | decide)) | ((with_reducible apply R_dgt); (first | rfl | decide)) | ((with_reducible apply R_app); (first | rfl | decide); (first | rfl | decide); (first | rfl | decide)) | ((with_reducible apply R_wlk); (first | rfl | decide)) | ((with_reducible apply R_zip); (first | rfl | decide)) | ((with_reducible apply E_xfl); (first | rfl | decide)) | ((with_reducible apply E_xis); (first | rfl | decide); (first | rfl | decide)) | ((with_reducible apply M_yes); (first | rfl | decide)) | ((with_reducible apply M_no); (first | rfl | decide)) | ((with_reducible apply S_hnd); (first | rfl | decide); (first | rfl | decide); (first | rfl | decide)) | ((with_reducible apply X_1); rfl) | ((with_reducible apply X_2); rfl) | ((with_reducible apply X_3); rfl) | ((with_reducible refine R_mod ?_ ?_); omega) | ((with_reducible refine R_div ?_ ?_); omega) | ((with_reducible refine R_mul ?_ ?_); (first | (left; omega) | (right; omega))) | ((with_reducible apply R_pow); rfl) | ((with_reducible apply C_nil); rfl; rfl) | (with_reducible refine F_nil ?_) | ((with_reducible apply C_turn); rfl; rfl) | ((with_reducible apply F_cons); rfl) | with_reducible refine C_e ?_ | with_reducible refine C_t ?_)
      exact q _ a2 b2 _ _ _ _ _ ⟨1, ts, rfl, by decide, hT⟩ hp2
    · repeat (first | with_reducible refine E_cst ?_ | with_reducible refine V_e ?_ | with_reducible refine V_u ?_ | with_reducible refine A_nil ?_ | with_reducible refine A_cons ?_ | with_reducible refine A_d ?_ | with_reducible refine A_u ?_ | with_reducible refine S_cons ?_ | with_reducible refine S_nil ?_ | with_reducible refine S_ret ?_ | with_reducible refine S_if ?_ | with_reducible refine S_asg ?_ | with_reducible refine S_own ?_ | with_reducible refine T_val ?_ | with_reducible refine T_not ?_ | with_reducible refine T_cmp ?_ | with_reducible refine T_or1 ?_ | with_reducible refine T_or ?_ | with_reducible refine T_and1 ?_ | with_reducible refine T_and ?_ | with_reducible refine T_chn ?_ | with_reducible refine E_idx ?_ | with_reducible refine E_tup ?_ | with_reducible refine E_bin ?_ | with_reducible refine E_cmp ?_ | with_reducible refine E_isi ?_ | with_reducible refine E_blt ?_ | with_reducible refine E_frz ?_ | with_reducible refine E_chn ?_ | with_reducible refine E_and1 ?_ | with_reducible refine E_and ?_ | with_reducible refine E_or1 ?_ | with_reducible refine E_or ?_ | with_reducible refine E_not ?_ | with_reducible refine E_neg ?_ | with_reducible refine E_ite ?_ | with_reducible refine E_didx ?_ | with_reducible refine U_d ?_ | with_reducible refine U_lst ?_ | with_reducible refine U_cat ?_ | with_reducible refine U_slc ?_ | with_reducible refine U_lof ?_ | with_reducible refine U_srt ?_ | with_reducible refine U_comp ?_ | with_reducible refine U_ndic ?_ | with_reducible refine U_dlt ?_ | with_reducible refine U_call ?_ | with_reducible refine O_none ?_ | with_reducible refine O_some ?_ | with_reducible refine I_v ?_ | with_reducible refine I_rng ?_ | with_reducible refine I_zip ?_ | with_reducible refine S_for ?_ | with_reducible refine S_lc ?_ | with_reducible refine S_par ?_ | with_reducible refine S_sub ?_ | with_reducible refine S_dsub ?_ | with_reducible refine S_exp ?_ | with_reducible refine S_rse ?_ | with_reducible refine S_try ?_ | with_reducible refine S_unX ?_ | with_reducible refine S_mat ?_ | with_reducible refine M_nil ?_ | ((with_reducible apply E_var); (first | rfl | decide)) | ((with_reducible apply V_s); (first | rfl | decide)) | ((with_reducible apply A_r); (first | rfl | decide)) | ((with_reducible apply U_mv); (first | rfl | decide)) | ((with_reducible apply E_dget); (first | rfl | decide)) | ((with_reducible apply E_app); (first | rfl | decide)) | ((with_reducible apply R_bin); (first | rfl | decide); (first | rfl | decide)) | ((with_reducible apply R_cmp); (first | rfl | decide); (first | rfl | decide); (first | rfl | decide)) | ((with_reducible apply R_idx); (first | rfl | decide); (first | rfl | decide)) | ((with_reducible apply R_isi); (first | rfl | decide); (first | rfl | decide)) | ((with_reducible apply R_blt); (first | rfl | decide); (first | rfl | decide)) | ((with_reducible apply R_didx); (first | rfl | decide); (first | rfl | decide); (first | rfl | decide)) | ((with_reducible apply R_cat); (first | rfl | decide); (first | rfl | decide); (first | rfl | decide); (first | rfl | decide)) | ((with_reducible apply R_slcU); (first | rfl | decide); (first | rfl | decide)) | ((with_reducible apply R_srt); (first | rfl | decide); (first | rfl | decide)) | ((with_reducible apply R_lof); (first | rfl | decide); (first | rfl | decide)) | ((with_reducible apply R_add)) | ((with_reducible apply R_subI)) | ((with_reducible apply R_sub); (first | rfl | decide); (first | rfl | decide); (first | rfl | decide); (first | rfl | decide)) | ((with_reducible apply R_dput); (first | rfl | decide); (first | rfl | decide); (first | rfl | decide); (first | rfl | decide)) | ((with_reducible apply R_dgt); (first | rfl | decide)) | ((with_reducible apply R_app); (first | rfl | decide); (first | rfl | decide); (first | rfl | decide)) | ((with_reducible apply R_wlk); (first | rfl | decide)) | ((with_reducible apply R_zip); (first | rfl | decide)) | ((with_reducible apply E_xfl); (first | rfl | decide)) | ((with_reducible apply E_xis); (first | rfl | decide); (first | rfl | decide)) | ((with_reducible apply M_yes); (first | rfl | decide)) | ((with_reducible apply M_no); (first | rfl | decide)) | ((with_reducible apply S_hnd); (first | rfl | decide); (first | rfl | decide); (first | rfl | decide)) | ((with_reducible apply X_1); rfl) | ((with_reducible apply X_2); rfl) | ((with_reducible apply X_3); rfl) | ((with_reducible refine R_mod ?_ ?_); omega) | ((with_reducible refine R_div ?_ ?_); omega) | ((with_reducible refine R_mul ?_ ?_); (first | (left; omega) | (right; omega))) | ((with_reducible apply R_pow); rfl) | ((with_reducible apply C_nil); rfl; rfl) | (with_reducible refine F_nil ?_) | ((with_reducible apply C_turn); rfl; rfl) | ((with_reducible apply F_cons); rfl) | with_reducible refine C_e ?_ | with_reducible refine C_t ?_)
      exact q _ a2 b2 _ _ _ _ _ ⟨-2, ts, rfl, by decide, hT⟩ hp2
    · repeat (first | with_reducible refine E_cst ?_ | with_reducible refine V_e ?_ | with_reducible refine V_u ?_ | with_reducible refine A_nil ?_ | with_reducible refine A_cons ?_ | with_reducible refine A_d ?_ | with_reducible refine A_u ?_ | with_reducible refine S_cons ?_ | with_reducible refine S_nil ?_ | with_reducible refine S_ret ?_ | with_reducible refine S_if ?_ | with_reducible refine S_asg ?_ | with_reducible refine S_own ?_ | with_reducible refine T_val ?_ | with_reducible refine T_not ?_ | with_reducible refine T_cmp ?_ | with_reducible refine T_or1 ?_ | with_reducible refine T_or ?_ | with_reducible refine T_and1 ?_ | with_reducible refine T_and ?_ | with_reducible refine T_chn ?_ | with_reducible refine E_idx ?_ | with_reducible refine E_tup ?_ | with_reducible refine E_bin ?_ | with_reducible refine E_cmp ?_ | with_reducible refine E_isi ?_ | with_reducible refine E_blt ?_ | with_reducible refine E_frz ?_ | with_reducible refine E_chn ?_ | with_reducible refine E_and1 ?_ | with_reducible refine E_and ?_ | with_reducible refine E_or1 ?_ | with_reducible refine E_or ?_ | with_reducible refine E_not ?_ | with_reducible refine E_neg ?_ | with_reducible refine E_ite ?_ | with_reducible refine E_didx ?_ | with_reducible refine U_d ?_ | with_reducible refine U_lst ?_ | with_reducible refine U_cat ?_ | with_reducible refine U_slc ?_ | with_reducible refine U_lof ?_ | with_reducible refine U_srt ?_ | with_reducible refine U_comp ?_ | with_reducible refine U_ndic ?_ | with_reducible refine U_dlt ?_ | with_reducible refine U_call ?_ | with_reducible refine O_none ?_ | with_reducible refine O_some ?_ | with_reducible refine I_v ?_ | with_reducible refine I_rng ?_ | with_reducible refine I_zip ?_ | with_reducible refine S_for ?_ | with_reducible refine S_lc ?_ | with_reducible refine S_par ?_ | with_reducible refine S_sub ?_ | with_reducible refine S_dsub ?_ | with_reducible refine S_exp ?_ | with_reducible refine S_rse ?_ | with_reducible refine S_try ?_ | with_reducible refine S_unX ?_ | with_reducible refine S_mat ?_ | with_reducible refine M_nil ?_ | ((with_reducible apply E_var); (first | rfl | decide)) | ((with_reducible apply V_s); (first | rfl | decide)) | ((with_reducible apply A_r); (first | rfl | decide)) | ((with_reducible apply U_mv); (first | rfl | decide)) | ((with_reducible apply E_dget); (first | rfl | decide)) | ((with_reducible apply E_app); (first | rfl | decide)) | ((with_reducible apply R_bin); (first | rfl | decide); (first | rfl | decide)) | ((with_reducible apply R_cmp); (first | rfl | decide); (first | rfl | decide); (first | rfl | decide)) | ((with_reducible apply R_idx); (first | rfl | decide); (first | rfl | decide)) | ((with_reducible apply R_isi); (first | rfl | decide); (first | rfl | decide)) | ((with_reducible apply R_blt); (first | rfl | decide); (first | rfl | decide)) | ((with_reducible apply R_didx); (first | rfl | decide); (first | rfl | decide); (first | rfl | decide)) | ((with_reducible apply R_cat); (first | rfl | decide); (first | rfl | decide); (first | rfl | decide); (first | rfl | decide)) | ((with_reducible apply R_slcU); (first | rfl | decide); (first | rfl | decide)) | ((with_reducible apply R_srt); (first | rfl | decide); (first | rfl | decide)) | ((with_reducible apply R_lof); (first | rfl | decide); (first | rfl | decide)) | ((with_reducible apply R_add)) | ((with_reducible apply R_subI)) | ((with_reducible apply R_sub); (first | rfl | decide); (first | rfl | decide); (first | rfl | decide); (first | rfl | decide)) | ((with_reducible apply R_dput); (first | rfl | decide); (first | rfl | decide); (first | rfl | decide); (first | rfl | decide)) | ((with_reducible apply R_dgt); (first | rfl | decide)) | ((with_reducible apply R_app); (first | rfl | decide); (first | rfl | decide); (first | rfl | decide)) | ((with_reducible apply R_wlk); (first | rfl | decide)) | ((with_reducible apply R_zip); (first | rfl | decide)) | ((with_reducible apply E_xfl); (first | rfl | decide)) | ((with_reducible apply E_xis); (first | rfl | decide); (first | rfl | decide)) | ((with_reducible apply M_yes); (first | rfl | decide)) | ((with_reducible apply M_no); (first | rfl | decide)) | ((with_reducible apply S_hnd); (first | rfl | decide); (first | rfl | decide); (first | rfl | decide)) | ((with_reducible apply X_1); rfl) | ((with_reducible apply X_2); rfl) | ((with_reducible apply X_3); rfl) | ((with_reducible refine R_mod ?_ ?_); omega) | ((with_reducible refine R_div ?_ ?_); omega) | ((with_reducible refine R_mul ?_ ?_); (first | (left; omega) | (right; omega))) | ((with_reducible apply R_pow); rfl) | ((with_reducible apply C_nil); rfl; rfl) | (with_reducible refine F_nil ?_) | ((with_reducible apply C_turn); rfl; rfl) | ((with_reducible apply F_cons); rfl) | with_reducible refine C_e ?_ | with_reducible refine C_t ?_)
      exact q _ a2 b2 _ _ _ _ _ ⟨5, ts, rfl, by decide, hT⟩ hp2
  have one : ∀ f n, n ∈ NM → W.str n ∈ ws → f ≠ 0 → -9 < f → f < 9 → TmIn ws [.tup [.int f, .str n]] := fun f n hn hw f0 f1 f2 => ⟨.inr (.inl ⟨f, n, hn, f0, f1, f2, rfl⟩), fun g m hm => by
    have e := List.mem_singleton.mp hm
    cases e
    exact hw⟩
  have two : ∀ f n g m, (n, m) ∈ PR → W.str n ∈ ws → W.str m ∈ ws → f ≠ 0 → -9 < f → f < 9 → g ≠ 0 → -9 < g → g < 9 → TmIn ws [.tup [.int f, .str n], .tup [.int g, .str m]] := fun f n g m hn hw hw2 f0 f1 f2 g0 g1 g2 => ⟨.inr (.inr ⟨f, n, g, m, hn, f0, f1, f2, g0, g1, g2, rfl⟩), fun h k hm => by
    rcases List.mem_cons.mp hm with e | hm
    · cases e; exact hw
    · have e := List.mem_singleton.mp hm
      cases e
      exact hw2⟩
  have no : TmIn ws [] := ⟨.inl rfl, fun _ _ h => nomatch h⟩
  have dn : ∀ {f : Int}, f ≠ 0 → (!decide (f = 0)) = true := fun h => by rw [decide_eq_false h]; rfl
  rcases h4 with rfl | ⟨w4, rfl⟩
  all_goals
    rcases hd with ⟨rfl, rfl⟩ | ⟨n, f, hn, hnw, f1, f2, rfl, rfl⟩ | ⟨n, f, m, g, hn, hnw, hmw, f0, f1, f2, g0, g1, g2, rfl, rfl⟩
    · refine S_cons (S_asg ?_)
      repeat (first | with_reducible refine E_cst ?_ | with_reducible refine V_e ?_ | with_reducible refine V_u ?_ | with_reducible refine A_nil ?_ | with_reducible refine A_cons ?_ | with_reducible refine A_d ?_ | with_reducible refine A_u ?_ | with_reducible refine S_nil ?_ | with_reducible refine S_ret ?_ | with_reducible refine S_if ?_ | with_reducible refine S_asg ?_ | with_reducible refine S_own ?_ | with_reducible refine T_val ?_ | with_reducible refine T_not ?_ | with_reducible refine T_cmp ?_ | with_reducible refine T_or1 ?_ | with_reducible refine T_or ?_ | with_reducible refine T_and1 ?_ | with_reducible refine T_and ?_ | with_reducible refine T_chn ?_ | with_reducible refine E_idx ?_ | with_reducible refine E_tup ?_ | with_reducible refine E_bin ?_ | with_reducible refine E_cmp ?_ | with_reducible refine E_isi ?_ | with_reducible refine E_blt ?_ | with_reducible refine E_frz ?_ | with_reducible refine E_chn ?_ | with_reducible refine E_and1 ?_ | with_reducible refine E_and ?_ | with_reducible refine E_or1 ?_ | with_reducible refine E_or ?_ | with_reducible refine E_not ?_ | with_reducible refine E_neg ?_ | with_reducible refine E_ite ?_ | with_reducible refine E_didx ?_ | with_reducible refine U_d ?_ | with_reducible refine U_lst ?_ | with_reducible refine U_cat ?_ | with_reducible refine U_slc ?_ | with_reducible refine U_lof ?_ | with_reducible refine U_srt ?_ | with_reducible refine U_comp ?_ | with_reducible refine U_ndic ?_ | with_reducible refine U_dlt ?_ | with_reducible refine U_call ?_ | with_reducible refine O_none ?_ | with_reducible refine O_some ?_ | with_reducible refine I_v ?_ | with_reducible refine I_rng ?_ | with_reducible refine I_zip ?_ | with_reducible refine S_for ?_ | with_reducible refine S_lc ?_ | with_reducible refine S_par ?_ | with_reducible refine S_sub ?_ | with_reducible refine S_dsub ?_ | with_reducible refine S_exp ?_ | with_reducible refine S_rse ?_ | with_reducible refine S_try ?_ | with_reducible refine S_unX ?_ | with_reducible refine S_mat ?_ | with_reducible refine M_nil ?_ | ((with_reducible apply E_var); (first | rfl | decide)) | ((with_reducible apply V_s); (first | rfl | decide)) | ((with_reducible apply A_r); (first | rfl | decide)) | ((with_reducible apply U_mv); (first | rfl | decide)) | ((with_reducible apply E_dget); (first | rfl | decide)) | ((with_reducible apply E_app); (first | rfl | decide)) | ((with_reducible apply R_bin); (first | rfl | decide); (first | rfl | decide)) | ((with_reducible apply R_cmp); (first | rfl | decide); (first | rfl | decide); (first | rfl | decide)) | ((with_reducible apply R_idx); (first | rfl | decide); (first | rfl | decide)) | ((with_reducible apply R_isi); (first | rfl | decide); (first | rfl | decide)) | ((with_reducible apply R_blt); (first | rfl | decide); (first | rfl | decide)) | ((with_reducible apply R_didx); (first | rfl | decide); (first | rfl | decide); (first | rfl | decide)) | ((with_reducible apply R_cat); (first | rfl | decide); (first | rfl | decide); (first | rfl | decide); (first | rfl | decide)) | ((with_reducible apply R_slcU); (first | rfl | decide); (first | rfl | decide)) | ((with_reducible apply R_srt); (first | rfl | decide); (first | rfl | decide)) | ((with_reducible apply R_lof); (first | rfl | decide); (first | rfl | decide)) | ((with_reducible apply R_add)) | ((with_reducible apply R_subI)) | ((with_reducible apply R_sub); (first | rfl | decide); (first | rfl | decide); (first | rfl | decide); (first | rfl | decide)) | ((with_reducible apply R_dput); (first | rfl | decide); (first | rfl | decide); (first | rfl | decide); (first | rfl | decide)) | ((with_reducible apply R_dgt); (first | rfl | decide)) | ((with_reducible apply R_app); (first | rfl | decide); (first | rfl | decide); (first | rfl | decide)) | ((with_reducible apply R_wlk); (first | rfl | decide)) | ((with_reducible apply R_zip); (first | rfl | decide)) | ((with_reducible apply E_xfl); (first | rfl | decide)) | ((with_reducible apply E_xis); (first | rfl | decide); (first | rfl | decide)) | ((with_reducible apply M_yes); (first | rfl | decide)) | ((with_reducible apply M_no); (first | rfl | decide)) | ((with_reducible apply S_hnd); (first | rfl | decide); (first | rfl | decide); (first | rfl | decide)) | ((with_reducible apply iteY); (first | rfl | decide)) | ((with_reducible apply iteF); (first | rfl | decide)) | ((with_reducible apply iteN); (first | rfl | decide)) | ((with_reducible apply X_1); rfl) | ((with_reducible apply X_2); rfl) | ((with_reducible apply X_3); rfl) | ((with_reducible refine R_mod ?_ ?_); omega) | ((with_reducible refine R_div ?_ ?_); omega) | ((with_reducible refine R_mul ?_ ?_); (first | (left; omega) | (right; omega))) | ((with_reducible apply R_pow); rfl) | ((with_reducible apply C_nil); rfl; rfl) | (with_reducible refine F_nil ?_) | ((with_reducible apply C_turn); rfl; rfl) | ((with_reducible apply F_cons); rfl) | with_reducible refine C_e ?_ | with_reducible refine C_t ?_)
      exact last [] _ _ _ _ no
    · refine S_cons (S_asg ?_)
      have hn' := hn
      simp only [NM, List.mem_cons, List.not_mem_nil, or_false] at hn'
      by_cases f0 : f = 0
      · subst f0
        rcases hn' with rfl | rfl | rfl | rfl
        all_goals
          repeat (first | with_reducible refine E_cst ?_ | with_reducible refine V_e ?_ | with_reducible refine V_u ?_ | with_reducible refine A_nil ?_ | with_reducible refine A_cons ?_ | with_reducible refine A_d ?_ | with_reducible refine A_u ?_ | with_reducible refine S_nil ?_ | with_reducible refine S_ret ?_ | with_reducible refine S_if ?_ | with_reducible refine S_asg ?_ | with_reducible refine S_own ?_ | with_reducible refine T_val ?_ | with_reducible refine T_not ?_ | with_reducible refine T_cmp ?_ | with_reducible refine T_or1 ?_ | with_reducible refine T_or ?_ | with_reducible refine T_and1 ?_ | with_reducible refine T_and ?_ | with_reducible refine T_chn ?_ | with_reducible refine E_idx ?_ | with_reducible refine E_tup ?_ | with_reducible refine E_bin ?_ | with_reducible refine E_cmp ?_ | with_reducible refine E_isi ?_ | with_reducible refine E_blt ?_ | with_reducible refine E_frz ?_ | with_reducible refine E_chn ?_ | with_reducible refine E_and1 ?_ | with_reducible refine E_and ?_ | with_reducible refine E_or1 ?_ | with_reducible refine E_or ?_ | with_reducible refine E_not ?_ | with_reducible refine E_neg ?_ | with_reducible refine E_ite ?_ | with_reducible refine E_didx ?_ | with_reducible refine U_d ?_ | with_reducible refine U_lst ?_ | with_reducible refine U_cat ?_ | with_reducible refine U_slc ?_ | with_reducible refine U_lof ?_ | with_reducible refine U_srt ?_ | with_reducible refine U_comp ?_ | with_reducible refine U_ndic ?_ | with_reducible refine U_dlt ?_ | with_reducible refine U_call ?_ | with_reducible refine O_none ?_ | with_reducible refine O_some ?_ | with_reducible refine I_v ?_ | with_reducible refine I_rng ?_ | with_reducible refine I_zip ?_ | with_reducible refine S_for ?_ | with_reducible refine S_lc ?_ | with_reducible refine S_par ?_ | with_reducible refine S_sub ?_ | with_reducible refine S_dsub ?_ | with_reducible refine S_exp ?_ | with_reducible refine S_rse ?_ | with_reducible refine S_try ?_ | with_reducible refine S_unX ?_ | with_reducible refine S_mat ?_ | with_reducible refine M_nil ?_ | ((with_reducible apply E_var); (first | rfl | decide)) | ((with_reducible apply V_s); (first | rfl | decide)) | ((with_reducible apply A_r); (first | rfl | decide)) | ((with_reducible apply U_mv); (first | rfl | decide)) | ((with_reducible apply E_dget); (first | rfl | decide)) | ((with_reducible apply E_app); (first | rfl | decide)) | ((with_reducible apply R_bin); (first | rfl | decide); (first | rfl | decide)) | ((with_reducible apply R_cmp); (first | rfl | decide); (first | rfl | decide); (first | rfl | decide)) | ((with_reducible apply R_idx); (first | rfl | decide); (first | rfl | decide)) | ((with_reducible apply R_isi); (first | rfl | decide); (first | rfl | decide)) | ((with_reducible apply R_blt); (first | rfl | decide); (first | rfl | decide)) | ((with_reducible apply R_didx); (first | rfl | decide); (first | rfl | decide); (first | rfl | decide)) | ((with_reducible apply R_cat); (first | rfl | decide); (first | rfl | decide); (first | rfl | decide); (first | rfl | decide)) | ((with_reducible apply R_slcU); (first | rfl | decide); (first | rfl | decide)) | ((with_reducible apply R_srt); (first | rfl | decide); (first | rfl | decide)) | ((with_reducible apply R_lof); (first | rfl | decide); (first | rfl | decide)) | ((with_reducible apply R_add)) | ((with_reducible apply R_subI)) | ((with_reducible apply R_sub); (first | rfl | decide); (first | rfl | decide); (first | rfl | decide); (first | rfl | decide)) | ((with_reducible apply R_dput); (first | rfl | decide); (first | rfl | decide); (first | rfl | decide); (first | rfl | decide)) | ((with_reducible apply R_dgt); (first | rfl | decide)) | ((with_reducible apply R_app); (first | rfl | decide); (first | rfl | decide); (first | rfl | decide)) | ((with_reducible apply R_wlk); (first | rfl | decide)) | ((with_reducible apply R_zip); (first | rfl | decide)) | ((with_reducible apply E_xfl); (first | rfl | decide)) | ((with_reducible apply E_xis); (first | rfl | decide); (first | rfl | decide)) | ((with_reducible apply M_yes); (first | rfl | decide)) | ((with_reducible apply M_no); (first | rfl | decide)) | ((with_reducible apply S_hnd); (first | rfl | decide); (first | rfl | decide); (first | rfl | decide)) | ((with_reducible apply iteY); (first | rfl | decide)) | ((with_reducible apply iteF); (first | rfl | decide)) | ((with_reducible apply iteN); (first | rfl | decide)) | ((with_reducible apply X_1); rfl) | ((with_reducible apply X_2); rfl) | ((with_reducible apply X_3); rfl) | ((with_reducible refine R_mod ?_ ?_); omega) | ((with_reducible refine R_div ?_ ?_); omega) | ((with_reducible refine R_mul ?_ ?_); (first | (left; omega) | (right; omega))) | ((with_reducible apply R_pow); rfl) | ((with_reducible apply C_nil); rfl; rfl) | (with_reducible refine F_nil ?_) | ((with_reducible apply C_turn); rfl; rfl) | ((with_reducible apply F_cons); rfl) | with_reducible refine C_e ?_ | with_reducible refine C_t ?_)
          exact last [] _ _ _ _ no
      · have e := dn f0
        rcases hn' with rfl | rfl | rfl | rfl
        all_goals
          repeat (first | ((with_reducible apply iteY); exact e) | with_reducible refine E_cst ?_ | with_reducible refine V_e ?_ | with_reducible refine V_u ?_ | with_reducible refine A_nil ?_ | with_reducible refine A_cons ?_ | with_reducible refine A_d ?_ | with_reducible refine A_u ?_ | with_reducible refine S_nil ?_ | with_reducible refine S_ret ?_ | with_reducible refine S_if ?_ | with_reducible refine S_asg ?_ | with_reducible refine S_own ?_ | with_reducible refine T_val ?_ | with_reducible refine T_not ?_ | with_reducible refine T_cmp ?_ | with_reducible refine T_or1 ?_ | with_reducible refine T_or ?_ | with_reducible refine T_and1 ?_ | with_reducible refine T_and ?_ | with_reducible refine T_chn ?_ | with_reducible refine E_idx ?_ | with_reducible refine E_tup ?_ | with_reducible refine E_bin ?_ | with_reducible refine E_cmp ?_ | with_reducible refine E_isi ?_ | with_reducible refine E_blt ?_ | with_reducible refine E_frz ?_ | with_reducible refine E_chn ?_ | with_reducible refine E_and1 ?_ | with_reducible refine E_and ?_ | with_reducible refine E_or1 ?_ | with_reducible refine E_or ?_ | with_reducible refine E_not ?_ | with_reducible refine E_neg ?_ | with_reducible refine E_ite ?_ | with_reducible refine E_didx ?_ | with_reducible refine U_d ?_ | with_reducible refine U_lst ?_ | with_reducible refine U_cat ?_ | with_reducible refine U_slc ?_ | with_reducible refine U_lof ?_ | with_reducible refine U_srt ?_ | with_reducible refine U_comp ?_ | with_reducible refine U_ndic ?_ | with_reducible refine U_dlt ?_ | with_reducible refine U_call ?_ | with_reducible refine O_none ?_ | with_reducible refine O_some ?_ | with_reducible refine I_v ?_ | with_reducible refine I_rng ?_ | with_reducible refine I_zip ?_ | with_reducible refine S_for ?_ | with_reducible refine S_lc ?_ | with_reducible refine S_par ?_ | with_reducible refine S_sub ?_ | with_reducible refine S_dsub ?_ | with_reducible refine S_exp ?_ | with_reducible refine S_rse ?_ | with_reducible refine S_try ?_ | with_reducible refine S_unX ?_ | with_reducible refine S_mat ?_ | with_reducible refine M_nil ?_ | ((with_reducible apply E_var); (first | rfl | decide)) | ((with_reducible apply V_s); (first | rfl | decide)) | ((with_reducible apply A_r); (first | rfl | decide)) | ((with_reducible apply U_mv); (first | rfl | decide)) | ((with_reducible apply E_dget); (first | rfl | decide)) | ((with_reducible apply E_app); (first | rfl | decide)) | ((with_reducible apply R_bin); (first | rfl | decide); (first | rfl | decide)) | ((with_reducible apply R_cmp); (first | rfl | decide); (first | rfl | decide); (first | rfl | decide)) | ((with_reducible apply R_idx); (first | rfl | decide); (first | rfl | decide)) | ((with_reducible apply R_isi); (first | rfl | decide); (first | rfl | decide)) | ((with_reducible apply R_blt); (first | rfl | decide); (first | rfl | decide)) | ((with_reducible apply R_didx); (first | rfl | decide); (first | rfl | decide); (first | rfl | decide)) | ((with_reducible apply R_cat); (first | rfl | decide); (first | rfl | decide); (first | rfl | decide); (first | rfl | decide)) | ((with_reducible apply R_slcU); (first | rfl | decide); (first | rfl | decide)) | ((with_reducible apply R_srt); (first | rfl | decide); (first | rfl | decide)) | ((with_reducible apply R_lof); (first | rfl | decide); (first | rfl | decide)) | ((with_reducible apply R_add)) | ((with_reducible apply R_subI)) | ((with_reducible apply R_sub); (first | rfl | decide); (first | rfl | decide); (first | rfl | decide); (first | rfl | decide)) | ((with_reducible apply R_dput); (first | rfl | decide); (first | rfl | decide); (first | rfl | decide); (first | rfl | decide)) | ((with_reducible apply R_dgt); (first | rfl | decide)) | ((with_reducible apply R_app); (first | rfl | decide); (first | rfl | decide); (first | rfl | decide)) | ((with_reducible apply R_wlk); (first | rfl | decide)) | ((with_reducible apply R_zip); (first | rfl | decide)) | ((with_reducible apply E_xfl); (first | rfl | decide)) | ((with_reducible apply E_xis); (first | rfl | decide); (first | rfl | decide)) | ((with_reducible apply M_yes); (first | rfl | decide)) | ((with_reducible apply M_no); (first | rfl | decide)) | ((with_reducible apply S_hnd); (first | rfl | decide); (first | rfl | decide); (first | rfl | decide)) | ((with_reducible apply iteY); (first | rfl | decide)) | ((with_reducible apply iteF); (first | rfl | decide)) | ((with_reducible apply iteN); (first | rfl | decide)) | ((with_reducible apply X_1); rfl) | ((with_reducible apply X_2); rfl) | ((with_reducible apply X_3); rfl) | ((with_reducible refine R_mod ?_ ?_); omega) | ((with_reducible refine R_div ?_ ?_); omega) | ((with_reducible refine R_mul ?_ ?_); (first | (left; omega) | (right; omega))) | ((with_reducible apply R_pow); rfl) | ((with_reducible apply C_nil); rfl; rfl) | (with_reducible refine F_nil ?_) | ((with_reducible apply C_turn); rfl; rfl) | ((with_reducible apply F_cons); rfl) | with_reducible refine C_e ?_ | with_reducible refine C_t ?_)
          exact last _ _ _ _ _ (one f _ hn hnw f0 f1 f2)
    · refine S_cons (S_asg ?_)
      have e := dn f0
      have e' := dn g0
      rcases hn with hn | hn
      · have hn' := hn
        simp only [PR, List.mem_cons, List.not_mem_nil, or_false, Prod.mk.injEq] at hn'
        rcases hn' with ⟨rfl, rfl⟩ | ⟨rfl, rfl⟩ | ⟨rfl, rfl⟩ | ⟨rfl, rfl⟩ | ⟨rfl, rfl⟩ | ⟨rfl, rfl⟩
        all_goals
          repeat (first | ((with_reducible apply iteY); exact e) | ((with_reducible apply iteY); exact e') | with_reducible refine E_cst ?_ | with_reducible refine V_e ?_ | with_reducible refine V_u ?_ | with_reducible refine A_nil ?_ | with_reducible refine A_cons ?_ | with_reducible refine A_d ?_ | with_reducible refine A_u ?_ | with_reducible refine S_nil ?_ | with_reducible refine S_ret ?_ | with_reducible refine S_if ?_ | with_reducible refine S_asg ?_ | with_reducible refine S_own ?_ | with_reducible refine T_val ?_ | with_reducible refine T_not ?_ | with_reducible refine T_cmp ?_ | with_reducible refine T_or1 ?_ | with_reducible refine T_or ?_ | with_reducible refine T_and1 ?_ | with_reducible refine T_and ?_ | with_reducible refine T_chn ?_ | with_reducible refine E_idx ?_ | with_reducible refine E_tup ?_ | with_reducible refine E_bin ?_ | with_reducible refine E_cmp ?_ | with_reducible refine E_isi ?_ | with_reducible refine E_blt ?_ | with_reducible refine E_frz ?_ | with_reducible refine E_chn ?_ | with_reducible refine E_and1 ?_ | with_reducible refine E_and ?_ | with_reducible refine E_or1 ?_ | with_reducible refine E_or ?_ | with_reducible refine E_not ?_ | with_reducible refine E_neg ?_ | with_reducible refine E_ite ?_ | with_reducible refine E_didx ?_ | with_reducible refine U_d ?_ | with_reducible refine U_lst ?_ | with_reducible refine U_cat ?_ | with_reducible refine U_slc ?_ | with_reducible refine U_lof ?_ | with_reducible refine U_srt ?_ | with_reducible refine U_comp ?_ | with_reducible refine U_ndic ?_ | with_reducible refine U_dlt ?_ | with_reducible refine U_call ?_ | with_reducible refine O_none ?_ | with_reducible refine O_some ?_ | with_reducible refine I_v ?_ | with_reducible refine I_rng ?_ | with_reducible refine I_zip ?_ | with_reducible refine S_for ?_ | with_reducible refine S_lc ?_ | with_reducible refine S_par ?_ | with_reducible refine S_sub ?_ | with_reducible refine S_dsub ?_ | with_reducible refine S_exp ?_ | with_reducible refine S_rse ?_ | with_reducible refine S_try ?_ | with_reducible refine S_unX ?_ | with_reducible refine S_mat ?_ | with_reducible refine M_nil ?_ | ((with_reducible apply E_var); (first | rfl | decide)) | ((with_reducible apply V_s); (first | rfl | decide)) | ((with_reducible apply A_r); (first | rfl | decide)) | ((with_reducible apply U_mv); (first | rfl | decide)) | ((with_reducible apply E_dget); (first | rfl | decide)) | ((with_reducible apply E_app); (first | rfl | decide)) | ((with_reducible apply R_bin); (first | rfl | decide); (first | rfl | decide)) | ((with_reducible apply R_cmp); (first | rfl | decide); (first | rfl | decide); (first | rfl | decide)) | ((with_reducible apply R_idx); (first | rfl | decide); (first | rfl | decide)) | ((with_reducible apply R_isi); (first | rfl | decide); (first | rfl | decide)) | ((with_reducible apply R_blt); (first | rfl | decide); (first | rfl | decide)) | ((with_reducible apply R_didx); (first | rfl | decide); (first | rfl | decide); (first | rfl | decide)) | ((with_reducible apply R_cat); (first | rfl | decide); (first | rfl | decide); (first | rfl | decide); (first | rfl | decide)) | ((with_reducible apply R_slcU); (first | rfl | decide); (first | rfl | decide)) | ((with_reducible apply R_srt); (first | rfl | decide); (first | rfl | decide)) | ((with_reducible apply R_lof); (first | rfl | decide); (first | rfl | decide)) | ((with_reducible apply R_add)) | ((with_reducible apply R_subI)) | ((with_reducible apply R_sub); (first | rfl | decide); (first | rfl | decide); (first | rfl | decide); (first | rfl | decide)) | ((with_reducible apply R_dput); (first | rfl | decide); (first | rfl | decide); (first | rfl | decide); (first | rfl | decide)) | ((with_reducible apply R_dgt); (first | rfl | decide)) | ((with_reducible apply R_app); (first | rfl | decide); (first | rfl | decide); (first | rfl | decide)) | ((with_reducible apply R_wlk); (first | rfl | decide)) | ((with_reducible apply R_zip); (first | rfl | decide)) | ((with_reducible apply E_xfl); (first | rfl | decide)) | ((with_reducible apply E_xis); (first | rfl | decide); (first | rfl | decide)) | ((with_reducible apply M_yes); (first | rfl | decide)) | ((with_reducible apply M_no); (first | rfl | decide)) | ((with_reducible apply S_hnd); (first | rfl | decide); (first | rfl | decide); (first | rfl | decide)) | ((with_reducible apply iteY); (first | rfl | decide)) | ((with_reducible apply iteF); (first | rfl | decide)) | ((with_reducible apply iteN); (first | rfl | decide)) | ((with_reducible apply X_1); rfl) | ((with_reducible apply X_2); rfl) | ((with_reducible apply X_3); rfl) | ((with_reducible refine R_mod ?_ ?_); omega) | ((with_reducible refine R_div ?_ ?_); omega) | ((with_reducible refine R_mul ?_ ?_); (first | (left; omega) | (right; omega))) | ((with_reducible apply R_pow); rfl) | ((with_reducible apply C_nil); rfl; rfl) | (with_reducible refine F_nil ?_) | ((with_reducible apply C_turn); rfl; rfl) | ((with_reducible apply F_cons); rfl) | with_reducible refine C_e ?_ | with_reducible refine C_t ?_)
          exact last _ _ _ _ _ (two f _ g _ hn hnw hmw f0 f1 f2 g0 g1 g2)
      · have hn' := hn
        simp only [PR, List.mem_cons, List.not_mem_nil, or_false, Prod.mk.injEq] at hn'
        rcases hn' with ⟨rfl, rfl⟩ | ⟨rfl, rfl⟩ | ⟨rfl, rfl⟩ | ⟨rfl, rfl⟩ | ⟨rfl, rfl⟩ | ⟨rfl, rfl⟩
        all_goals
          repeat (first | ((with_reducible apply iteY); exact e) | ((with_reducible apply iteY); exact e') | with_reducible refine E_cst ?_ | with_reducible refine V_e ?_ | with_reducible refine V_u ?_ | with_reducible refine A_nil ?_ | with_reducible refine A_cons ?_ | with_reducible refine A_d ?_ | with_reducible refine A_u ?_ | with_reducible refine S_nil ?_ | with_reducible refine S_ret ?_ | with_reducible refine S_if ?_ | with_reducible refine S_asg ?_ | with_reducible refine S_own ?_ | with_reducible refine T_val ?_ | with_reducible refine T_not ?_ | with_reducible refine T_cmp ?_ | with_reducible refine T_or1 ?_ | with_reducible refine T_or ?_ | with_reducible refine T_and1 ?_ | with_reducible refine T_and ?_ | with_reducible refine T_chn ?_ | with_reducible refine E_idx ?_ | with_reducible refine E_tup ?_ | with_reducible refine E_bin ?_ | with_reducible refine E_cmp ?_ | with_reducible refine E_isi ?_ | with_reducible refine E_blt ?_ | with_reducible refine E_frz ?_ | with_reducible refine E_chn ?_ | with_reducible refine E_and1 ?_ | with_reducible refine E_and ?_ | with_reducible refine E_or1 ?_ | with_reducible refine E_or ?_ | with_reducible refine E_not ?_ | with_reducible refine E_neg ?_ | with_reducible refine E_ite ?_ | with_reducible refine E_didx ?_ | with_reducible refine U_d ?_ | with_reducible refine U_lst ?_ | with_reducible refine U_cat ?_ | with_reducible refine U_slc ?_ | with_reducible refine U_lof ?_ | with_reducible refine U_srt ?_ | with_reducible refine U_comp ?_ | with_reducible refine U_ndic ?_ | with_reducible refine U_dlt ?_ | with_reducible refine U_call ?_ | with_reducible refine O_none ?_ | with_reducible refine O_some ?_ | with_reducible refine I_v ?_ | with_reducible refine I_rng ?_ | with_reducible refine I_zip ?_ | with_reducible refine S_for ?_ | with_reducible refine S_lc ?_ | with_reducible refine S_par ?_ | with_reducible refine S_sub ?_ | with_reducible refine S_dsub ?_ | with_reducible refine S_exp ?_ | with_reducible refine S_rse ?_ | with_reducible refine S_try ?_ | with_reducible refine S_unX ?_ | with_reducible refine S_mat ?_ | with_reducible refine M_nil ?_ | ((with_reducible apply E_var); (first | rfl | decide)) | ((with_reducible apply V_s); (first | rfl | decide)) | ((with_reducible apply A_r); (first | rfl | decide)) | ((with_reducible apply U_mv); (first | rfl | decide)) | ((with_reducible apply E_dget); (first | rfl | decide)) | ((with_reducible apply E_app); (first | rfl | decide)) | ((with_reducible apply R_bin); (first | rfl | decide); (first | rfl | decide)) | ((with_reducible apply R_cmp); (first | rfl | decide); (first | rfl | decide); (first | rfl | decide)) | ((with_reducible apply R_idx); (first | rfl | decide); (first | rfl | decide)) | ((with_reducible apply R_isi); (first | rfl | decide); (first | rfl | decide)) | ((with_reducible apply R_blt); (first | rfl | decide); (first | rfl | decide)) | ((with_reducible apply R_didx); (first | rfl | decide); (first | rfl | decide); (first | rfl | decide)) | ((with_reducible apply R_cat); (first | rfl | decide); (first | rfl | decide); (first | rfl | decide); (first | rfl | decide)) | ((with_reducible apply R_slcU); (first | rfl | decide); (first | rfl | decide)) | ((with_reducible apply R_srt); (first | rfl | decide); (first | rfl | decide)) | ((with_reducible apply R_lof); (first | rfl | decide); (first | rfl | decide)) | ((with_reducible apply R_add)) | ((with_reducible apply R_subI)) | ((with_reducible apply R_sub); (first | rfl | decide); (first | rfl | decide); (first | rfl | decide); (first | rfl | decide)) | ((with_reducible apply R_dput); (first | rfl | decide); (first | rfl | decide); (first | rfl | decide); (first | rfl | decide)) | ((with_reducible apply R_dgt); (first | rfl | decide)) | ((with_reducible apply R_app); (first | rfl | decide); (first | rfl | decide); (first | rfl | decide)) | ((with_reducible apply R_wlk); (first | rfl | decide)) | ((with_reducible apply R_zip); (first | rfl | decide)) | ((with_reducible apply E_xfl); (first | rfl | decide)) | ((with_reducible apply E_xis); (first | rfl | decide); (first | rfl | decide)) | ((with_reducible apply M_yes); (first | rfl | decide)) | ((with_reducible apply M_no); (first | rfl | decide)) | ((with_reducible apply S_hnd); (first | rfl | decide); (first | rfl | decide); (first | rfl | decide)) | ((with_reducible apply iteY); (first | rfl | decide)) | ((with_reducible apply iteF); (first | rfl | decide)) | ((with_reducible apply iteN); (first | rfl | decide)) | ((with_reducible apply X_1); rfl) | ((with_reducible apply X_2); rfl) | ((with_reducible apply X_3); rfl) | ((with_reducible refine R_mod ?_ ?_); omega) | ((with_reducible refine R_div ?_ ?_); omega) | ((with_reducible refine R_mul ?_ ?_); (first | (left; omega) | (right; omega))) | ((with_reducible apply R_pow); rfl) | ((with_reducible apply C_nil); rfl; rfl) | (with_reducible refine F_nil ?_) | ((with_reducible apply C_turn); rfl; rfl) | ((with_reducible apply F_cons); rfl) | with_reducible refine C_e ?_ | with_reducible refine C_t ?_)
          exact last _ _ _ _ _ (two g _ f _ hn hmw hnw g0 g1 g2 f0 f1 f2)
end
end FL


set_option linter.all false
set_option maxRecDepth 100000
set_option maxHeartbeats 4000000
namespace FL
open FM
section
variable {P : List FD} {dr su de : Nat}
theorem dput_new {n m : List Nat} {f : Int} {v : W} (ne : eqS n m = false) : dput (.str m) v [.str n] [.int f] = ([.str n, .str m], [.int f, v]) := by
  have e : dhas (.str m) [.str n] = false := by
    show (eqS n m || false) = false
    rw [ne]; rfl
  unfold dput
  rw [e]; rfl
theorem dput_old {n : List Nat} {f : Int} {v : W} : dput (.str n) v [.str n] [.int f] = ([.str n], [v]) := by
  have e : dhas (.str n) [.str n] = true := by
    show (beqW (.str n) (.str n) || false) = true
    rw [self]; rfl
  unfold dput
  rw [e]
  show ([W.str n], [if beqW (.str n) (.str n) then v else .int f]) = _
  rw [self]; rfl
theorem names_ok (k : Nat) : ∀ {l : List W}, Names l → okWs k l = true
  | [], _ => by cases k <;> rfl
  | a :: l, hl => by
    obtain ⟨n, _, rfl⟩ := hl a List.mem_cons_self
    have := names_ok k (l := l) fun w hw => hl w (List.mem_cons_of_mem _ hw)
    cases k <;> (simp only [okWs, okW, Bool.true_and]; exact this)
theorem ne_nil {ws : List W} (hw : 0 < ws.length) (hm : Names ws) : cmpW .ne (.lis ws) (.lis []) = some true := by
  cases ws with
  | nil => exact absurd hw (by decide)
  | cons a l =>
    show ((if okWs 59 (a :: l) && okW 60 (.lis []) then some (eqP (.lis (a :: l)) (.lis [])) else none).map (!·)) = some true
    rw [names_ok 59 hm]; rfl
theorem sum_ok (hD : nth P dr = some ⟨2, 3, bDraw⟩) (hS : nth P su = some ⟨2, 6, bSum dr⟩) {d : Nat} {a b : Int} {ws : List W} (hp : POk a b) (hl : ws.length < 1000) (hm : Names ws) : ∃ u os, callF P 60 (d + 2) su [.t (pl a b), .m (.d (.lis ws))] = .ok u os ∧ ZSum ws u os := by
  refine run_any (Z := ZSum ws) (r0 := [.t (pl a b), .m (.d (.lis ws)), .no, .no, .no, .no]) hS rfl rfl ?_
  show Sn ((lvl (callF P 60 (d + 1)) 60).S (bSum dr) _) _
  unfold bSum
  refine S_cons (S_own (U_ndic ⟨_, rfl, ?_⟩))
  refine S_cons (S_for (I_rng ?_))
  repeat (first | with_reducible refine E_cst ?_ | with_reducible refine V_e ?_ | with_reducible refine V_u ?_ | with_reducible refine A_nil ?_ | with_reducible refine A_cons ?_ | with_reducible refine A_d ?_ | with_reducible refine A_u ?_ | with_reducible refine S_cons ?_ | with_reducible refine S_nil ?_ | with_reducible refine S_ret ?_ | with_reducible refine S_if ?_ | with_reducible refine S_asg ?_ | with_reducible refine S_own ?_ | with_reducible refine T_val ?_ | with_reducible refine T_not ?_ | with_reducible refine T_cmp ?_ | with_reducible refine T_or1 ?_ | with_reducible refine T_or ?_ | with_reducible refine T_and1 ?_ | with_reducible refine T_and ?_ | with_reducible refine T_chn ?_ | with_reducible refine E_idx ?_ | with_reducible refine E_tup ?_ | with_reducible refine E_bin ?_ | with_reducible refine E_cmp ?_ | with_reducible refine E_isi ?_ | with_reducible refine E_blt ?_ | with_reducible refine E_frz ?_ | with_reducible refine E_chn ?_ | with_reducible refine E_and1 ?_ | with_reducible refine E_and ?_ | with_reducible refine E_or1 ?_ | with_reducible refine E_or ?_ | with_reducible refine E_not ?_ | with_reducible refine E_neg ?_ | with_reducible refine E_ite ?_ | with_reducible refine E_didx ?_ | with_reducible refine U_d ?_ | with_reducible refine U_lst ?_ | with_reducible refine U_cat ?_ | with_reducible refine U_slc ?_ | with_reducible refine U_lof ?_ | with_reducible refine U_srt ?_ | with_reducible refine U_comp ?_ | with_reducible refine U_ndic ?_ | with_reducible refine U_dlt ?_ | with_reducible refine U_call ?_ | with_reducible refine O_none ?_ | with_reducible refine O_some ?_ | with_reducible refine I_v ?_ | with_reducible refine I_rng ?_ | with_reducible refine I_zip ?_ | with_reducible refine S_for ?_ | with_reducible refine S_lc ?_ | with_reducible refine S_par ?_ | with_reducible refine S_sub ?_ | with_reducible refine S_dsub ?_ | with_reducible refine S_exp ?_ | with_reducible refine S_rse ?_ | with_reducible refine S_try ?_ | with_reducible refine S_unX ?_ | with_reducible refine S_mat ?_ | with_reducible refine M_nil ?_ | ((with_reducible apply E_var); (first | rfl | decide)) | ((with_reducible apply V_s); (first | rfl | decide)) | ((with_reducible apply A_r); (first | rfl | decide)) | ((with_reducible apply U_mv); (first | rfl | decide)) | ((with_reducible apply E_dget); (first | rfl | decide)) | ((with_reducible apply E_app); (first | rfl | decide)) | ((with_reducible apply R_bin); (first | rfl | decide); (first | rfl | decide)) | ((with_reducible apply R_cmp); (first | rfl | decide); (first | rfl | decide); (first | rfl | decide)) | ((with_reducible apply R_idx); (first | rfl | decide); (first | rfl | decide)) | ((with_reducible apply R_isi); (first | rfl | decide); (first | rfl | decide)) | ((with_reducible apply R_blt); (first | rfl | decide); (first | rfl | decide)) | ((with_reducible apply R_didx); (first | rfl | decide); (first | rfl | decide); (first | rfl | decide)) | ((with_reducible apply R_cat); (first | rfl | decide); (first | rfl | decide); (first | rfl | decide); (first | rfl | decide)) | ((with_reducible apply R_slcU); (first | rfl | decide); (first | rfl | decide)) | ((with_reducible apply R_srt); (first | rfl | decide); (first | rfl | decide)) | ((with_reducible apply R_lof); (first | rfl | decide); (first | rfl | decide)) | ((with_reducible apply R_add)) | ((with_reducible apply R_subI)) | ((with_reducible apply R_sub); (first | rfl | decide); (first | rfl | decide); (first | rfl | decide); (first | rfl | decide)) | ((with_reducible apply R_dput); (first | rfl | decide); (first | rfl | decide); (first | rfl | decide); (first | rfl | decide)) | ((with_reducible apply R_dgt); (first | rfl | decide)) | ((with_reducible apply R_app); (first | rfl | decide); (first | rfl | decide); (first | rfl | decide)) | ((with_reducible apply R_wlk); (first | rfl | decide)) | ((with_reducible apply R_zip); (first | rfl | decide)) | ((with_reducible apply E_xfl); (first | rfl | decide)) | ((with_reducible apply E_xis); (first | rfl | decide); (first | rfl | decide)) | ((with_reducible apply M_yes); (first | rfl | decide)) | ((with_reducible apply M_no); (first | rfl | decide)) | ((with_reducible apply S_hnd); (first | rfl | decide); (first | rfl | decide); (first | rfl | decide)) | ((with_reducible apply iteY); (first | rfl | decide)) | ((with_reducible apply iteF); (first | rfl | decide)) | ((with_reducible apply iteN); (first | rfl | decide)) | ((with_reducible apply X_1); rfl) | ((with_reducible apply X_2); rfl) | ((with_reducible apply X_3); rfl) | ((with_reducible refine R_mod ?_ ?_); omega) | ((with_reducible refine R_div ?_ ?_); omega) | ((with_reducible refine R_mul ?_ ?_); (first | (left; omega) | (right; omega))) | ((with_reducible apply R_pow); rfl) | ((with_reducible apply C_nil); rfl; rfl) | ((with_reducible apply C_turn); rfl; rfl) | with_reducible refine C_e ?_ | with_reducible refine C_t ?_)
  refine R_draw hD (a := a) (b := b) rfl hp (by decide) (by decide) (fun _ _ => rfl) fun s a1 b1 s0 s1 hp1 => ?_
  have fin : ∀ (a2 b2 : Int) (ks vs : List W) (v3 v4 : En), POk a2 b2 → Dc ws ks vs → (v4 = .no ∨ ∃ w, v4 = .m (.d w)) → Sn ((lvl (callF P 60 (d + 1)) 60).S [.asg (.nm 5) (.blt .tuple [.u (.comp (.tup [.didx (.s 2) (.var 4), .var 4]) (.nm 4) [4] (.v (.u (.srt (.s 2)))) (some (.cmp .ne (.e (.didx (.s 2) (.var 4))) (.e (.cst (.int 0))))))]),
    .ret (.d (.tup [.cst (.str [115, 117, 109]), .idx (.u (.lst [.cst (.int 0), .cst (.int 1), .neg (.cst (.int 2)), .cst (.int 5)])) (.frz (.call dr [.r 0, .d (.cst (.int 4))])), .var 5]))] [.t (pl a2 b2), .m (.d (.lis ws)), .m (.c ks (vs.map U.d)), v3, v4, .no])
      ⟨fun r => ∃ os, outs [.t (pl a b), .m (.d (.lis ws))] r = some os ∧ ZSum ws (.d .non) os, fun v r => ∃ os, outs [.t (pl a b), .m (.d (.lis ws))] r = some os ∧ ZSum ws v os, fun _ => False, fun _ => False, fun _ _ => False⟩ := by
    intro a2 b2 ks vs v3 v4 h1 h2 h3
    exact tail_ok hD h1 h2 h3 fun w a' b' e1 e2 e3 e4 e5 hs hp' => ⟨_, rfl, w, a', b', rfl, rfl, hs, hp'⟩
  by_cases hw : 0 < ws.length
  · have hne := ne_nil hw hm
    have h3 : s = 0 ∨ s = 1 ∨ s = 2 := by omega
    have v0 : ∀ n, n ∈ NM → ∃ i, (dfind (.str n) [] []).getD (.int 0) = .int i := fun n _ => ⟨0, rfl⟩
    rcases h3 with rfl | rfl | rfl
    · repeat (first | ((with_reducible apply R_cmp); rfl; rfl; exact hne) | (refine ⟨⟨by decide, by decide⟩, ?_⟩) | with_reducible refine E_cst ?_ | with_reducible refine V_e ?_ | with_reducible refine V_u ?_ | with_reducible refine A_nil ?_ | with_reducible refine A_cons ?_ | with_reducible refine A_d ?_ | with_reducible refine A_u ?_ | with_reducible refine S_cons ?_ | with_reducible refine S_nil ?_ | with_reducible refine S_ret ?_ | with_reducible refine S_if ?_ | with_reducible refine S_asg ?_ | with_reducible refine S_own ?_ | with_reducible refine T_val ?_ | with_reducible refine T_not ?_ | with_reducible refine T_cmp ?_ | with_reducible refine T_or1 ?_ | with_reducible refine T_or ?_ | with_reducible refine T_and1 ?_ | with_reducible refine T_and ?_ | with_reducible refine T_chn ?_ | with_reducible refine E_idx ?_ | with_reducible refine E_tup ?_ | with_reducible refine E_bin ?_ | with_reducible refine E_cmp ?_ | with_reducible refine E_isi ?_ | with_reducible refine E_blt ?_ | with_reducible refine E_frz ?_ | with_reducible refine E_chn ?_ | with_reducible refine E_and1 ?_ | with_reducible refine E_and ?_ | with_reducible refine E_or1 ?_ | with_reducible refine E_or ?_ | with_reducible refine E_not ?_ | with_reducible refine E_neg ?_ | with_reducible refine E_ite ?_ | with_reducible refine E_didx ?_ | with_reducible refine U_d ?_ | with_reducible refine U_lst ?_ | with_reducible refine U_cat ?_ | with_reducible refine U_slc ?_ | with_reducible refine U_lof ?_ | with_reducible refine U_srt ?_ | with_reducible refine U_comp ?_ | with_reducible refine U_ndic ?_ | with_reducible refine U_dlt ?_ | with_reducible refine U_call ?_ | with_reducible refine O_none ?_ | with_reducible refine O_some ?_ | with_reducible refine I_v ?_ | with_reducible refine I_rng ?_ | with_reducible refine I_zip ?_ | with_reducible refine S_for ?_ | with_reducible refine S_lc ?_ | with_reducible refine S_par ?_ | with_reducible refine S_sub ?_ | with_reducible refine S_dsub ?_ | with_reducible refine S_exp ?_ | with_reducible refine S_rse ?_ | with_reducible refine S_try ?_ | with_reducible refine S_unX ?_ | with_reducible refine S_mat ?_ | with_reducible refine M_nil ?_ | ((with_reducible apply E_var); (first | rfl | decide)) | ((with_reducible apply V_s); (first | rfl | decide)) | ((with_reducible apply A_r); (first | rfl | decide)) | ((with_reducible apply U_mv); (first | rfl | decide)) | ((with_reducible apply E_dget); (first | rfl | decide)) | ((with_reducible apply E_app); (first | rfl | decide)) | ((with_reducible apply R_bin); (first | rfl | decide); (first | rfl | decide)) | ((with_reducible apply R_cmp); (first | rfl | decide); (first | rfl | decide); (first | rfl | decide)) | ((with_reducible apply R_idx); (first | rfl | decide); (first | rfl | decide)) | ((with_reducible apply R_isi); (first | rfl | decide); (first | rfl | decide)) | ((with_reducible apply R_blt); (first | rfl | decide); (first | rfl | decide)) | ((with_reducible apply R_didx); (first | rfl | decide); (first | rfl | decide); (first | rfl | decide)) | ((with_reducible apply R_cat); (first | rfl | decide); (first | rfl | decide); (first | rfl | decide); (first | rfl | decide)) | ((with_reducible apply R_slcU); (first | rfl | decide); (first | rfl | decide)) | ((with_reducible apply R_srt); (first | rfl | decide); (first | rfl | decide)) | ((with_reducible apply R_lof); (first | rfl | decide); (first | rfl | decide)) | ((with_reducible apply R_add)) | ((with_reducible apply R_subI)) | ((with_reducible apply R_sub); (first | rfl | decide); (first | rfl | decide); (first | rfl | decide); (first | rfl | decide)) | ((with_reducible apply R_dput); (first | rfl | decide); (first | rfl | decide); (first | rfl | decide); (first | rfl | decide)) | ((with_reducible apply R_dgt); (first | rfl | decide)) | ((with_reducible apply R_app); (first | rfl | decide); (first | rfl | decide); (first | rfl | decide)) | ((with_reducible apply R_wlk); (first | rfl | decide)) | ((with_reducible apply R_zip); (first | rfl | decide)) | ((with_reducible apply E_xfl); (first | rfl | decide)) | ((with_reducible apply E_xis); (first | rfl | decide); (first | rfl | decide)) | ((with_reducible apply M_yes); (first | rfl | decide)) | ((with_reducible apply M_no); (first | rfl | decide)) | ((with_reducible apply S_hnd); (first | rfl | decide); (first | rfl | decide); (first | rfl | decide)) | ((with_reducible apply iteY); (first | rfl | decide)) | ((with_reducible apply iteF); (first | rfl | decide)) | ((with_reducible apply iteN); (first | rfl | decide)) | ((with_reducible apply X_1); rfl) | ((with_reducible apply X_2); rfl) | ((with_reducible apply X_3); rfl) | ((with_reducible refine R_mod ?_ ?_); omega) | ((with_reducible refine R_div ?_ ?_); omega) | ((with_reducible refine R_mul ?_ ?_); (first | (left; omega) | (right; omega))) | ((with_reducible apply R_pow); rfl) | ((with_reducible apply C_nil); rfl; rfl) | ((with_reducible apply C_turn); rfl; rfl) | with_reducible refine C_e ?_ | with_reducible refine C_t ?_)
      refine F_nil ?_
      exact fin a1 b1 [] [] _ _ hp1 (.inl ⟨rfl, rfl⟩) (.inl rfl)
    · repeat (first | ((with_reducible apply R_cmp); rfl; rfl; exact hne) | (refine ⟨⟨by decide, by decide⟩, ?_⟩) | with_reducible refine E_cst ?_ | with_reducible refine V_e ?_ | with_reducible refine V_u ?_ | with_reducible refine A_nil ?_ | with_reducible refine A_cons ?_ | with_reducible refine A_d ?_ | with_reducible refine A_u ?_ | with_reducible refine S_cons ?_ | with_reducible refine S_nil ?_ | with_reducible refine S_ret ?_ | with_reducible refine S_if ?_ | with_reducible refine S_asg ?_ | with_reducible refine S_own ?_ | with_reducible refine T_val ?_ | with_reducible refine T_not ?_ | with_reducible refine T_cmp ?_ | with_reducible refine T_or1 ?_ | with_reducible refine T_or ?_ | with_reducible refine T_and1 ?_ | with_reducible refine T_and ?_ | with_reducible refine T_chn ?_ | with_reducible refine E_idx ?_ | with_reducible refine E_tup ?_ | with_reducible refine E_bin ?_ | with_reducible refine E_cmp ?_ | with_reducible refine E_isi ?_ | with_reducible refine E_blt ?_ | with_reducible refine E_frz ?_ | with_reducible refine E_chn ?_ | with_reducible refine E_and1 ?_ | with_reducible refine E_and ?_ | with_reducible refine E_or1 ?_ | with_reducible refine E_or ?_ | with_reducible refine E_not ?_ | with_reducible refine E_neg ?_ | with_reducible refine E_ite ?_ | with_reducible refine E_didx ?_ | with_reducible refine U_d ?_ | with_reducible refine U_lst ?_ | with_reducible refine U_cat ?_ | with_reducible refine U_slc ?_ | with_reducible refine U_lof ?_ | with_reducible refine U_srt ?_ | with_reducible refine U_comp ?_ | with_reducible refine U_ndic ?_ | with_reducible refine U_dlt ?_ | with_reducible refine U_call ?_ | with_reducible refine O_none ?_ | with_reducible refine O_some ?_ | with_reducible refine I_v ?_ | with_reducible refine I_rng ?_ | with_reducible refine I_zip ?_ | with_reducible refine S_for ?_ | with_reducible refine S_lc ?_ | with_reducible refine S_par ?_ | with_reducible refine S_sub ?_ | with_reducible refine S_dsub ?_ | with_reducible refine S_exp ?_ | with_reducible refine S_rse ?_ | with_reducible refine S_try ?_ | with_reducible refine S_unX ?_ | with_reducible refine S_mat ?_ | with_reducible refine M_nil ?_ | ((with_reducible apply E_var); (first | rfl | decide)) | ((with_reducible apply V_s); (first | rfl | decide)) | ((with_reducible apply A_r); (first | rfl | decide)) | ((with_reducible apply U_mv); (first | rfl | decide)) | ((with_reducible apply E_dget); (first | rfl | decide)) | ((with_reducible apply E_app); (first | rfl | decide)) | ((with_reducible apply R_bin); (first | rfl | decide); (first | rfl | decide)) | ((with_reducible apply R_cmp); (first | rfl | decide); (first | rfl | decide); (first | rfl | decide)) | ((with_reducible apply R_idx); (first | rfl | decide); (first | rfl | decide)) | ((with_reducible apply R_isi); (first | rfl | decide); (first | rfl | decide)) | ((with_reducible apply R_blt); (first | rfl | decide); (first | rfl | decide)) | ((with_reducible apply R_didx); (first | rfl | decide); (first | rfl | decide); (first | rfl | decide)) | ((with_reducible apply R_cat); (first | rfl | decide); (first | rfl | decide); (first | rfl | decide); (first | rfl | decide)) | ((with_reducible apply R_slcU); (first | rfl | decide); (first | rfl | decide)) | ((with_reducible apply R_srt); (first | rfl | decide); (first | rfl | decide)) | ((with_reducible apply R_lof); (first | rfl | decide); (first | rfl | decide)) | ((with_reducible apply R_add)) | ((with_reducible apply R_subI)) | ((with_reducible apply R_sub); (first | rfl | decide); (first | rfl | decide); (first | rfl | decide); (first | rfl | decide)) | ((with_reducible apply R_dput); (first | rfl | decide); (first | rfl | decide); (first | rfl | decide); (first | rfl | decide)) | ((with_reducible apply R_dgt); (first | rfl | decide)) | ((with_reducible apply R_app); (first | rfl | decide); (first | rfl | decide); (first | rfl | decide)) | ((with_reducible apply R_wlk); (first | rfl | decide)) | ((with_reducible apply R_zip); (first | rfl | decide)) | ((with_reducible apply E_xfl); (first | rfl | decide)) | ((with_reducible apply E_xis); (first | rfl | decide); (first | rfl | decide)) | ((with_reducible apply M_yes); (first | rfl | decide)) | ((with_reducible apply M_no); (first | rfl | decide)) | ((with_reducible apply S_hnd); (first | rfl | decide); (first | rfl | decide); (first | rfl | decide)) | ((with_reducible apply iteY); (first | rfl | decide)) | ((with_reducible apply iteF); (first | rfl | decide)) | ((with_reducible apply iteN); (first | rfl | decide)) | ((with_reducible apply X_1); rfl) | ((with_reducible apply X_2); rfl) | ((with_reducible apply X_3); rfl) | ((with_reducible refine R_mod ?_ ?_); omega) | ((with_reducible refine R_div ?_ ?_); omega) | ((with_reducible refine R_mul ?_ ?_); (first | (left; omega) | (right; omega))) | ((with_reducible apply R_pow); rfl) | ((with_reducible apply C_nil); rfl; rfl) | ((with_reducible apply C_turn); rfl; rfl) | with_reducible refine C_e ?_ | with_reducible refine C_t ?_)
      refine F_cons (w := .int 0) (ws := []) rfl ?_
      refine turn_ok hD (ks := []) (vs := []) hp1 hw hl hm rfl rfl (by decide) (.inl rfl) v0 fun n f i a2 b2 hn hnw f1 f2 f0 hi hp2 => ?_
      cases hi
      with_reducible refine F_nil ?_
      exact fin a2 b2 [.str n] [.int (0 + f)] _ _ hp2 (.inr (.inl ⟨n, 0 + f, hn, hnw, by omega, by omega, rfl, rfl⟩)) (.inr ⟨_, rfl⟩)
    · repeat (first | ((with_reducible apply R_cmp); rfl; rfl; exact hne) | (refine ⟨⟨by decide, by decide⟩, ?_⟩) | with_reducible refine E_cst ?_ | with_reducible refine V_e ?_ | with_reducible refine V_u ?_ | with_reducible refine A_nil ?_ | with_reducible refine A_cons ?_ | with_reducible refine A_d ?_ | with_reducible refine A_u ?_ | with_reducible refine S_cons ?_ | with_reducible refine S_nil ?_ | with_reducible refine S_ret ?_ | with_reducible refine S_if ?_ | with_reducible refine S_asg ?_ | with_reducible refine S_own ?_ | with_reducible refine T_val ?_ | with_reducible refine T_not ?_ | with_reducible refine T_cmp ?_ | with_reducible refine T_or1 ?_ | with_reducible refine T_or ?_ | with_reducible refine T_and1 ?_ | with_reducible refine T_and ?_ | with_reducible refine T_chn ?_ | with_reducible refine E_idx ?_ | with_reducible refine E_tup ?_ | with_reducible refine E_bin ?_ | with_reducible refine E_cmp ?_ | with_reducible refine E_isi ?_ | with_reducible refine E_blt ?_ | with_reducible refine E_frz ?_ | with_reducible refine E_chn ?_ | with_reducible refine E_and1 ?_ | with_reducible refine E_and ?_ | with_reducible refine E_or1 ?_ | with_reducible refine E_or ?_ | with_reducible refine E_not ?_ | with_reducible refine E_neg ?_ | with_reducible refine E_ite ?_ | with_reducible refine E_didx ?_ | with_reducible refine U_d ?_ | with_reducible refine U_lst ?_ | with_reducible refine U_cat ?_ | with_reducible refine U_slc ?_ | with_reducible refine U_lof ?_ | with_reducible refine U_srt ?_ | with_reducible refine U_comp ?_ | with_reducible refine U_ndic ?_ | with_reducible refine U_dlt ?_ | with_reducible refine U_call ?_ | with_reducible refine O_none ?_ | with_reducible refine O_some ?_ | with_reducible refine I_v ?_ | with_reducible refine I_rng ?_ | with_reducible refine I_zip ?_ | with_reducible refine S_for ?_ | with_reducible refine S_lc ?_ | with_reducible refine S_par ?_ | with_reducible refine S_sub ?_ | with_reducible refine S_dsub ?_ | with_reducible refine S_exp ?_ | with_reducible refine S_rse ?_ | with_reducible refine S_try ?_ | with_reducible refine S_unX ?_ | with_reducible refine S_mat ?_ | with_reducible refine M_nil ?_ | ((with_reducible apply E_var); (first | rfl | decide)) | ((with_reducible apply V_s); (first | rfl | decide)) | ((with_reducible apply A_r); (first | rfl | decide)) | ((with_reducible apply U_mv); (first | rfl | decide)) | ((with_reducible apply E_dget); (first | rfl | decide)) | ((with_reducible apply E_app); (first | rfl | decide)) | ((with_reducible apply R_bin); (first | rfl | decide); (first | rfl | decide)) | ((with_reducible apply R_cmp); (first | rfl | decide); (first | rfl | decide); (first | rfl | decide)) | ((with_reducible apply R_idx); (first | rfl | decide); (first | rfl | decide)) | ((with_reducible apply R_isi); (first | rfl | decide); (first | rfl | decide)) | ((with_reducible apply R_blt); (first | rfl | decide); (first | rfl | decide)) | ((with_reducible apply R_didx); (first | rfl | decide); (first | rfl | decide); (first | rfl | decide)) | ((with_reducible apply R_cat); (first | rfl | decide); (first | rfl | decide); (first | rfl | decide); (first | rfl | decide)) | ((with_reducible apply R_slcU); (first | rfl | decide); (first | rfl | decide)) | ((with_reducible apply R_srt); (first | rfl | decide); (first | rfl | decide)) | ((with_reducible apply R_lof); (first | rfl | decide); (first | rfl | decide)) | ((with_reducible apply R_add)) | ((with_reducible apply R_subI)) | ((with_reducible apply R_sub); (first | rfl | decide); (first | rfl | decide); (first | rfl | decide); (first | rfl | decide)) | ((with_reducible apply R_dput); (first | rfl | decide); (first | rfl | decide); (first | rfl | decide); (first | rfl | decide)) | ((with_reducible apply R_dgt); (first | rfl | decide)) | ((with_reducible apply R_app); (first | rfl | decide); (first | rfl | decide); (first | rfl | decide)) | ((with_reducible apply R_wlk); (first | rfl | decide)) | ((with_reducible apply R_zip); (first | rfl | decide)) | ((with_reducible apply E_xfl); (first | rfl | decide)) | ((with_reducible apply E_xis); (first | rfl | decide); (first | rfl | decide)) | ((with_reducible apply M_yes); (first | rfl | decide)) | ((with_reducible apply M_no); (first | rfl | decide)) | ((with_reducible apply S_hnd); (first | rfl | decide); (first | rfl | decide); (first | rfl | decide)) | ((with_reducible apply iteY); (first | rfl | decide)) | ((with_reducible apply iteF); (first | rfl | decide)) | ((with_reducible apply iteN); (first | rfl | decide)) | ((with_reducible apply X_1); rfl) | ((with_reducible apply X_2); rfl) | ((with_reducible apply X_3); rfl) | ((with_reducible refine R_mod ?_ ?_); omega) | ((with_reducible refine R_div ?_ ?_); omega) | ((with_reducible refine R_mul ?_ ?_); (first | (left; omega) | (right; omega))) | ((with_reducible apply R_pow); rfl) | ((with_reducible apply C_nil); rfl; rfl) | ((with_reducible apply C_turn); rfl; rfl) | with_reducible refine C_e ?_ | with_reducible refine C_t ?_)
      refine F_cons (w := .int 0) (ws := [.int 1]) rfl ?_
      refine turn_ok hD (ks := []) (vs := []) hp1 hw hl hm rfl rfl (by decide) (.inl rfl) v0 fun n f i a2 b2 hn hnw f1 f2 f0 hi hp2 => ?_
      cases hi
      have v1 : ∀ m, m ∈ NM → ∃ i, (dfind (.str m) [.str n] [.int (0 + f)]).getD (.int 0) = .int i := fun m _ => by
        show ∃ i, (if eqS n m then some (W.int (0 + f)) else none).getD (.int 0) = .int i
        cases eqS n m with
        | true => exact ⟨_, rfl⟩
        | false => exact ⟨_, rfl⟩
      (with_reducible apply F_cons); rfl
      refine turn_ok hD (ks := [.str n]) (vs := [.int (0 + f)]) (us := [.d (.int (0 + f))]) hp2 hw hl hm rfl rfl (show 1 < 1000 by decide) (.inr ⟨_, rfl⟩) v1 fun m g i a3 b3 hm2 hmw j1 j2 j0 hi hp3 => ?_
      with_reducible refine F_nil ?_
      by_cases e : n = m
      · subst e
        have hi2 : i = 0 + f := by
          have z : (if beqW (.str n) (.str n) then some (W.int (0 + f)) else none).getD (.int 0) = .int i := hi
          rw [self] at z
          injection z with z
          exact z.symm
        subst hi2
        rw [dput_old]
        exact fin a3 b3 _ _ _ _ hp3 (.inr (.inl ⟨n, _, hn, hnw, by omega, by omega, rfl, rfl⟩)) (.inr ⟨_, rfl⟩)
      · have pr := NM_pr hn hm2 e
        have ne : eqS n m = false := by
          rcases pr with pr | pr
          · exact (PR_lt pr).2.2.1
          · exact (PR_lt pr).2.2.2.1
        have hi2 : i = 0 := by
          have z : (if eqS n m then some (W.int (0 + f)) else none).getD (.int 0) = .int i := hi
          rw [ne] at z
          injection z with z
          exact z.symm
        subst hi2
        rw [dput_new ne]
        exact fin a3 b3 _ _ _ _ hp3 (.inr (.inr ⟨n, 0 + f, m, 0 + g, pr, hnw, hmw, by omega, by omega, by omega, by omega, by omega, by omega, rfl, rfl⟩)) (.inr ⟨_, rfl⟩)
  · have e0 : ws = [] := by
      cases ws with
      | nil => rfl
      | cons _ _ => exact absurd (Nat.succ_pos _) hw
    subst e0
    have h3 : s = 0 ∨ s = 1 ∨ s = 2 := by omega
    rcases h3 with rfl | rfl | rfl
    all_goals
      repeat (first | (refine ⟨⟨by decide, by decide⟩, ?_⟩) | with_reducible refine E_cst ?_ | with_reducible refine V_e ?_ | with_reducible refine V_u ?_ | with_reducible refine A_nil ?_ | with_reducible refine A_cons ?_ | with_reducible refine A_d ?_ | with_reducible refine A_u ?_ | with_reducible refine S_cons ?_ | with_reducible refine S_nil ?_ | with_reducible refine S_ret ?_ | with_reducible refine S_if ?_ | with_reducible refine S_asg ?_ | with_reducible refine S_own ?_ | with_reducible refine T_val ?_ | with_reducible refine T_not ?_ | with_reducible refine T_cmp ?_ | with_reducible refine T_or1 ?_ | with_reducible refine T_or ?_ | with_reducible refine T_and1 ?_ | with_reducible refine T_and ?_ | with_reducible refine T_chn ?_ | with_reducible refine E_idx ?_ | with_reducible refine E_tup ?_ | with_reducible refine E_bin ?_ | with_reducible refine E_cmp ?_ | with_reducible refine E_isi ?_ | with_reducible refine E_blt ?_ | with_reducible refine E_frz ?_ | with_reducible refine E_chn ?_ | with_reducible refine E_and1 ?_ | with_reducible refine E_and ?_ | with_reducible refine E_or1 ?_ | with_reducible refine E_or ?_ | with_reducible refine E_not ?_ | with_reducible refine E_neg ?_ | with_reducible refine E_ite ?_ | with_reducible refine E_didx ?_ | with_reducible refine U_d ?_ | with_reducible refine U_lst ?_ | with_reducible refine U_cat ?_ | with_reducible refine U_slc ?_ | with_reducible refine U_lof ?_ | with_reducible refine U_srt ?_ | with_reducible refine U_comp ?_ | with_reducible refine U_ndic ?_ | with_reducible refine U_dlt ?_ | with_reducible refine U_call ?_ | with_reducible refine O_none ?_ | with_reducible refine O_some ?_ | with_reducible refine I_v ?_ | with_reducible refine I_rng ?_ | with_reducible refine I_zip ?_ | with_reducible refine S_for ?_ | with_reducible refine S_lc ?_ | with_reducible refine S_par ?_ | with_reducible refine S_sub ?_ | with_reducible refine S_dsub ?_ | with_reducible refine S_exp ?_ | with_reducible refine S_rse ?_ | with_reducible refine S_try ?_ | with_reducible refine S_unX ?_ | with_reducible refine S_mat ?_ | with_reducible refine M_nil ?_ | ((with_reducible apply E_var); (first | rfl | decide)) | ((with_reducible apply V_s); (first | rfl | decide)) | ((with_reducible apply A_r); (first | rfl | decide)) | ((with_reducible apply U_mv); (first | rfl | decide)) | ((with_reducible apply E_dget); (first | rfl | decide)) | ((with_reducible apply E_app); (first | rfl | decide)) | ((with_reducible apply R_bin); (first | rfl | decide); (first | rfl | decide)) | ((with_reducible apply R_cmp); (first | rfl | decide); (first | rfl | decide); (first | rfl | decide)) | ((with_reducible apply R_idx); (first | rfl | decide); (first | rfl | decide)) | ((with_reducible apply R_isi); (first | rfl | decide); (first | rfl | decide)) | ((with_reducible apply R_blt); (first | rfl | decide); (first | rfl | decide)) | ((with_reducible apply R_didx); (first | rfl | decide); (first | rfl | decide); (first | rfl | decide)) | ((with_reducible apply R_cat); (first | rfl | decide); (first | rfl | decide); (first | rfl | decide); (first | rfl | decide)) | ((with_reducible apply R_slcU); (first | rfl | decide); (first | rfl | decide)) | ((with_reducible apply R_srt); (first | rfl | decide); (first | rfl | decide)) | ((with_reducible apply R_lof); (first | rfl | decide); (first | rfl | decide)) | ((with_reducible apply R_add)) | ((with_reducible apply R_subI)) | ((with_reducible apply R_sub); (first | rfl | decide); (first | rfl | decide); (first | rfl | decide); (first | rfl | decide)) | ((with_reducible apply R_dput); (first | rfl | decide); (first | rfl | decide); (first | rfl | decide); (first | rfl | decide)) | ((with_reducible apply R_dgt); (first | rfl | decide)) | ((with_reducible apply R_app); (first | rfl | decide); (first | rfl | decide); (first | rfl | decide)) | ((with_reducible apply R_wlk); (first | rfl | decide)) | ((with_reducible apply R_zip); (first | rfl | decide)) | ((with_reducible apply E_xfl); (first | rfl | decide)) | ((with_reducible apply E_xis); (first | rfl | decide); (first | rfl | decide)) | ((with_reducible apply M_yes); (first | rfl | decide)) | ((with_reducible apply M_no); (first | rfl | decide)) | ((with_reducible apply S_hnd); (first | rfl | decide); (first | rfl | decide); (first | rfl | decide)) | ((with_reducible apply iteY); (first | rfl | decide)) | ((with_reducible apply iteF); (first | rfl | decide)) | ((with_reducible apply iteN); (first | rfl | decide)) | ((with_reducible apply X_1); rfl) | ((with_reducible apply X_2); rfl) | ((with_reducible apply X_3); rfl) | ((with_reducible refine R_mod ?_ ?_); omega) | ((with_reducible refine R_div ?_ ?_); omega) | ((with_reducible refine R_mul ?_ ?_); (first | (left; omega) | (right; omega))) | ((with_reducible apply R_pow); rfl) | ((with_reducible apply C_nil); rfl; rfl) | ((with_reducible apply C_turn); rfl; rfl) | with_reducible refine C_e ?_ | with_reducible refine C_t ?_)
      refine F_nil ?_
      exact fin a1 b1 [] [] _ _ hp1 (.inl ⟨rfl, rfl⟩) (.inl rfl)
/-- a sum within a run -/
theorem R_sum (hD : nth P dr = some ⟨2, 3, bDraw⟩) (hS : nth P su = some ⟨2, 6, bSum dr⟩) {d i : Nat} {a b : Int} {ws : List W} {r : Env} {r' : Int → Int → Env} {Q : U → Env → Prop} {X : Xn → Env → Prop} (hl : lookU r i = some (pl a b)) (hp : POk a b) (hz : ws.length < 1000) (hm : Names ws) (hr : ∀ a' b', putV r i (pl a' b') = some (r' a' b'))
    (q : ∀ w a' b', IsSum ws w → POk a' b' → Q (.d w) (r' a' b')) : Rn (runC (callF P 60 (d + 2)) su [.r i, .d (.lis ws)] r) Q X := by
  obtain ⟨u, os, h, w, a', b', rfl, rfl, h1, h2⟩ := sum_ok hD hS (d := d) hp hz hm
  refine R_call (es := [.t (pl a b), .m (.d (.lis ws))]) (is := [i]) ?_ h (r1 := r' a' b') ?_ (q w a' b' h1 h2)
  · show ((lookU r i).bind fun u => (args r [.d (.lis ws)]).bind fun q => if q.2.any (Nat.beq i) then none else some (.t u :: q.1, i :: q.2)) = _
    rw [hl]
    rfl
  · show ((putV r i (pl a' b')).bind fun r1 => puts r1 [] []) = _
    rw [hr]
    rfl
end
end FL


set_option linter.all false
set_option maxRecDepth 100000
set_option maxHeartbeats 4000000
namespace FL
open FM
section
variable {P : List FD} {dr su de : Nat}
/-- where a deed is: a or b; a parameter, 0 or 1 -/
def IsPl (ps : List W) (w : W) : Prop := ∃ t i, w = .tup [.str t, i] ∧ (t = [97] ∨ t = [98]) ∧ (i ∈ ps ∨ i = .int 0 ∨ i = .int 1)
def Word (n : List Nat) : Prop := n = [97, 100, 100] ∨ n = [112, 117, 116] ∨ n = [114, 97, 105, 115, 101] ∨ n = [108, 111, 119, 101, 114]
/-- a drawn deed -/
def IsDeed (ps ks : List W) (w : W) : Prop := ∃ p, IsPl ps p ∧ ((∃ n, (n = [120] ∨ n = [121]) ∧ w = .tup [.str [114, 101, 97, 100], p, .str n]) ∨ ∃ n s, Word n ∧ IsSum (ps ++ ks) s ∧ w = .tup [.str n, p, s])
theorem dats_map : ∀ ks : List W, dats (ks.map U.d) = some ks
  | [] => rfl
  | k :: ks => by
    show (dats (ks.map U.d)).map (k :: ·) = _
    rw [dats_map ks]; rfl
theorem dats_app (y : W) : ∀ ks : List W, dats (ks.map U.d ++ [.d y]) = some (ks ++ [y])
  | [] => rfl
  | k :: ks => by
    show (dats (ks.map U.d ++ [.d y])).map (k :: ·) = _
    rw [dats_app y ks]; rfl
theorem at_in {ws : List W} {r : Int} (h0 : 0 ≤ r) (h1 : r < ws.length) : ∃ w, w ∈ ws ∧ idxW (.lis ws) (.int r) = some w := by
  obtain ⟨j, rfl⟩ := Int.eq_ofNat_of_zero_le h0
  have hj : j < ws.length := by omega
  have e1 : ix ws.length (j : Int) = some j := by
    show (if Nat.blt j ws.length then some j else none) = _
    rw [Nat.blt_eq.mpr hj]; rfl
  have e2 : ∀ (l : List W) (j : Nat), j < l.length → ∃ w, w ∈ l ∧ nth l j = some w := by
    intro l
    induction l with
    | nil => intro j hj; exact absurd hj (Nat.not_lt_zero _)
    | cons a l ih =>
      intro j hj
      cases j with
      | zero => exact ⟨a, List.mem_cons_self, rfl⟩
      | succ j =>
        obtain ⟨w, a1, a2⟩ := ih j (Nat.lt_of_succ_lt_succ hj)
        exact ⟨w, List.mem_cons_of_mem _ a1, a2⟩
  obtain ⟨w, hw, e⟩ := e2 ws j hj
  refine ⟨w, hw, ?_⟩
  show (ix ws.length (j : Int)).bind (fun j => nth ws j) = _
  rw [e1]
  exact e
theorem nth_last (y : W) : ∀ ks : List W, nth (ks ++ [y]) ks.length = some y
  | [] => rfl
  | k :: ks => nth_last y ks
theorem last_at (y : W) (ks : List W) : idxW (.lis (ks ++ [y])) (.int (-1)) = some y := by
  show (ix (ks ++ [y]).length (-1)).bind (fun j => nth (ks ++ [y]) j) = _
  have e : ix (ks ++ [y]).length (-1) = some ks.length := by
    show (if Nat.blt 0 (ks ++ [y]).length then some ((ks ++ [y]).length - (0 + 1)) else none) = _
    rw [List.length_append]
    rfl
  rw [e]
  exact nth_last y ks
theorem fr_map (r : Env) (ws : List W) : vw r (.fr (.l (ws.map U.d))) = some (.lis ws) := by
  show (dats (ws.map U.d)).map W.lis = _
  rw [dats_map]; rfl
theorem fzs_map : ∀ ws : List W, fzs (ws.map U.d) = ws
  | [] => rfl
  | w :: ws => by
    show fz (.d w) :: fzs (ws.map U.d) = _
    rw [fzs_map ws]; rfl
theorem fz_map (ws : List W) : fz (.l (ws.map U.d)) = .lis ws := by
  show W.lis (fzs (ws.map U.d)) = _
  rw [fzs_map]
theorem idx_pl {ps : List W} {k : Int} {ws : List W} (hw : ws = [.int 0] ∨ ws = [.int 0, .int 1]) (h0 : 0 ≤ k) (h1 : k < ((ps ++ ps ++ ws).length : Nat)) : ∃ w, (w ∈ ps ∨ w = .int 0 ∨ w = .int 1) ∧ idxW (.lis (ps ++ ps ++ ws)) (.int k) = some w := by
  obtain ⟨w, hm, e⟩ := at_in (ws := ps ++ ps ++ ws) h0 h1
  refine ⟨w, ?_, e⟩
  rcases List.mem_append.mp hm with hm | hm
  · rcases List.mem_append.mp hm with hm | hm
    · exact .inl hm
    · exact .inl hm
  · rcases hw with rfl | rfl
    · exact .inr (.inl (List.mem_singleton.mp hm))
    · rcases List.mem_cons.mp hm with e | hm
      · exact .inr (.inl e)
      · exact .inr (.inr (List.mem_singleton.mp hm))
/-- behind the place: the word, and what is done -/
theorem deed_rest (hD : nth P dr = some ⟨2, 3, bDraw⟩) (hS : nth P su = some ⟨2, 6, bSum dr⟩) {d : Nat} {a b : Int} {ps ks : List W} {p : W} {kn e3 : En} {kf : U → En} {D : Dn} (hp : POk a b) (hz : ps.length < 300) (hz2 : ks.length < 300) (hm : Names ps) (hm2 : Names ks) (hk : (kn = .m (.l (ks.map U.d)) ∧ kf = En.m) ∨ (kn = .t (.l (ks.map U.d)) ∧ kf = En.t))
    (qr : ∀ y a' b' e1 e3 e4 e5, (y = [120] ∨ y = [121]) → POk a' b' → D.T (.d (.tup [.str [114, 101, 97, 100], p, .str y])) [.t (pl a' b'), e1, kf (.l (ks.map U.d ++ [.d (.str y)])), e3, e4, e5])
    (qa : ∀ n s a' b' e1 e3 e4 e5, Word n → IsSum (ps ++ ks) s → POk a' b' → D.T (.d (.tup [.str n, p, s])) [.t (pl a' b'), e1, kf (.l (ks.map U.d)), e3, e4, e5]) :
    Sn ((lvl (callF P 60 (d + 2)) 60).S [.asg (.nm 5) (.idx (.u (.lst [.cst (.str [114, 101, 97, 100]), .cst (.str [114, 101, 97, 100]), .cst (.str [97, 100, 100]), .cst (.str [97, 100, 100]), .cst (.str [112, 117, 116]), .cst (.str [114, 97, 105, 115, 101]), .cst (.str [108, 111, 119, 101, 114])])) (.frz (.call dr [.r 0, .d (.cst (.int 7))]))),
    .ifs (.cmp .eq (.s 5) (.e (.cst (.str [114, 101, 97, 100])))) [.exp (.app 2 (.idx (.u (.lst [.cst (.str [120]), .cst (.str [121])])) (.frz (.call dr [.r 0, .d (.cst (.int 2))])))),
    .ret (.d (.tup [.cst (.str [114, 101, 97, 100]), .var 4, .idx (.s 2) (.neg (.cst (.int 1)))]))] [],
    .ret (.d (.tup [.var 5, .var 4, .frz (.call su [.r 0, .d (.frz (.cat (.s 1) (.s 2)))])]))] [.t (pl a b), .m (.d (.lis ps)), kn, e3, .m (.d p), .no]) D := by
  have hz3 : Nat.ble (ps.length + ks.length) size = true := Nat.ble_eq.mpr (Nat.le_trans (by omega : ps.length + ks.length ≤ 600) (by decide))
  have hz4 : (ks.map U.d).length < size := by rw [List.length_map]; exact Nat.lt_trans hz2 (by decide)
  have hv : ∀ (e0 e1 e3 e4 e5 : En), vw [e0, e1, kn, e3, e4, e5] (.sl 2) = some (.lis ks) := fun e0 e1 e3 e4 e5 => by
    rcases hk with ⟨rfl, rfl⟩ | ⟨rfl, rfl⟩
    all_goals
      show (dats (ks.map U.d)).map W.lis = _
      rw [dats_map]; rfl
  have hl : ∀ (e0 e1 e3 e4 e5 : En), lookU [e0, e1, kn, e3, e4, e5] 2 = some (.l (ks.map U.d)) := fun e0 e1 e3 e4 e5 => by
    rcases hk with ⟨rfl, rfl⟩ | ⟨rfl, rfl⟩ <;> rfl
  have hu : ∀ (e0 e1 e3 e4 e5 : En) (u : U), putV [e0, e1, kn, e3, e4, e5] 2 u = some [e0, e1, kf u, e3, e4, e5] := fun e0 e1 e3 e4 e5 u => by
    rcases hk with ⟨rfl, rfl⟩ | ⟨rfl, rfl⟩ <;> rfl
  have hl2 : ∀ (e0 e1 e3 e4 e5 : En) (u : U), lookU [e0, e1, kf u, e3, e4, e5] 2 = some u := fun e0 e1 e3 e4 e5 u => by
    rcases hk with ⟨rfl, rfl⟩ | ⟨rfl, rfl⟩ <;> rfl
  have hv2 : ∀ (e0 e1 e3 e4 e5 : En) (y : W), vw [e0, e1, kf (.l (ks.map U.d ++ [.d y])), e3, e4, e5] (.sl 2) = some (.lis (ks ++ [y])) := fun e0 e1 e3 e4 e5 y => by
    show (lookU [e0, e1, kf (.l (ks.map U.d ++ [.d y])), e3, e4, e5] 2).bind vwU = _
    rw [hl2]
    show (dats (ks.map U.d ++ [.d y])).map W.lis = _
    rw [dats_app]; rfl
  have hkf : kn = kf (.l (ks.map U.d)) := by rcases hk with ⟨rfl, rfl⟩ | ⟨rfl, rfl⟩ <;> rfl
  have rd : ∀ (a1 b1 : Int) (e3 e5 : En), POk a1 b1 → Sn ((lvl (callF P 60 (d + 2)) 59).S [.exp (.app 2 (.idx (.u (.lst [.cst (.str [120]), .cst (.str [121])])) (.frz (.call dr [.r 0, .d (.cst (.int 2))])))),
    .ret (.d (.tup [.cst (.str [114, 101, 97, 100]), .var 4, .idx (.s 2) (.neg (.cst (.int 1)))]))] [.t (pl a1 b1), .m (.d (.lis ps)), kn, e3, .m (.d p), e5]) (D.wn fun r1 => Sn ((lvl (callF P 60 (d + 2)) 60).S [.ret (.d (.tup [.var 5, .var 4, .frz (.call su [.r 0, .d (.frz (.cat (.s 1) (.s 2)))])]))] r1) D) := by
    intro a1 b1 e3 e5 hp1
    refine S_cons (S_exp (E_app (hl _ _ _ _ _) ?_))
    repeat (first | with_reducible refine E_cst ?_ | with_reducible refine V_e ?_ | with_reducible refine V_u ?_ | with_reducible refine A_nil ?_ | with_reducible refine A_cons ?_ | with_reducible refine A_d ?_ | with_reducible refine A_u ?_ | with_reducible refine S_cons ?_ | with_reducible refine S_nil ?_ | with_reducible refine S_ret ?_ | with_reducible refine S_if ?_ | with_reducible refine S_asg ?_ | with_reducible refine S_own ?_ | with_reducible refine T_val ?_ | with_reducible refine T_not ?_ | with_reducible refine T_cmp ?_ | with_reducible refine T_or1 ?_ | with_reducible refine T_or ?_ | with_reducible refine T_and1 ?_ | with_reducible refine T_and ?_ | with_reducible refine T_chn ?_ | with_reducible refine E_idx ?_ | with_reducible refine E_tup ?_ | with_reducible refine E_bin ?_ | with_reducible refine E_cmp ?_ | with_reducible refine E_isi ?_ | with_reducible refine E_blt ?_ | with_reducible refine E_frz ?_ | with_reducible refine E_chn ?_ | with_reducible refine E_and1 ?_ | with_reducible refine E_and ?_ | with_reducible refine E_or1 ?_ | with_reducible refine E_or ?_ | with_reducible refine E_not ?_ | with_reducible refine E_neg ?_ | with_reducible refine E_ite ?_ | with_reducible refine E_didx ?_ | with_reducible refine U_d ?_ | with_reducible refine U_lst ?_ | with_reducible refine U_cat ?_ | with_reducible refine U_slc ?_ | with_reducible refine U_lof ?_ | with_reducible refine U_srt ?_ | with_reducible refine U_comp ?_ | with_reducible refine U_ndic ?_ | with_reducible refine U_dlt ?_ | with_reducible refine U_call ?_ | with_reducible refine O_none ?_ | with_reducible refine O_some ?_ | with_reducible refine I_v ?_ | with_reducible refine I_rng ?_ | with_reducible refine I_zip ?_ | with_reducible refine S_for ?_ | with_reducible refine S_lc ?_ | with_reducible refine S_par ?_ | with_reducible refine S_sub ?_ | with_reducible refine S_dsub ?_ | with_reducible refine S_exp ?_ | with_reducible refine S_rse ?_ | with_reducible refine S_try ?_ | with_reducible refine S_unX ?_ | with_reducible refine S_mat ?_ | with_reducible refine M_nil ?_ | ((with_reducible apply E_var); (first | rfl | decide)) | ((with_reducible apply V_s); (first | rfl | decide)) | ((with_reducible apply A_r); (first | rfl | decide)) | ((with_reducible apply U_mv); (first | rfl | decide)) | ((with_reducible apply E_dget); (first | rfl | decide)) | ((with_reducible apply E_app); (first | rfl | decide)) | ((with_reducible apply R_bin); (first | rfl | decide); (first | rfl | decide)) | ((with_reducible apply R_cmp); (first | rfl | decide); (first | rfl | decide); (first | rfl | decide)) | ((with_reducible apply R_idx); (first | rfl | decide); (first | rfl | decide)) | ((with_reducible apply R_isi); (first | rfl | decide); (first | rfl | decide)) | ((with_reducible apply R_blt); (first | rfl | decide); (first | rfl | decide)) | ((with_reducible apply R_didx); (first | rfl | decide); (first | rfl | decide); (first | rfl | decide)) | ((with_reducible apply R_cat); (first | rfl | decide); (first | rfl | decide); (first | rfl | decide); (first | rfl | decide)) | ((with_reducible apply R_slcU); (first | rfl | decide); (first | rfl | decide)) | ((with_reducible apply R_srt); (first | rfl | decide); (first | rfl | decide)) | ((with_reducible apply R_lof); (first | rfl | decide); (first | rfl | decide)) | ((with_reducible apply R_add)) | ((with_reducible apply R_subI)) | ((with_reducible apply R_sub); (first | rfl | decide); (first | rfl | decide); (first | rfl | decide); (first | rfl | decide)) | ((with_reducible apply R_dput); (first | rfl | decide); (first | rfl | decide); (first | rfl | decide); (first | rfl | decide)) | ((with_reducible apply R_dgt); (first | rfl | decide)) | ((with_reducible apply R_app); (first | rfl | decide); (first | rfl | decide); (first | rfl | decide)) | ((with_reducible apply R_wlk); (first | rfl | decide)) | ((with_reducible apply R_zip); (first | rfl | decide)) | ((with_reducible apply E_xfl); (first | rfl | decide)) | ((with_reducible apply E_xis); (first | rfl | decide); (first | rfl | decide)) | ((with_reducible apply M_yes); (first | rfl | decide)) | ((with_reducible apply M_no); (first | rfl | decide)) | ((with_reducible apply S_hnd); (first | rfl | decide); (first | rfl | decide); (first | rfl | decide)) | ((with_reducible apply X_1); rfl) | ((with_reducible apply X_2); rfl) | ((with_reducible apply X_3); rfl) | ((with_reducible refine R_mod ?_ ?_); omega) | ((with_reducible refine R_div ?_ ?_); omega) | ((with_reducible refine R_mul ?_ ?_); (first | (left; omega) | (right; omega))) | ((with_reducible apply R_pow); rfl) | ((with_reducible apply C_nil); rfl; rfl) | (with_reducible refine F_nil ?_) | ((with_reducible apply C_turn); rfl; rfl) | ((with_reducible apply F_cons); rfl) | with_reducible refine C_e ?_ | with_reducible refine C_t ?_)
    refine R_draw hD (d := d + 1) (a := a1) (b := b1) rfl hp1 (by decide) (by decide) (fun _ _ => rfl) fun s a2 b2 s0 s1 hp2 => ?_
    have h3 : s = 0 ∨ s = 1 := by omega
    rcases h3 with rfl | rfl
    · refine R_idx rfl rfl ?_
      refine R_app (hl _ _ _ _ _) hz4 (hu _ _ _ _ _ _) ?_
      repeat (first | ((with_reducible apply R_idx); exact hv2 _ _ _ _ _ _; exact last_at _ _) | ((with_reducible apply V_s); exact hl2 _ _ _ _ _ _) | with_reducible refine E_cst ?_ | with_reducible refine V_e ?_ | with_reducible refine V_u ?_ | with_reducible refine A_nil ?_ | with_reducible refine A_cons ?_ | with_reducible refine A_d ?_ | with_reducible refine A_u ?_ | with_reducible refine S_cons ?_ | with_reducible refine S_nil ?_ | with_reducible refine S_ret ?_ | with_reducible refine S_if ?_ | with_reducible refine S_asg ?_ | with_reducible refine S_own ?_ | with_reducible refine T_val ?_ | with_reducible refine T_not ?_ | with_reducible refine T_cmp ?_ | with_reducible refine T_or1 ?_ | with_reducible refine T_or ?_ | with_reducible refine T_and1 ?_ | with_reducible refine T_and ?_ | with_reducible refine T_chn ?_ | with_reducible refine E_idx ?_ | with_reducible refine E_tup ?_ | with_reducible refine E_bin ?_ | with_reducible refine E_cmp ?_ | with_reducible refine E_isi ?_ | with_reducible refine E_blt ?_ | with_reducible refine E_frz ?_ | with_reducible refine E_chn ?_ | with_reducible refine E_and1 ?_ | with_reducible refine E_and ?_ | with_reducible refine E_or1 ?_ | with_reducible refine E_or ?_ | with_reducible refine E_not ?_ | with_reducible refine E_neg ?_ | with_reducible refine E_ite ?_ | with_reducible refine E_didx ?_ | with_reducible refine U_d ?_ | with_reducible refine U_lst ?_ | with_reducible refine U_cat ?_ | with_reducible refine U_slc ?_ | with_reducible refine U_lof ?_ | with_reducible refine U_srt ?_ | with_reducible refine U_comp ?_ | with_reducible refine U_ndic ?_ | with_reducible refine U_dlt ?_ | with_reducible refine U_call ?_ | with_reducible refine O_none ?_ | with_reducible refine O_some ?_ | with_reducible refine I_v ?_ | with_reducible refine I_rng ?_ | with_reducible refine I_zip ?_ | with_reducible refine S_for ?_ | with_reducible refine S_lc ?_ | with_reducible refine S_par ?_ | with_reducible refine S_sub ?_ | with_reducible refine S_dsub ?_ | with_reducible refine S_exp ?_ | with_reducible refine S_rse ?_ | with_reducible refine S_try ?_ | with_reducible refine S_unX ?_ | with_reducible refine S_mat ?_ | with_reducible refine M_nil ?_ | ((with_reducible apply E_var); (first | rfl | decide)) | ((with_reducible apply V_s); (first | rfl | decide)) | ((with_reducible apply A_r); (first | rfl | decide)) | ((with_reducible apply U_mv); (first | rfl | decide)) | ((with_reducible apply E_dget); (first | rfl | decide)) | ((with_reducible apply E_app); (first | rfl | decide)) | ((with_reducible apply R_bin); (first | rfl | decide); (first | rfl | decide)) | ((with_reducible apply R_cmp); (first | rfl | decide); (first | rfl | decide); (first | rfl | decide)) | ((with_reducible apply R_idx); (first | rfl | decide); (first | rfl | decide)) | ((with_reducible apply R_isi); (first | rfl | decide); (first | rfl | decide)) | ((with_reducible apply R_blt); (first | rfl | decide); (first | rfl | decide)) | ((with_reducible apply R_didx); (first | rfl | decide); (first | rfl | decide); (first | rfl | decide)) | ((with_reducible apply R_cat); (first | rfl | decide); (first | rfl | decide); (first | rfl | decide); (first | rfl | decide)) | ((with_reducible apply R_slcU); (first | rfl | decide); (first | rfl | decide)) | ((with_reducible apply R_srt); (first | rfl | decide); (first | rfl | decide)) | ((with_reducible apply R_lof); (first | rfl | decide); (first | rfl | decide)) | ((with_reducible apply R_add)) | ((with_reducible apply R_subI)) | ((with_reducible apply R_sub); (first | rfl | decide); (first | rfl | decide); (first | rfl | decide); (first | rfl | decide)) | ((with_reducible apply R_dput); (first | rfl | decide); (first | rfl | decide); (first | rfl | decide); (first | rfl | decide)) | ((with_reducible apply R_dgt); (first | rfl | decide)) | ((with_reducible apply R_app); (first | rfl | decide); (first | rfl | decide); (first | rfl | decide)) | ((with_reducible apply R_wlk); (first | rfl | decide)) | ((with_reducible apply R_zip); (first | rfl | decide)) | ((with_reducible apply E_xfl); (first | rfl | decide)) | ((with_reducible apply E_xis); (first | rfl | decide); (first | rfl | decide)) | ((with_reducible apply M_yes); (first | rfl | decide)) | ((with_reducible apply M_no); (first | rfl | decide)) | ((with_reducible apply S_hnd); (first | rfl | decide); (first | rfl | decide); (first | rfl | decide)) | ((with_reducible apply X_1); rfl) | ((with_reducible apply X_2); rfl) | ((with_reducible apply X_3); rfl) | ((with_reducible refine R_mod ?_ ?_); omega) | ((with_reducible refine R_div ?_ ?_); omega) | ((with_reducible refine R_mul ?_ ?_); (first | (left; omega) | (right; omega))) | ((with_reducible apply R_pow); rfl) | ((with_reducible apply C_nil); rfl; rfl) | (with_reducible refine F_nil ?_) | ((with_reducible apply C_turn); rfl; rfl) | ((with_reducible apply F_cons); rfl) | with_reducible refine C_e ?_ | with_reducible refine C_t ?_)
      exact qr [120] a2 b2 _ _ _ _ (.inl rfl) hp2
    · refine R_idx rfl rfl ?_
      refine R_app (hl _ _ _ _ _) hz4 (hu _ _ _ _ _ _) ?_
      repeat (first | ((with_reducible apply R_idx); exact hv2 _ _ _ _ _ _; exact last_at _ _) | ((with_reducible apply V_s); exact hl2 _ _ _ _ _ _) | with_reducible refine E_cst ?_ | with_reducible refine V_e ?_ | with_reducible refine V_u ?_ | with_reducible refine A_nil ?_ | with_reducible refine A_cons ?_ | with_reducible refine A_d ?_ | with_reducible refine A_u ?_ | with_reducible refine S_cons ?_ | with_reducible refine S_nil ?_ | with_reducible refine S_ret ?_ | with_reducible refine S_if ?_ | with_reducible refine S_asg ?_ | with_reducible refine S_own ?_ | with_reducible refine T_val ?_ | with_reducible refine T_not ?_ | with_reducible refine T_cmp ?_ | with_reducible refine T_or1 ?_ | with_reducible refine T_or ?_ | with_reducible refine T_and1 ?_ | with_reducible refine T_and ?_ | with_reducible refine T_chn ?_ | with_reducible refine E_idx ?_ | with_reducible refine E_tup ?_ | with_reducible refine E_bin ?_ | with_reducible refine E_cmp ?_ | with_reducible refine E_isi ?_ | with_reducible refine E_blt ?_ | with_reducible refine E_frz ?_ | with_reducible refine E_chn ?_ | with_reducible refine E_and1 ?_ | with_reducible refine E_and ?_ | with_reducible refine E_or1 ?_ | with_reducible refine E_or ?_ | with_reducible refine E_not ?_ | with_reducible refine E_neg ?_ | with_reducible refine E_ite ?_ | with_reducible refine E_didx ?_ | with_reducible refine U_d ?_ | with_reducible refine U_lst ?_ | with_reducible refine U_cat ?_ | with_reducible refine U_slc ?_ | with_reducible refine U_lof ?_ | with_reducible refine U_srt ?_ | with_reducible refine U_comp ?_ | with_reducible refine U_ndic ?_ | with_reducible refine U_dlt ?_ | with_reducible refine U_call ?_ | with_reducible refine O_none ?_ | with_reducible refine O_some ?_ | with_reducible refine I_v ?_ | with_reducible refine I_rng ?_ | with_reducible refine I_zip ?_ | with_reducible refine S_for ?_ | with_reducible refine S_lc ?_ | with_reducible refine S_par ?_ | with_reducible refine S_sub ?_ | with_reducible refine S_dsub ?_ | with_reducible refine S_exp ?_ | with_reducible refine S_rse ?_ | with_reducible refine S_try ?_ | with_reducible refine S_unX ?_ | with_reducible refine S_mat ?_ | with_reducible refine M_nil ?_ | ((with_reducible apply E_var); (first | rfl | decide)) | ((with_reducible apply V_s); (first | rfl | decide)) | ((with_reducible apply A_r); (first | rfl | decide)) | ((with_reducible apply U_mv); (first | rfl | decide)) | ((with_reducible apply E_dget); (first | rfl | decide)) | ((with_reducible apply E_app); (first | rfl | decide)) | ((with_reducible apply R_bin); (first | rfl | decide); (first | rfl | decide)) | ((with_reducible apply R_cmp); (first | rfl | decide); (first | rfl | decide); (first | rfl | decide)) | ((with_reducible apply R_idx); (first | rfl | decide); (first | rfl | decide)) | ((with_reducible apply R_isi); (first | rfl | decide); (first | rfl | decide)) | ((with_reducible apply R_blt); (first | rfl | decide); (first | rfl | decide)) | ((with_reducible apply R_didx); (first | rfl | decide); (first | rfl | decide); (first | rfl | decide)) | ((with_reducible apply R_cat); (first | rfl | decide); (first | rfl | decide); (first | rfl | decide); (first | rfl | decide)) | ((with_reducible apply R_slcU); (first | rfl | decide); (first | rfl | decide)) | ((with_reducible apply R_srt); (first | rfl | decide); (first | rfl | decide)) | ((with_reducible apply R_lof); (first | rfl | decide); (first | rfl | decide)) | ((with_reducible apply R_add)) | ((with_reducible apply R_subI)) | ((with_reducible apply R_sub); (first | rfl | decide); (first | rfl | decide); (first | rfl | decide); (first | rfl | decide)) | ((with_reducible apply R_dput); (first | rfl | decide); (first | rfl | decide); (first | rfl | decide); (first | rfl | decide)) | ((with_reducible apply R_dgt); (first | rfl | decide)) | ((with_reducible apply R_app); (first | rfl | decide); (first | rfl | decide); (first | rfl | decide)) | ((with_reducible apply R_wlk); (first | rfl | decide)) | ((with_reducible apply R_zip); (first | rfl | decide)) | ((with_reducible apply E_xfl); (first | rfl | decide)) | ((with_reducible apply E_xis); (first | rfl | decide); (first | rfl | decide)) | ((with_reducible apply M_yes); (first | rfl | decide)) | ((with_reducible apply M_no); (first | rfl | decide)) | ((with_reducible apply S_hnd); (first | rfl | decide); (first | rfl | decide); (first | rfl | decide)) | ((with_reducible apply X_1); rfl) | ((with_reducible apply X_2); rfl) | ((with_reducible apply X_3); rfl) | ((with_reducible refine R_mod ?_ ?_); omega) | ((with_reducible refine R_div ?_ ?_); omega) | ((with_reducible refine R_mul ?_ ?_); (first | (left; omega) | (right; omega))) | ((with_reducible apply R_pow); rfl) | ((with_reducible apply C_nil); rfl; rfl) | (with_reducible refine F_nil ?_) | ((with_reducible apply C_turn); rfl; rfl) | ((with_reducible apply F_cons); rfl) | with_reducible refine C_e ?_ | with_reducible refine C_t ?_)
      exact qr [121] a2 b2 _ _ _ _ (.inr rfl) hp2
  have ac : ∀ (n : List Nat) (a1 b1 : Int) (e3 : En), Word n → POk a1 b1 → Sn ((lvl (callF P 60 (d + 2)) 60).S [.ret (.d (.tup [.var 5, .var 4, .frz (.call su [.r 0, .d (.frz (.cat (.s 1) (.s 2)))])]))] [.t (pl a1 b1), .m (.d (.lis ps)), kn, e3, .m (.d p), .m (.d (.str n))]) D := by
    intro n a1 b1 e3 hn hp1
    repeat (first | ((with_reducible apply R_cat); rfl; exact hv _ _ _ _ _; exact hz3; rfl) | ((with_reducible apply V_s); exact hl _ _ _ _ _) | with_reducible refine E_cst ?_ | with_reducible refine V_e ?_ | with_reducible refine V_u ?_ | with_reducible refine A_nil ?_ | with_reducible refine A_cons ?_ | with_reducible refine A_d ?_ | with_reducible refine A_u ?_ | with_reducible refine S_cons ?_ | with_reducible refine S_nil ?_ | with_reducible refine S_ret ?_ | with_reducible refine S_if ?_ | with_reducible refine S_asg ?_ | with_reducible refine S_own ?_ | with_reducible refine T_val ?_ | with_reducible refine T_not ?_ | with_reducible refine T_cmp ?_ | with_reducible refine T_or1 ?_ | with_reducible refine T_or ?_ | with_reducible refine T_and1 ?_ | with_reducible refine T_and ?_ | with_reducible refine T_chn ?_ | with_reducible refine E_idx ?_ | with_reducible refine E_tup ?_ | with_reducible refine E_bin ?_ | with_reducible refine E_cmp ?_ | with_reducible refine E_isi ?_ | with_reducible refine E_blt ?_ | with_reducible refine E_frz ?_ | with_reducible refine E_chn ?_ | with_reducible refine E_and1 ?_ | with_reducible refine E_and ?_ | with_reducible refine E_or1 ?_ | with_reducible refine E_or ?_ | with_reducible refine E_not ?_ | with_reducible refine E_neg ?_ | with_reducible refine E_ite ?_ | with_reducible refine E_didx ?_ | with_reducible refine U_d ?_ | with_reducible refine U_lst ?_ | with_reducible refine U_cat ?_ | with_reducible refine U_slc ?_ | with_reducible refine U_lof ?_ | with_reducible refine U_srt ?_ | with_reducible refine U_comp ?_ | with_reducible refine U_ndic ?_ | with_reducible refine U_dlt ?_ | with_reducible refine U_call ?_ | with_reducible refine O_none ?_ | with_reducible refine O_some ?_ | with_reducible refine I_v ?_ | with_reducible refine I_rng ?_ | with_reducible refine I_zip ?_ | with_reducible refine S_for ?_ | with_reducible refine S_lc ?_ | with_reducible refine S_par ?_ | with_reducible refine S_sub ?_ | with_reducible refine S_dsub ?_ | with_reducible refine S_exp ?_ | with_reducible refine S_rse ?_ | with_reducible refine S_try ?_ | with_reducible refine S_unX ?_ | with_reducible refine S_mat ?_ | with_reducible refine M_nil ?_ | ((with_reducible apply E_var); (first | rfl | decide)) | ((with_reducible apply V_s); (first | rfl | decide)) | ((with_reducible apply A_r); (first | rfl | decide)) | ((with_reducible apply U_mv); (first | rfl | decide)) | ((with_reducible apply E_dget); (first | rfl | decide)) | ((with_reducible apply E_app); (first | rfl | decide)) | ((with_reducible apply R_bin); (first | rfl | decide); (first | rfl | decide)) | ((with_reducible apply R_cmp); (first | rfl | decide); (first | rfl | decide); (first | rfl | decide)) | ((with_reducible apply R_idx); (first | rfl | decide); (first | rfl | decide)) | ((with_reducible apply R_isi); (first | rfl | decide); (first | rfl | decide)) | ((with_reducible apply R_blt); (first | rfl | decide); (first | rfl | decide)) | ((with_reducible apply R_didx); (first | rfl | decide); (first | rfl | decide); (first | rfl | decide)) | ((with_reducible apply R_cat); (first | rfl | decide); (first | rfl | decide); (first | rfl | decide); (first | rfl | decide)) | ((with_reducible apply R_slcU); (first | rfl | decide); (first | rfl | decide)) | ((with_reducible apply R_srt); (first | rfl | decide); (first | rfl | decide)) | ((with_reducible apply R_lof); (first | rfl | decide); (first | rfl | decide)) | ((with_reducible apply R_add)) | ((with_reducible apply R_subI)) | ((with_reducible apply R_sub); (first | rfl | decide); (first | rfl | decide); (first | rfl | decide); (first | rfl | decide)) | ((with_reducible apply R_dput); (first | rfl | decide); (first | rfl | decide); (first | rfl | decide); (first | rfl | decide)) | ((with_reducible apply R_dgt); (first | rfl | decide)) | ((with_reducible apply R_app); (first | rfl | decide); (first | rfl | decide); (first | rfl | decide)) | ((with_reducible apply R_wlk); (first | rfl | decide)) | ((with_reducible apply R_zip); (first | rfl | decide)) | ((with_reducible apply E_xfl); (first | rfl | decide)) | ((with_reducible apply E_xis); (first | rfl | decide); (first | rfl | decide)) | ((with_reducible apply M_yes); (first | rfl | decide)) | ((with_reducible apply M_no); (first | rfl | decide)) | ((with_reducible apply S_hnd); (first | rfl | decide); (first | rfl | decide); (first | rfl | decide)) | ((with_reducible apply X_1); rfl) | ((with_reducible apply X_2); rfl) | ((with_reducible apply X_3); rfl) | ((with_reducible refine R_mod ?_ ?_); omega) | ((with_reducible refine R_div ?_ ?_); omega) | ((with_reducible refine R_mul ?_ ?_); (first | (left; omega) | (right; omega))) | ((with_reducible apply R_pow); rfl) | ((with_reducible apply C_nil); rfl; rfl) | (with_reducible refine F_nil ?_) | ((with_reducible apply C_turn); rfl; rfl) | ((with_reducible apply F_cons); rfl) | with_reducible refine C_e ?_ | with_reducible refine C_t ?_)
    rw [fz_map]
    refine R_sum hD hS (d := d) (a := a1) (b := b1) rfl hp1 (by rw [List.length_append]; omega) (fun w hw => ?_) (fun _ _ => rfl) fun s a2 b2 hs hp2 => ?_
    · rcases List.mem_append.mp hw with hw | hw
      · exact hm w hw
      · exact hm2 w hw
    · repeat (first | with_reducible refine E_cst ?_ | with_reducible refine V_e ?_ | with_reducible refine V_u ?_ | with_reducible refine A_nil ?_ | with_reducible refine A_cons ?_ | with_reducible refine A_d ?_ | with_reducible refine A_u ?_ | with_reducible refine S_cons ?_ | with_reducible refine S_nil ?_ | with_reducible refine S_ret ?_ | with_reducible refine S_if ?_ | with_reducible refine S_asg ?_ | with_reducible refine S_own ?_ | with_reducible refine T_val ?_ | with_reducible refine T_not ?_ | with_reducible refine T_cmp ?_ | with_reducible refine T_or1 ?_ | with_reducible refine T_or ?_ | with_reducible refine T_and1 ?_ | with_reducible refine T_and ?_ | with_reducible refine T_chn ?_ | with_reducible refine E_idx ?_ | with_reducible refine E_tup ?_ | with_reducible refine E_bin ?_ | with_reducible refine E_cmp ?_ | with_reducible refine E_isi ?_ | with_reducible refine E_blt ?_ | with_reducible refine E_frz ?_ | with_reducible refine E_chn ?_ | with_reducible refine E_and1 ?_ | with_reducible refine E_and ?_ | with_reducible refine E_or1 ?_ | with_reducible refine E_or ?_ | with_reducible refine E_not ?_ | with_reducible refine E_neg ?_ | with_reducible refine E_ite ?_ | with_reducible refine E_didx ?_ | with_reducible refine U_d ?_ | with_reducible refine U_lst ?_ | with_reducible refine U_cat ?_ | with_reducible refine U_slc ?_ | with_reducible refine U_lof ?_ | with_reducible refine U_srt ?_ | with_reducible refine U_comp ?_ | with_reducible refine U_ndic ?_ | with_reducible refine U_dlt ?_ | with_reducible refine U_call ?_ | with_reducible refine O_none ?_ | with_reducible refine O_some ?_ | with_reducible refine I_v ?_ | with_reducible refine I_rng ?_ | with_reducible refine I_zip ?_ | with_reducible refine S_for ?_ | with_reducible refine S_lc ?_ | with_reducible refine S_par ?_ | with_reducible refine S_sub ?_ | with_reducible refine S_dsub ?_ | with_reducible refine S_exp ?_ | with_reducible refine S_rse ?_ | with_reducible refine S_try ?_ | with_reducible refine S_unX ?_ | with_reducible refine S_mat ?_ | with_reducible refine M_nil ?_ | ((with_reducible apply E_var); (first | rfl | decide)) | ((with_reducible apply V_s); (first | rfl | decide)) | ((with_reducible apply A_r); (first | rfl | decide)) | ((with_reducible apply U_mv); (first | rfl | decide)) | ((with_reducible apply E_dget); (first | rfl | decide)) | ((with_reducible apply E_app); (first | rfl | decide)) | ((with_reducible apply R_bin); (first | rfl | decide); (first | rfl | decide)) | ((with_reducible apply R_cmp); (first | rfl | decide); (first | rfl | decide); (first | rfl | decide)) | ((with_reducible apply R_idx); (first | rfl | decide); (first | rfl | decide)) | ((with_reducible apply R_isi); (first | rfl | decide); (first | rfl | decide)) | ((with_reducible apply R_blt); (first | rfl | decide); (first | rfl | decide)) | ((with_reducible apply R_didx); (first | rfl | decide); (first | rfl | decide); (first | rfl | decide)) | ((with_reducible apply R_cat); (first | rfl | decide); (first | rfl | decide); (first | rfl | decide); (first | rfl | decide)) | ((with_reducible apply R_slcU); (first | rfl | decide); (first | rfl | decide)) | ((with_reducible apply R_srt); (first | rfl | decide); (first | rfl | decide)) | ((with_reducible apply R_lof); (first | rfl | decide); (first | rfl | decide)) | ((with_reducible apply R_add)) | ((with_reducible apply R_subI)) | ((with_reducible apply R_sub); (first | rfl | decide); (first | rfl | decide); (first | rfl | decide); (first | rfl | decide)) | ((with_reducible apply R_dput); (first | rfl | decide); (first | rfl | decide); (first | rfl | decide); (first | rfl | decide)) | ((with_reducible apply R_dgt); (first | rfl | decide)) | ((with_reducible apply R_app); (first | rfl | decide); (first | rfl | decide); (first | rfl | decide)) | ((with_reducible apply R_wlk); (first | rfl | decide)) | ((with_reducible apply R_zip); (first | rfl | decide)) | ((with_reducible apply E_xfl); (first | rfl | decide)) | ((with_reducible apply E_xis); (first | rfl | decide); (first | rfl | decide)) | ((with_reducible apply M_yes); (first | rfl | decide)) | ((with_reducible apply M_no); (first | rfl | decide)) | ((with_reducible apply S_hnd); (first | rfl | decide); (first | rfl | decide); (first | rfl | decide)) | ((with_reducible apply X_1); rfl) | ((with_reducible apply X_2); rfl) | ((with_reducible apply X_3); rfl) | ((with_reducible refine R_mod ?_ ?_); omega) | ((with_reducible refine R_div ?_ ?_); omega) | ((with_reducible refine R_mul ?_ ?_); (first | (left; omega) | (right; omega))) | ((with_reducible apply R_pow); rfl) | ((with_reducible apply C_nil); rfl; rfl) | (with_reducible refine F_nil ?_) | ((with_reducible apply C_turn); rfl; rfl) | ((with_reducible apply F_cons); rfl) | with_reducible refine C_e ?_ | with_reducible refine C_t ?_)
      subst hkf
      exact qa n s a2 b2 _ _ _ _ hn hs hp2
  refine S_cons (S_asg ?_)
  repeat (first | with_reducible refine E_cst ?_ | with_reducible refine V_e ?_ | with_reducible refine V_u ?_ | with_reducible refine A_nil ?_ | with_reducible refine A_cons ?_ | with_reducible refine A_d ?_ | with_reducible refine A_u ?_ | with_reducible refine S_cons ?_ | with_reducible refine S_nil ?_ | with_reducible refine S_ret ?_ | with_reducible refine S_if ?_ | with_reducible refine S_asg ?_ | with_reducible refine S_own ?_ | with_reducible refine T_val ?_ | with_reducible refine T_not ?_ | with_reducible refine T_cmp ?_ | with_reducible refine T_or1 ?_ | with_reducible refine T_or ?_ | with_reducible refine T_and1 ?_ | with_reducible refine T_and ?_ | with_reducible refine T_chn ?_ | with_reducible refine E_idx ?_ | with_reducible refine E_tup ?_ | with_reducible refine E_bin ?_ | with_reducible refine E_cmp ?_ | with_reducible refine E_isi ?_ | with_reducible refine E_blt ?_ | with_reducible refine E_frz ?_ | with_reducible refine E_chn ?_ | with_reducible refine E_and1 ?_ | with_reducible refine E_and ?_ | with_reducible refine E_or1 ?_ | with_reducible refine E_or ?_ | with_reducible refine E_not ?_ | with_reducible refine E_neg ?_ | with_reducible refine E_ite ?_ | with_reducible refine E_didx ?_ | with_reducible refine U_d ?_ | with_reducible refine U_lst ?_ | with_reducible refine U_cat ?_ | with_reducible refine U_slc ?_ | with_reducible refine U_lof ?_ | with_reducible refine U_srt ?_ | with_reducible refine U_comp ?_ | with_reducible refine U_ndic ?_ | with_reducible refine U_dlt ?_ | with_reducible refine U_call ?_ | with_reducible refine O_none ?_ | with_reducible refine O_some ?_ | with_reducible refine I_v ?_ | with_reducible refine I_rng ?_ | with_reducible refine I_zip ?_ | with_reducible refine S_for ?_ | with_reducible refine S_lc ?_ | with_reducible refine S_par ?_ | with_reducible refine S_sub ?_ | with_reducible refine S_dsub ?_ | with_reducible refine S_exp ?_ | with_reducible refine S_rse ?_ | with_reducible refine S_try ?_ | with_reducible refine S_unX ?_ | with_reducible refine S_mat ?_ | with_reducible refine M_nil ?_ | ((with_reducible apply E_var); (first | rfl | decide)) | ((with_reducible apply V_s); (first | rfl | decide)) | ((with_reducible apply A_r); (first | rfl | decide)) | ((with_reducible apply U_mv); (first | rfl | decide)) | ((with_reducible apply E_dget); (first | rfl | decide)) | ((with_reducible apply E_app); (first | rfl | decide)) | ((with_reducible apply R_bin); (first | rfl | decide); (first | rfl | decide)) | ((with_reducible apply R_cmp); (first | rfl | decide); (first | rfl | decide); (first | rfl | decide)) | ((with_reducible apply R_idx); (first | rfl | decide); (first | rfl | decide)) | ((with_reducible apply R_isi); (first | rfl | decide); (first | rfl | decide)) | ((with_reducible apply R_blt); (first | rfl | decide); (first | rfl | decide)) | ((with_reducible apply R_didx); (first | rfl | decide); (first | rfl | decide); (first | rfl | decide)) | ((with_reducible apply R_cat); (first | rfl | decide); (first | rfl | decide); (first | rfl | decide); (first | rfl | decide)) | ((with_reducible apply R_slcU); (first | rfl | decide); (first | rfl | decide)) | ((with_reducible apply R_srt); (first | rfl | decide); (first | rfl | decide)) | ((with_reducible apply R_lof); (first | rfl | decide); (first | rfl | decide)) | ((with_reducible apply R_add)) | ((with_reducible apply R_subI)) | ((with_reducible apply R_sub); (first | rfl | decide); (first | rfl | decide); (first | rfl | decide); (first | rfl | decide)) | ((with_reducible apply R_dput); (first | rfl | decide); (first | rfl | decide); (first | rfl | decide); (first | rfl | decide)) | ((with_reducible apply R_dgt); (first | rfl | decide)) | ((with_reducible apply R_app); (first | rfl | decide); (first | rfl | decide); (first | rfl | decide)) | ((with_reducible apply R_wlk); (first | rfl | decide)) | ((with_reducible apply R_zip); (first | rfl | decide)) | ((with_reducible apply E_xfl); (first | rfl | decide)) | ((with_reducible apply E_xis); (first | rfl | decide); (first | rfl | decide)) | ((with_reducible apply M_yes); (first | rfl | decide)) | ((with_reducible apply M_no); (first | rfl | decide)) | ((with_reducible apply S_hnd); (first | rfl | decide); (first | rfl | decide); (first | rfl | decide)) | ((with_reducible apply X_1); rfl) | ((with_reducible apply X_2); rfl) | ((with_reducible apply X_3); rfl) | ((with_reducible refine R_mod ?_ ?_); omega) | ((with_reducible refine R_div ?_ ?_); omega) | ((with_reducible refine R_mul ?_ ?_); (first | (left; omega) | (right; omega))) | ((with_reducible apply R_pow); rfl) | ((with_reducible apply C_nil); rfl; rfl) | (with_reducible refine F_nil ?_) | ((with_reducible apply C_turn); rfl; rfl) | ((with_reducible apply F_cons); rfl) | with_reducible refine C_e ?_ | with_reducible refine C_t ?_)
  refine R_draw hD (d := d + 1) (a := a) (b := b) rfl hp (by decide) (by decide) (fun _ _ => rfl) fun s a1 b1 s0 s1 hp1 => ?_
  have h3 : s = 0 ∨ s = 1 ∨ s = 2 ∨ s = 3 ∨ s = 4 ∨ s = 5 ∨ s = 6 := by omega
  rcases h3 with rfl | rfl | rfl | rfl | rfl | rfl | rfl
  · refine R_idx rfl rfl ⟨_, rfl, ?_⟩
    refine S_cons (S_if (T_cmp (V_s rfl (V_e (E_cst (R_cmp rfl rfl rfl (iteY rfl ?_)))))))
    exact rd a1 b1 _ _ hp1
  · refine R_idx rfl rfl ⟨_, rfl, ?_⟩
    refine S_cons (S_if (T_cmp (V_s rfl (V_e (E_cst (R_cmp rfl rfl rfl (iteY rfl ?_)))))))
    exact rd a1 b1 _ _ hp1
  · refine R_idx rfl rfl ⟨_, rfl, ?_⟩
    refine S_cons (S_if (T_cmp (V_s rfl (V_e (E_cst (R_cmp rfl rfl rfl (iteN (by decide) (S_nil ?_))))))))
    exact ac _ a1 b1 _ (.inl rfl) hp1
  · refine R_idx rfl rfl ⟨_, rfl, ?_⟩
    refine S_cons (S_if (T_cmp (V_s rfl (V_e (E_cst (R_cmp rfl rfl rfl (iteN (by decide) (S_nil ?_))))))))
    exact ac _ a1 b1 _ (.inl rfl) hp1
  · refine R_idx rfl rfl ⟨_, rfl, ?_⟩
    refine S_cons (S_if (T_cmp (V_s rfl (V_e (E_cst (R_cmp rfl rfl rfl (iteN (by decide) (S_nil ?_))))))))
    exact ac _ a1 b1 _ (.inr (.inl rfl)) hp1
  · refine R_idx rfl rfl ⟨_, rfl, ?_⟩
    refine S_cons (S_if (T_cmp (V_s rfl (V_e (E_cst (R_cmp rfl rfl rfl (iteN (by decide) (S_nil ?_))))))))
    exact ac _ a1 b1 _ (.inr (.inr (.inl rfl))) hp1
  · refine R_idx rfl rfl ⟨_, rfl, ?_⟩
    refine S_cons (S_if (T_cmp (V_s rfl (V_e (E_cst (R_cmp rfl rfl rfl (iteN (by decide) (S_nil ?_))))))))
    exact ac _ a1 b1 _ (.inr (.inr (.inr rfl))) hp1
end
end FL


set_option linter.all false
set_option maxRecDepth 100000
set_option maxHeartbeats 4000000
namespace FL
open FM
section
variable {P : List FD} {dr su de : Nat}
theorem deed_body (hD : nth P dr = some ⟨2, 3, bDraw⟩) (hS : nth P su = some ⟨2, 6, bSum dr⟩) {d : Nat} {a b : Int} {ps ks : List W} {kn : En} {kf : U → En} {D : Dn} (hp : POk a b) (hz : ps.length < 300) (hz2 : ks.length < 300) (hm : Names ps) (hm2 : Names ks) (hk : (kn = .m (.l (ks.map U.d)) ∧ kf = En.m) ∨ (kn = .t (.l (ks.map U.d)) ∧ kf = En.t))
    (qr : ∀ p y a' b' e1 e3 e4 e5, IsPl ps p → (y = [120] ∨ y = [121]) → POk a' b' → D.T (.d (.tup [.str [114, 101, 97, 100], p, .str y])) [.t (pl a' b'), e1, kf (.l (ks.map U.d ++ [.d (.str y)])), e3, e4, e5])
    (qa : ∀ p n s a' b' e1 e3 e4 e5, IsPl ps p → Word n → IsSum (ps ++ ks) s → POk a' b' → D.T (.d (.tup [.str n, p, s])) [.t (pl a' b'), e1, kf (.l (ks.map U.d)), e3, e4, e5]) :
    Sn ((lvl (callF P 60 (d + 2)) 60).S (bDeed dr su) [.t (pl a b), .m (.d (.lis ps)), kn, .no, .no, .no]) D := by
  have hz1 : Nat.ble (ps.length + ps.length) size = true := Nat.ble_eq.mpr (Nat.le_trans (by omega : ps.length + ps.length ≤ 600) (by decide))
  have rest : ∀ (ws : List W) (a1 b1 : Int), (ws = [.int 0] ∨ ws = [.int 0, .int 1]) → POk a1 b1 → Sn ((lvl (callF P 60 (d + 2)) 60).S ((bDeed dr su).drop 1) [.t (pl a1 b1), .m (.d (.lis ps)), kn, .m (.d (.lis (ps ++ ps ++ ws))), .no, .no]) D := by
    intro ws a1 b1 hw hp1
    have hlen : ((ps ++ ps ++ ws).length : Int) < 1000 ∧ 0 < ((ps ++ ps ++ ws).length : Int) := by
      rcases hw with rfl | rfl <;> (rw [List.length_append, List.length_append]; simp only [List.length_cons, List.length_nil]; omega)
    show Sn ((lvl (callF P 60 (d + 2)) 60).S (_ :: _) _) D
    refine S_cons (S_asg (E_tup (A_cons ?_)))
    repeat (first | with_reducible refine E_cst ?_ | with_reducible refine V_e ?_ | with_reducible refine V_u ?_ | with_reducible refine A_nil ?_ | with_reducible refine A_cons ?_ | with_reducible refine A_d ?_ | with_reducible refine A_u ?_ | with_reducible refine S_cons ?_ | with_reducible refine S_nil ?_ | with_reducible refine S_ret ?_ | with_reducible refine S_if ?_ | with_reducible refine S_asg ?_ | with_reducible refine S_own ?_ | with_reducible refine T_val ?_ | with_reducible refine T_not ?_ | with_reducible refine T_cmp ?_ | with_reducible refine T_or1 ?_ | with_reducible refine T_or ?_ | with_reducible refine T_and1 ?_ | with_reducible refine T_and ?_ | with_reducible refine T_chn ?_ | with_reducible refine E_idx ?_ | with_reducible refine E_tup ?_ | with_reducible refine E_bin ?_ | with_reducible refine E_cmp ?_ | with_reducible refine E_isi ?_ | with_reducible refine E_blt ?_ | with_reducible refine E_frz ?_ | with_reducible refine E_chn ?_ | with_reducible refine E_and1 ?_ | with_reducible refine E_and ?_ | with_reducible refine E_or1 ?_ | with_reducible refine E_or ?_ | with_reducible refine E_not ?_ | with_reducible refine E_neg ?_ | with_reducible refine E_ite ?_ | with_reducible refine E_didx ?_ | with_reducible refine U_d ?_ | with_reducible refine U_lst ?_ | with_reducible refine U_cat ?_ | with_reducible refine U_slc ?_ | with_reducible refine U_lof ?_ | with_reducible refine U_srt ?_ | with_reducible refine U_comp ?_ | with_reducible refine U_ndic ?_ | with_reducible refine U_dlt ?_ | with_reducible refine U_call ?_ | with_reducible refine O_none ?_ | with_reducible refine O_some ?_ | with_reducible refine I_v ?_ | with_reducible refine I_rng ?_ | with_reducible refine I_zip ?_ | with_reducible refine S_for ?_ | with_reducible refine S_lc ?_ | with_reducible refine S_par ?_ | with_reducible refine S_sub ?_ | with_reducible refine S_dsub ?_ | with_reducible refine S_exp ?_ | with_reducible refine S_rse ?_ | with_reducible refine S_try ?_ | with_reducible refine S_unX ?_ | with_reducible refine S_mat ?_ | with_reducible refine M_nil ?_ | ((with_reducible apply E_var); (first | rfl | decide)) | ((with_reducible apply V_s); (first | rfl | decide)) | ((with_reducible apply A_r); (first | rfl | decide)) | ((with_reducible apply U_mv); (first | rfl | decide)) | ((with_reducible apply E_dget); (first | rfl | decide)) | ((with_reducible apply E_app); (first | rfl | decide)) | ((with_reducible apply R_bin); (first | rfl | decide); (first | rfl | decide)) | ((with_reducible apply R_cmp); (first | rfl | decide); (first | rfl | decide); (first | rfl | decide)) | ((with_reducible apply R_idx); (first | rfl | decide); (first | rfl | decide)) | ((with_reducible apply R_isi); (first | rfl | decide); (first | rfl | decide)) | ((with_reducible apply R_blt); (first | rfl | decide); (first | rfl | decide)) | ((with_reducible apply R_didx); (first | rfl | decide); (first | rfl | decide); (first | rfl | decide)) | ((with_reducible apply R_cat); (first | rfl | decide); (first | rfl | decide); (first | rfl | decide); (first | rfl | decide)) | ((with_reducible apply R_slcU); (first | rfl | decide); (first | rfl | decide)) | ((with_reducible apply R_srt); (first | rfl | decide); (first | rfl | decide)) | ((with_reducible apply R_lof); (first | rfl | decide); (first | rfl | decide)) | ((with_reducible apply R_add)) | ((with_reducible apply R_subI)) | ((with_reducible apply R_sub); (first | rfl | decide); (first | rfl | decide); (first | rfl | decide); (first | rfl | decide)) | ((with_reducible apply R_dput); (first | rfl | decide); (first | rfl | decide); (first | rfl | decide); (first | rfl | decide)) | ((with_reducible apply R_dgt); (first | rfl | decide)) | ((with_reducible apply R_app); (first | rfl | decide); (first | rfl | decide); (first | rfl | decide)) | ((with_reducible apply R_wlk); (first | rfl | decide)) | ((with_reducible apply R_zip); (first | rfl | decide)) | ((with_reducible apply E_xfl); (first | rfl | decide)) | ((with_reducible apply E_xis); (first | rfl | decide); (first | rfl | decide)) | ((with_reducible apply M_yes); (first | rfl | decide)) | ((with_reducible apply M_no); (first | rfl | decide)) | ((with_reducible apply S_hnd); (first | rfl | decide); (first | rfl | decide); (first | rfl | decide)) | ((with_reducible apply X_1); rfl) | ((with_reducible apply X_2); rfl) | ((with_reducible apply X_3); rfl) | ((with_reducible refine R_mod ?_ ?_); omega) | ((with_reducible refine R_div ?_ ?_); omega) | ((with_reducible refine R_mul ?_ ?_); (first | (left; omega) | (right; omega))) | ((with_reducible apply R_pow); rfl) | ((with_reducible apply C_nil); rfl; rfl) | (with_reducible refine F_nil ?_) | ((with_reducible apply C_turn); rfl; rfl) | ((with_reducible apply F_cons); rfl) | with_reducible refine C_e ?_ | with_reducible refine C_t ?_)
    refine R_draw hD (d := d + 1) (a := a1) (b := b1) rfl hp1 (by decide) (by decide) (fun _ _ => rfl) fun s a2 b2 s0 s1 hp2 => ?_
    have fin : ∀ t : List Nat, (t = [97] ∨ t = [98]) → Rn (evs (lvl (callF P 60 (d + 2)) 58).E [.idx (.s 3) (.frz (.call dr [.r 0, .d (.blt .len [.s 3])]))] [.t (pl a2 b2), .m (.d (.lis ps)), kn, .m (.d (.lis (ps ++ ps ++ ws))), .no, .no])
        (fun ws1 r2 => ∃ r3, bindG (.nm 4) (.tup (.str t :: ws1)) r2 = some r3 ∧ (D.wn fun r1 => Sn ((lvl (callF P 60 (d + 2)) 60).S ((bDeed dr su).drop 2) r1) D).N r3) D.X := by
      intro t ht
      repeat (first | with_reducible refine E_cst ?_ | with_reducible refine V_e ?_ | with_reducible refine V_u ?_ | with_reducible refine A_nil ?_ | with_reducible refine A_cons ?_ | with_reducible refine A_d ?_ | with_reducible refine A_u ?_ | with_reducible refine S_cons ?_ | with_reducible refine S_nil ?_ | with_reducible refine S_ret ?_ | with_reducible refine S_if ?_ | with_reducible refine S_asg ?_ | with_reducible refine S_own ?_ | with_reducible refine T_val ?_ | with_reducible refine T_not ?_ | with_reducible refine T_cmp ?_ | with_reducible refine T_or1 ?_ | with_reducible refine T_or ?_ | with_reducible refine T_and1 ?_ | with_reducible refine T_and ?_ | with_reducible refine T_chn ?_ | with_reducible refine E_idx ?_ | with_reducible refine E_tup ?_ | with_reducible refine E_bin ?_ | with_reducible refine E_cmp ?_ | with_reducible refine E_isi ?_ | with_reducible refine E_blt ?_ | with_reducible refine E_frz ?_ | with_reducible refine E_chn ?_ | with_reducible refine E_and1 ?_ | with_reducible refine E_and ?_ | with_reducible refine E_or1 ?_ | with_reducible refine E_or ?_ | with_reducible refine E_not ?_ | with_reducible refine E_neg ?_ | with_reducible refine E_ite ?_ | with_reducible refine E_didx ?_ | with_reducible refine U_d ?_ | with_reducible refine U_lst ?_ | with_reducible refine U_cat ?_ | with_reducible refine U_slc ?_ | with_reducible refine U_lof ?_ | with_reducible refine U_srt ?_ | with_reducible refine U_comp ?_ | with_reducible refine U_ndic ?_ | with_reducible refine U_dlt ?_ | with_reducible refine U_call ?_ | with_reducible refine O_none ?_ | with_reducible refine O_some ?_ | with_reducible refine I_v ?_ | with_reducible refine I_rng ?_ | with_reducible refine I_zip ?_ | with_reducible refine S_for ?_ | with_reducible refine S_lc ?_ | with_reducible refine S_par ?_ | with_reducible refine S_sub ?_ | with_reducible refine S_dsub ?_ | with_reducible refine S_exp ?_ | with_reducible refine S_rse ?_ | with_reducible refine S_try ?_ | with_reducible refine S_unX ?_ | with_reducible refine S_mat ?_ | with_reducible refine M_nil ?_ | ((with_reducible apply E_var); (first | rfl | decide)) | ((with_reducible apply V_s); (first | rfl | decide)) | ((with_reducible apply A_r); (first | rfl | decide)) | ((with_reducible apply U_mv); (first | rfl | decide)) | ((with_reducible apply E_dget); (first | rfl | decide)) | ((with_reducible apply E_app); (first | rfl | decide)) | ((with_reducible apply R_bin); (first | rfl | decide); (first | rfl | decide)) | ((with_reducible apply R_cmp); (first | rfl | decide); (first | rfl | decide); (first | rfl | decide)) | ((with_reducible apply R_idx); (first | rfl | decide); (first | rfl | decide)) | ((with_reducible apply R_isi); (first | rfl | decide); (first | rfl | decide)) | ((with_reducible apply R_blt); (first | rfl | decide); (first | rfl | decide)) | ((with_reducible apply R_didx); (first | rfl | decide); (first | rfl | decide); (first | rfl | decide)) | ((with_reducible apply R_cat); (first | rfl | decide); (first | rfl | decide); (first | rfl | decide); (first | rfl | decide)) | ((with_reducible apply R_slcU); (first | rfl | decide); (first | rfl | decide)) | ((with_reducible apply R_srt); (first | rfl | decide); (first | rfl | decide)) | ((with_reducible apply R_lof); (first | rfl | decide); (first | rfl | decide)) | ((with_reducible apply R_add)) | ((with_reducible apply R_subI)) | ((with_reducible apply R_sub); (first | rfl | decide); (first | rfl | decide); (first | rfl | decide); (first | rfl | decide)) | ((with_reducible apply R_dput); (first | rfl | decide); (first | rfl | decide); (first | rfl | decide); (first | rfl | decide)) | ((with_reducible apply R_dgt); (first | rfl | decide)) | ((with_reducible apply R_app); (first | rfl | decide); (first | rfl | decide); (first | rfl | decide)) | ((with_reducible apply R_wlk); (first | rfl | decide)) | ((with_reducible apply R_zip); (first | rfl | decide)) | ((with_reducible apply E_xfl); (first | rfl | decide)) | ((with_reducible apply E_xis); (first | rfl | decide); (first | rfl | decide)) | ((with_reducible apply M_yes); (first | rfl | decide)) | ((with_reducible apply M_no); (first | rfl | decide)) | ((with_reducible apply S_hnd); (first | rfl | decide); (first | rfl | decide); (first | rfl | decide)) | ((with_reducible apply X_1); rfl) | ((with_reducible apply X_2); rfl) | ((with_reducible apply X_3); rfl) | ((with_reducible refine R_mod ?_ ?_); omega) | ((with_reducible refine R_div ?_ ?_); omega) | ((with_reducible refine R_mul ?_ ?_); (first | (left; omega) | (right; omega))) | ((with_reducible apply R_pow); rfl) | ((with_reducible apply C_nil); rfl; rfl) | (with_reducible refine F_nil ?_) | ((with_reducible apply C_turn); rfl; rfl) | ((with_reducible apply F_cons); rfl) | with_reducible refine C_e ?_ | with_reducible refine C_t ?_)
      refine R_draw hD (d := d + 1) (a := a2) (b := b2) rfl hp2 hlen.2 (by have := hlen.1; omega) (fun _ _ => rfl) fun k a3 b3 k0 k1 hp3 => ?_
      obtain ⟨w, hw1, ew⟩ := idx_pl (ps := ps) hw k0 k1
      refine R_idx rfl ew (A_nil ⟨_, rfl, ?_⟩)
      have hpl : IsPl ps (.tup [.str t, w]) := ⟨t, w, rfl, ht, hw1⟩
      exact deed_rest hD hS hp3 hz hz2 hm hm2 hk (fun y a' b' e1 e3 e4 e5 => qr _ y a' b' e1 e3 e4 e5 hpl) (fun n s a' b' e1 e3 e4 e5 => qa _ n s a' b' e1 e3 e4 e5 hpl)
    have h3 : s = 0 ∨ s = 1 := by omega
    rcases h3 with rfl | rfl
    · exact R_idx rfl rfl (fin [97] (.inl rfl))
    · exact R_idx rfl rfl (fin [98] (.inr rfl))
  unfold bDeed
  refine S_cons (S_asg (E_frz (U_cat (V_u (U_cat (V_s rfl (V_s rfl (R_cat (us := ps) (ws := ps) rfl rfl hz1 rfl (V_u (U_slc ?_))))))))))
  repeat (first | with_reducible refine E_cst ?_ | with_reducible refine V_e ?_ | with_reducible refine V_u ?_ | with_reducible refine A_nil ?_ | with_reducible refine A_cons ?_ | with_reducible refine A_d ?_ | with_reducible refine A_u ?_ | with_reducible refine S_cons ?_ | with_reducible refine S_nil ?_ | with_reducible refine S_ret ?_ | with_reducible refine S_if ?_ | with_reducible refine S_asg ?_ | with_reducible refine S_own ?_ | with_reducible refine T_val ?_ | with_reducible refine T_not ?_ | with_reducible refine T_cmp ?_ | with_reducible refine T_or1 ?_ | with_reducible refine T_or ?_ | with_reducible refine T_and1 ?_ | with_reducible refine T_and ?_ | with_reducible refine T_chn ?_ | with_reducible refine E_idx ?_ | with_reducible refine E_tup ?_ | with_reducible refine E_bin ?_ | with_reducible refine E_cmp ?_ | with_reducible refine E_isi ?_ | with_reducible refine E_blt ?_ | with_reducible refine E_frz ?_ | with_reducible refine E_chn ?_ | with_reducible refine E_and1 ?_ | with_reducible refine E_and ?_ | with_reducible refine E_or1 ?_ | with_reducible refine E_or ?_ | with_reducible refine E_not ?_ | with_reducible refine E_neg ?_ | with_reducible refine E_ite ?_ | with_reducible refine E_didx ?_ | with_reducible refine U_d ?_ | with_reducible refine U_lst ?_ | with_reducible refine U_cat ?_ | with_reducible refine U_slc ?_ | with_reducible refine U_lof ?_ | with_reducible refine U_srt ?_ | with_reducible refine U_comp ?_ | with_reducible refine U_ndic ?_ | with_reducible refine U_dlt ?_ | with_reducible refine U_call ?_ | with_reducible refine O_none ?_ | with_reducible refine O_some ?_ | with_reducible refine I_v ?_ | with_reducible refine I_rng ?_ | with_reducible refine I_zip ?_ | with_reducible refine S_for ?_ | with_reducible refine S_lc ?_ | with_reducible refine S_par ?_ | with_reducible refine S_sub ?_ | with_reducible refine S_dsub ?_ | with_reducible refine S_exp ?_ | with_reducible refine S_rse ?_ | with_reducible refine S_try ?_ | with_reducible refine S_unX ?_ | with_reducible refine S_mat ?_ | with_reducible refine M_nil ?_ | ((with_reducible apply E_var); (first | rfl | decide)) | ((with_reducible apply V_s); (first | rfl | decide)) | ((with_reducible apply A_r); (first | rfl | decide)) | ((with_reducible apply U_mv); (first | rfl | decide)) | ((with_reducible apply E_dget); (first | rfl | decide)) | ((with_reducible apply E_app); (first | rfl | decide)) | ((with_reducible apply R_bin); (first | rfl | decide); (first | rfl | decide)) | ((with_reducible apply R_cmp); (first | rfl | decide); (first | rfl | decide); (first | rfl | decide)) | ((with_reducible apply R_idx); (first | rfl | decide); (first | rfl | decide)) | ((with_reducible apply R_isi); (first | rfl | decide); (first | rfl | decide)) | ((with_reducible apply R_blt); (first | rfl | decide); (first | rfl | decide)) | ((with_reducible apply R_didx); (first | rfl | decide); (first | rfl | decide); (first | rfl | decide)) | ((with_reducible apply R_cat); (first | rfl | decide); (first | rfl | decide); (first | rfl | decide); (first | rfl | decide)) | ((with_reducible apply R_slcU); (first | rfl | decide); (first | rfl | decide)) | ((with_reducible apply R_srt); (first | rfl | decide); (first | rfl | decide)) | ((with_reducible apply R_lof); (first | rfl | decide); (first | rfl | decide)) | ((with_reducible apply R_add)) | ((with_reducible apply R_subI)) | ((with_reducible apply R_sub); (first | rfl | decide); (first | rfl | decide); (first | rfl | decide); (first | rfl | decide)) | ((with_reducible apply R_dput); (first | rfl | decide); (first | rfl | decide); (first | rfl | decide); (first | rfl | decide)) | ((with_reducible apply R_dgt); (first | rfl | decide)) | ((with_reducible apply R_app); (first | rfl | decide); (first | rfl | decide); (first | rfl | decide)) | ((with_reducible apply R_wlk); (first | rfl | decide)) | ((with_reducible apply R_zip); (first | rfl | decide)) | ((with_reducible apply E_xfl); (first | rfl | decide)) | ((with_reducible apply E_xis); (first | rfl | decide); (first | rfl | decide)) | ((with_reducible apply M_yes); (first | rfl | decide)) | ((with_reducible apply M_no); (first | rfl | decide)) | ((with_reducible apply S_hnd); (first | rfl | decide); (first | rfl | decide); (first | rfl | decide)) | ((with_reducible apply X_1); rfl) | ((with_reducible apply X_2); rfl) | ((with_reducible apply X_3); rfl) | ((with_reducible refine R_mod ?_ ?_); omega) | ((with_reducible refine R_div ?_ ?_); omega) | ((with_reducible refine R_mul ?_ ?_); (first | (left; omega) | (right; omega))) | ((with_reducible apply R_pow); rfl) | ((with_reducible apply C_nil); rfl; rfl) | (with_reducible refine F_nil ?_) | ((with_reducible apply C_turn); rfl; rfl) | ((with_reducible apply F_cons); rfl) | with_reducible refine C_e ?_ | with_reducible refine C_t ?_)
  refine R_draw hD (d := d + 1) (a := a) (b := b) rfl hp (by decide) (by decide) (fun _ _ => rfl) fun s a1 b1 s0 s1 hp1 => ?_
  have h3 : s = 0 ∨ s = 1 := by omega
  rcases h3 with rfl | rfl
  · have hz4 : Nat.ble ((ps ++ ps).length + [W.int 0].length) size = true := Nat.ble_eq.mpr (Nat.le_trans (by rw [List.length_append]; simp only [List.length_cons, List.length_nil]; omega : (ps ++ ps).length + [W.int 0].length ≤ 700) (by decide))
    repeat (first | ((with_reducible apply R_slcU); rfl; exact (rfl : _ = [W.int 0])) | ((with_reducible apply R_cat); exact fr_map _ _; rfl; exact hz4; rfl) | with_reducible refine E_cst ?_ | with_reducible refine V_e ?_ | with_reducible refine V_u ?_ | with_reducible refine A_nil ?_ | with_reducible refine A_cons ?_ | with_reducible refine A_d ?_ | with_reducible refine A_u ?_ | with_reducible refine S_nil ?_ | with_reducible refine S_ret ?_ | with_reducible refine S_if ?_ | with_reducible refine S_asg ?_ | with_reducible refine S_own ?_ | with_reducible refine T_val ?_ | with_reducible refine T_not ?_ | with_reducible refine T_cmp ?_ | with_reducible refine T_or1 ?_ | with_reducible refine T_or ?_ | with_reducible refine T_and1 ?_ | with_reducible refine T_and ?_ | with_reducible refine T_chn ?_ | with_reducible refine E_idx ?_ | with_reducible refine E_tup ?_ | with_reducible refine E_bin ?_ | with_reducible refine E_cmp ?_ | with_reducible refine E_isi ?_ | with_reducible refine E_blt ?_ | with_reducible refine E_frz ?_ | with_reducible refine E_chn ?_ | with_reducible refine E_and1 ?_ | with_reducible refine E_and ?_ | with_reducible refine E_or1 ?_ | with_reducible refine E_or ?_ | with_reducible refine E_not ?_ | with_reducible refine E_neg ?_ | with_reducible refine E_ite ?_ | with_reducible refine E_didx ?_ | with_reducible refine U_d ?_ | with_reducible refine U_lst ?_ | with_reducible refine U_cat ?_ | with_reducible refine U_slc ?_ | with_reducible refine U_lof ?_ | with_reducible refine U_srt ?_ | with_reducible refine U_comp ?_ | with_reducible refine U_ndic ?_ | with_reducible refine U_dlt ?_ | with_reducible refine U_call ?_ | with_reducible refine O_none ?_ | with_reducible refine O_some ?_ | with_reducible refine I_v ?_ | with_reducible refine I_rng ?_ | with_reducible refine I_zip ?_ | with_reducible refine S_for ?_ | with_reducible refine S_lc ?_ | with_reducible refine S_par ?_ | with_reducible refine S_sub ?_ | with_reducible refine S_dsub ?_ | with_reducible refine S_exp ?_ | with_reducible refine S_rse ?_ | with_reducible refine S_try ?_ | with_reducible refine S_unX ?_ | with_reducible refine S_mat ?_ | with_reducible refine M_nil ?_ | ((with_reducible apply E_var); (first | rfl | decide)) | ((with_reducible apply V_s); (first | rfl | decide)) | ((with_reducible apply A_r); (first | rfl | decide)) | ((with_reducible apply U_mv); (first | rfl | decide)) | ((with_reducible apply E_dget); (first | rfl | decide)) | ((with_reducible apply E_app); (first | rfl | decide)) | ((with_reducible apply R_bin); (first | rfl | decide); (first | rfl | decide)) | ((with_reducible apply R_cmp); (first | rfl | decide); (first | rfl | decide); (first | rfl | decide)) | ((with_reducible apply R_idx); (first | rfl | decide); (first | rfl | decide)) | ((with_reducible apply R_isi); (first | rfl | decide); (first | rfl | decide)) | ((with_reducible apply R_blt); (first | rfl | decide); (first | rfl | decide)) | ((with_reducible apply R_didx); (first | rfl | decide); (first | rfl | decide); (first | rfl | decide)) | ((with_reducible apply R_cat); (first | rfl | decide); (first | rfl | decide); (first | rfl | decide); (first | rfl | decide)) | ((with_reducible apply R_slcU); (first | rfl | decide); (first | rfl | decide)) | ((with_reducible apply R_srt); (first | rfl | decide); (first | rfl | decide)) | ((with_reducible apply R_lof); (first | rfl | decide); (first | rfl | decide)) | ((with_reducible apply R_add)) | ((with_reducible apply R_subI)) | ((with_reducible apply R_sub); (first | rfl | decide); (first | rfl | decide); (first | rfl | decide); (first | rfl | decide)) | ((with_reducible apply R_dput); (first | rfl | decide); (first | rfl | decide); (first | rfl | decide); (first | rfl | decide)) | ((with_reducible apply R_dgt); (first | rfl | decide)) | ((with_reducible apply R_app); (first | rfl | decide); (first | rfl | decide); (first | rfl | decide)) | ((with_reducible apply R_wlk); (first | rfl | decide)) | ((with_reducible apply R_zip); (first | rfl | decide)) | ((with_reducible apply E_xfl); (first | rfl | decide)) | ((with_reducible apply E_xis); (first | rfl | decide); (first | rfl | decide)) | ((with_reducible apply M_yes); (first | rfl | decide)) | ((with_reducible apply M_no); (first | rfl | decide)) | ((with_reducible apply S_hnd); (first | rfl | decide); (first | rfl | decide); (first | rfl | decide)) | ((with_reducible apply iteY); (first | rfl | decide)) | ((with_reducible apply iteF); (first | rfl | decide)) | ((with_reducible apply iteN); (first | rfl | decide)) | ((with_reducible apply X_1); rfl) | ((with_reducible apply X_2); rfl) | ((with_reducible apply X_3); rfl) | ((with_reducible refine R_mod ?_ ?_); omega) | ((with_reducible refine R_div ?_ ?_); omega) | ((with_reducible refine R_mul ?_ ?_); (first | (left; omega) | (right; omega))) | ((with_reducible apply R_pow); rfl) | ((with_reducible apply C_nil); rfl; rfl) | (with_reducible refine F_nil ?_) | ((with_reducible apply C_turn); rfl; rfl) | ((with_reducible apply F_cons); rfl) | with_reducible refine C_e ?_ | with_reducible refine C_t ?_)
    rw [fz_map]
    exact rest _ a1 b1 (.inl rfl) hp1
  · have hz4 : Nat.ble ((ps ++ ps).length + [W.int 0, W.int 1].length) size = true := Nat.ble_eq.mpr (Nat.le_trans (by rw [List.length_append]; simp only [List.length_cons, List.length_nil]; omega : (ps ++ ps).length + [W.int 0, W.int 1].length ≤ 700) (by decide))
    repeat (first | ((with_reducible apply R_slcU); rfl; exact (rfl : _ = [W.int 0, W.int 1])) | ((with_reducible apply R_cat); exact fr_map _ _; rfl; exact hz4; rfl) | with_reducible refine E_cst ?_ | with_reducible refine V_e ?_ | with_reducible refine V_u ?_ | with_reducible refine A_nil ?_ | with_reducible refine A_cons ?_ | with_reducible refine A_d ?_ | with_reducible refine A_u ?_ | with_reducible refine S_nil ?_ | with_reducible refine S_ret ?_ | with_reducible refine S_if ?_ | with_reducible refine S_asg ?_ | with_reducible refine S_own ?_ | with_reducible refine T_val ?_ | with_reducible refine T_not ?_ | with_reducible refine T_cmp ?_ | with_reducible refine T_or1 ?_ | with_reducible refine T_or ?_ | with_reducible refine T_and1 ?_ | with_reducible refine T_and ?_ | with_reducible refine T_chn ?_ | with_reducible refine E_idx ?_ | with_reducible refine E_tup ?_ | with_reducible refine E_bin ?_ | with_reducible refine E_cmp ?_ | with_reducible refine E_isi ?_ | with_reducible refine E_blt ?_ | with_reducible refine E_frz ?_ | with_reducible refine E_chn ?_ | with_reducible refine E_and1 ?_ | with_reducible refine E_and ?_ | with_reducible refine E_or1 ?_ | with_reducible refine E_or ?_ | with_reducible refine E_not ?_ | with_reducible refine E_neg ?_ | with_reducible refine E_ite ?_ | with_reducible refine E_didx ?_ | with_reducible refine U_d ?_ | with_reducible refine U_lst ?_ | with_reducible refine U_cat ?_ | with_reducible refine U_slc ?_ | with_reducible refine U_lof ?_ | with_reducible refine U_srt ?_ | with_reducible refine U_comp ?_ | with_reducible refine U_ndic ?_ | with_reducible refine U_dlt ?_ | with_reducible refine U_call ?_ | with_reducible refine O_none ?_ | with_reducible refine O_some ?_ | with_reducible refine I_v ?_ | with_reducible refine I_rng ?_ | with_reducible refine I_zip ?_ | with_reducible refine S_for ?_ | with_reducible refine S_lc ?_ | with_reducible refine S_par ?_ | with_reducible refine S_sub ?_ | with_reducible refine S_dsub ?_ | with_reducible refine S_exp ?_ | with_reducible refine S_rse ?_ | with_reducible refine S_try ?_ | with_reducible refine S_unX ?_ | with_reducible refine S_mat ?_ | with_reducible refine M_nil ?_ | ((with_reducible apply E_var); (first | rfl | decide)) | ((with_reducible apply V_s); (first | rfl | decide)) | ((with_reducible apply A_r); (first | rfl | decide)) | ((with_reducible apply U_mv); (first | rfl | decide)) | ((with_reducible apply E_dget); (first | rfl | decide)) | ((with_reducible apply E_app); (first | rfl | decide)) | ((with_reducible apply R_bin); (first | rfl | decide); (first | rfl | decide)) | ((with_reducible apply R_cmp); (first | rfl | decide); (first | rfl | decide); (first | rfl | decide)) | ((with_reducible apply R_idx); (first | rfl | decide); (first | rfl | decide)) | ((with_reducible apply R_isi); (first | rfl | decide); (first | rfl | decide)) | ((with_reducible apply R_blt); (first | rfl | decide); (first | rfl | decide)) | ((with_reducible apply R_didx); (first | rfl | decide); (first | rfl | decide); (first | rfl | decide)) | ((with_reducible apply R_cat); (first | rfl | decide); (first | rfl | decide); (first | rfl | decide); (first | rfl | decide)) | ((with_reducible apply R_slcU); (first | rfl | decide); (first | rfl | decide)) | ((with_reducible apply R_srt); (first | rfl | decide); (first | rfl | decide)) | ((with_reducible apply R_lof); (first | rfl | decide); (first | rfl | decide)) | ((with_reducible apply R_add)) | ((with_reducible apply R_subI)) | ((with_reducible apply R_sub); (first | rfl | decide); (first | rfl | decide); (first | rfl | decide); (first | rfl | decide)) | ((with_reducible apply R_dput); (first | rfl | decide); (first | rfl | decide); (first | rfl | decide); (first | rfl | decide)) | ((with_reducible apply R_dgt); (first | rfl | decide)) | ((with_reducible apply R_app); (first | rfl | decide); (first | rfl | decide); (first | rfl | decide)) | ((with_reducible apply R_wlk); (first | rfl | decide)) | ((with_reducible apply R_zip); (first | rfl | decide)) | ((with_reducible apply E_xfl); (first | rfl | decide)) | ((with_reducible apply E_xis); (first | rfl | decide); (first | rfl | decide)) | ((with_reducible apply M_yes); (first | rfl | decide)) | ((with_reducible apply M_no); (first | rfl | decide)) | ((with_reducible apply S_hnd); (first | rfl | decide); (first | rfl | decide); (first | rfl | decide)) | ((with_reducible apply iteY); (first | rfl | decide)) | ((with_reducible apply iteF); (first | rfl | decide)) | ((with_reducible apply iteN); (first | rfl | decide)) | ((with_reducible apply X_1); rfl) | ((with_reducible apply X_2); rfl) | ((with_reducible apply X_3); rfl) | ((with_reducible refine R_mod ?_ ?_); omega) | ((with_reducible refine R_div ?_ ?_); omega) | ((with_reducible refine R_mul ?_ ?_); (first | (left; omega) | (right; omega))) | ((with_reducible apply R_pow); rfl) | ((with_reducible apply C_nil); rfl; rfl) | (with_reducible refine F_nil ?_) | ((with_reducible apply C_turn); rfl; rfl) | ((with_reducible apply F_cons); rfl) | with_reducible refine C_e ?_ | with_reducible refine C_t ?_)
    rw [fz_map]
    exact rest _ a1 b1 (.inr rfl) hp1
def ZDeed (ps ks : List W) (u : U) (os : List U) : Prop := ∃ w a' b', u = .d w ∧ os = [pl a' b'] ∧ IsDeed ps ks w ∧ POk a' b'
/-- a deed, where what is known is given away -/
theorem deed_m (hD : nth P dr = some ⟨2, 3, bDraw⟩) (hS : nth P su = some ⟨2, 6, bSum dr⟩) (hE : nth P de = some ⟨3, 6, bDeed dr su⟩) {d : Nat} {a b : Int} {ps ks : List W} (hp : POk a b) (hz : ps.length < 300) (hz2 : ks.length < 300) (hm : Names ps) (hm2 : Names ks) :
    ∃ u os, callF P 60 (d + 3) de [.t (pl a b), .m (.d (.lis ps)), .m (.l (ks.map U.d))] = .ok u os ∧ ZDeed ps ks u os := by
  refine run_any (Z := ZDeed ps ks) (r0 := [.t (pl a b), .m (.d (.lis ps)), .m (.l (ks.map U.d)), .no, .no, .no]) hE rfl rfl ?_
  exact deed_body hD hS hp hz hz2 hm hm2 (.inl ⟨rfl, rfl⟩) (fun p y a' b' e1 e3 e4 e5 h1 h2 h3 => ⟨_, rfl, _, a', b', rfl, rfl, ⟨p, h1, .inl ⟨y, h2, rfl⟩⟩, h3⟩) (fun p n s a' b' e1 e3 e4 e5 h1 h2 h3 h4 => ⟨_, rfl, _, a', b', rfl, rfl, ⟨p, h1, .inr ⟨n, s, h2, h3, rfl⟩⟩, h4⟩)
theorem R_deed (hD : nth P dr = some ⟨2, 3, bDraw⟩) (hS : nth P su = some ⟨2, 6, bSum dr⟩) (hE : nth P de = some ⟨3, 6, bDeed dr su⟩) {d i : Nat} {a b : Int} {ps ks : List W} {r : Env} {r' : Int → Int → Env} {Q : U → Env → Prop} {X : Xn → Env → Prop} (hl : lookU r i = some (pl a b)) (hp : POk a b) (hz : ps.length < 300) (hz2 : ks.length < 300) (hm : Names ps) (hm2 : Names ks) (hr : ∀ a' b', putV r i (pl a' b') = some (r' a' b'))
    (q : ∀ w a' b', IsDeed ps ks w → POk a' b' → Q (.d w) (r' a' b')) : Rn (runC (callF P 60 (d + 3)) de [.r i, .d (.lis ps), .u (.l (ks.map U.d))] r) Q X := by
  obtain ⟨u, os, h, w, a', b', rfl, rfl, h1, h2⟩ := deed_m hD hS hE (d := d) hp hz hz2 hm hm2
  refine R_call (es := [.t (pl a b), .m (.d (.lis ps)), .m (.l (ks.map U.d))]) (is := [i]) ?_ h (r1 := r' a' b') ?_ (q w a' b' h1 h2)
  · show ((lookU r i).bind fun u => (args r [.d (.lis ps), .u (.l (ks.map U.d))]).bind fun q => if q.2.any (Nat.beq i) then none else some (.t u :: q.1, i :: q.2)) = _
    rw [hl]
    rfl
  · show ((putV r i (pl a' b')).bind fun r1 => puts r1 [] []) = _
    rw [hr]
    rfl
end
end FL


set_option linter.all false
set_option maxRecDepth 100000
/-! The bodies of the defs, over the numbers that a law gives them. -/
namespace FL
open FM
structure Nums where
  is_integer : Nat := 100000
  is_short : Nat := 100000
  is_name : Nat := 100000
  is_sum : Nat := 100000
  is_place : Nat := 100000
  is_deed : Nat := 100000
  clash : Nat := 100000
  do_clash : Nat := 100000
  apply : Nat := 100000
  _law_pool : Nat := 100000
  _law_draw : Nat := 100000
  _law_sum : Nat := 100000
  _law_deed : Nat := 100000
  _law_clash : Nat := 100000
  _law_error : Nat := 100000
  _law_amount : Nat := 100000
  _law_same_ends : Nat := 100000
  law_K02 : Nat := 100000
/-- is_integer(candidate); names ['candidate'] -/
def b_is_integer (N : Nums) : List IS := [.ret (.d (.and [.isi (.s 0) .int, .not (.isi (.s 0) .bool)]))]
def fd_is_integer (N : Nums) : FD := ⟨1, 1, b_is_integer N⟩
/-- is_short(candidate); names ['candidate'] -/
def b_is_short (N : Nums) : List IS := [.ret (.d (.and [.frz (.call N.is_integer [.d (.var 0)]), .chn .lt .lt (.e (.neg (.cst (.int 10000000000000000000000000000000000000000000000000000000000000000000000000000000000000000000000000000)))) (.s 0) (.e (.cst (.int 10000000000000000000000000000000000000000000000000000000000000000000000000000000000000000000000000000)))]))]
def fd_is_short (N : Nums) : FD := ⟨1, 1, b_is_short N⟩
/-- is_name(candidate); names ['candidate', 'letter'] -/
def b_is_name (N : Nums) : List IS := [.ifs (.or [.not (.val (.isi (.s 0) .str)), .not (.chn .le .le (.e (.cst (.int 1))) (.e (.blt .len [.s 0])) (.e (.cst (.int 8))))]) [.ret (.d (.cst (.bl false)))] [],
    .ret (.d (.and [.cmp .nin (.s 0) (.e (.cst (.tup [.str [107, 105, 110, 100], .str [117, 110, 108, 105, 107, 101], .str [98, 97, 99, 107, 115], .str [97, 108, 111, 110, 101], .str [114, 101, 97, 100], .str [97, 100, 100], .str [114, 97, 105, 115, 101], .str [108, 111, 119, 101, 114], .str [112, 117, 116], .str [99, 104, 101, 99, 107], .str [99, 104, 111, 111, 115, 101], .str [111, 114], .str [101, 110, 100], .str [110, 111, 110, 101]]))), .blt .all [.u (.comp (.chn .le .le (.e (.cst (.str [97]))) (.s 1) (.e (.cst (.str [122])))) (.nm 1) [1] (.v (.e (.var 0))) none)]]))]
def fd_is_name (N : Nums) : FD := ⟨1, 2, b_is_name N⟩
/-- is_sum(value); names ['value', 'term', 'factor', 'name', 'names', 'one', 'other'] -/
def b_is_sum (N : Nums) : List IS := [.ifs (.or [.not (.val (.isi (.s 0) .tuple)), .cmp .ne (.e (.blt .len [.s 0])) (.e (.cst (.int 3))), .cmp .ne (.e (.idx (.s 0) (.cst (.int 0)))) (.e (.cst (.str [115, 117, 109]))), .not (.val (.isi (.e (.idx (.s 0) (.cst (.int 0)))) .str))]) [.ret (.d (.cst (.bl false)))] [],
    .ifs (.or [.not (.val (.frz (.call N.is_short [.d (.idx (.s 0) (.cst (.int 1)))]))), .not (.val (.isi (.e (.idx (.s 0) (.cst (.int 2)))) .tuple))]) [.ret (.d (.cst (.bl false)))] [],
    .for (.nm 1) (.v (.e (.idx (.s 0) (.cst (.int 2))))) [.ifs (.or [.not (.val (.isi (.s 1) .tuple)), .cmp .ne (.e (.blt .len [.s 1])) (.e (.cst (.int 2))), .not (.val (.frz (.call N.is_short [.d (.idx (.s 1) (.cst (.int 0)))]))), .cmp .eq (.e (.idx (.s 1) (.cst (.int 0)))) (.e (.cst (.int 0)))]) [.ret (.d (.cst (.bl false)))] [],
    .ifs (.not (.val (.frz (.call N.is_name [.d (.idx (.s 1) (.cst (.int 1)))])))) [.ret (.d (.cst (.bl false)))] []],
    .lc false 4 (.var 3) (.tp [.nm 2, .nm 3]) [2, 3] (.v (.e (.idx (.s 0) (.cst (.int 2))))) none,
    .ret (.d (.blt .all [.u (.comp (.cmp .lt (.s 5) (.s 6)) (.tp [.nm 5, .nm 6]) [5, 6] (.zip (.e (.var 4)) (.u (.slc (.s 4) (some (.cst (.int 1))) none))) none)]))]
def fd_is_sum (N : Nums) : FD := ⟨1, 7, b_is_sum N⟩
/-- is_place(value); names ['value'] -/
def b_is_place (N : Nums) : List IS := [.ifs (.or [.not (.val (.isi (.s 0) .tuple)), .cmp .ne (.e (.blt .len [.s 0])) (.e (.cst (.int 2))), .not (.val (.frz (.call N.is_name [.d (.idx (.s 0) (.cst (.int 0)))])))]) [.ret (.d (.cst (.bl false)))] [],
    .ret (.d (.or [.frz (.call N.is_short [.d (.idx (.s 0) (.cst (.int 1)))]), .frz (.call N.is_name [.d (.idx (.s 0) (.cst (.int 1)))])]))]
def fd_is_place (N : Nums) : FD := ⟨1, 1, b_is_place N⟩
/-- is_deed(value); names ['value'] -/
def b_is_deed (N : Nums) : List IS := [.ifs (.or [.not (.val (.isi (.s 0) .tuple)), .cmp .ne (.e (.blt .len [.s 0])) (.e (.cst (.int 3))), .not (.val (.isi (.e (.idx (.s 0) (.cst (.int 0)))) .str)), .not (.val (.frz (.call N.is_place [.d (.idx (.s 0) (.cst (.int 1)))])))]) [.ret (.d (.cst (.bl false)))] [],
    .ifs (.cmp .eq (.e (.idx (.s 0) (.cst (.int 0)))) (.e (.cst (.str [114, 101, 97, 100])))) [.ret (.call N.is_name [.d (.idx (.s 0) (.cst (.int 2)))])] [],
    .ret (.d (.and [.cmp .inn (.e (.idx (.s 0) (.cst (.int 0)))) (.e (.cst (.tup [.str [97, 100, 100], .str [114, 97, 105, 115, 101], .str [108, 111, 119, 101, 114], .str [112, 117, 116]]))), .frz (.call N.is_sum [.d (.idx (.s 0) (.cst (.int 2)))])]))]
def fd_is_deed (N : Nums) : FD := ⟨1, 1, b_is_deed N⟩
/-- clash(one, other); names ['one', 'other'] -/
def b_clash (N : Nums) : List IS := [.ifs (.cmp .ne (.e (.idx (.e (.idx (.s 0) (.cst (.int 1)))) (.cst (.int 0)))) (.e (.idx (.e (.idx (.s 1) (.cst (.int 1)))) (.cst (.int 0))))) [.ret (.d (.cst (.bl false)))] [],
    .ifs (.cmp .ne (.e (.idx (.s 0) (.cst (.int 0)))) (.e (.idx (.s 1) (.cst (.int 0))))) [.ret (.d (.cst (.bl true)))] [],
    .ret (.d (.and [.cmp .eq (.e (.idx (.s 0) (.cst (.int 0)))) (.e (.cst (.str [112, 117, 116]))), .or [.cmp .ne (.e (.idx (.s 0) (.cst (.int 2)))) (.e (.idx (.s 1) (.cst (.int 2)))), .cmp .ne (.e (.idx (.e (.idx (.s 0) (.cst (.int 2)))) (.cst (.int 2)))) (.e (.tup []))]]))]
def fd_clash (N : Nums) : FD := ⟨2, 2, b_clash N⟩
/-- do_clash(one, other); names ['one', 'other', 'value'] -/
def b_do_clash (N : Nums) : List IS := [.for (.nm 2) (.v (.e (.tup [.var 0, .var 1]))) [.ifs (.not (.val (.frz (.call N.is_deed [.d (.var 2)])))) [.rse 1 (some 435761734006) (some (.var 2))] []],
    .ret (.call N.clash [.d (.var 0), .d (.var 1)])]
def fd_do_clash (N : Nums) : FD := ⟨2, 3, b_do_clash N⟩
/-- apply(deed, item, value, amount); names ['deed', 'item', 'value', 'amount'] -/
def b_apply (N : Nums) : List IS := [.mat (.idx (.s 0) (.cst (.int 0))) [(.str [97, 100, 100], [.ret (.d (.bin .add (.s 2) (.s 3)))]), (.str [114, 97, 105, 115, 101], [.ret (.d (.blt .max [.s 2, .s 3]))]), (.str [108, 111, 119, 101, 114], [.ret (.d (.blt .min [.s 2, .s 3]))]), (.str [112, 117, 116], [.ret (.d (.var 3))])],
    .ret (.d (.var 2))]
def fd_apply (N : Nums) : FD := ⟨4, 4, b_apply N⟩
/-- _law_pool(_law_script, _law_k); names ['_law_script', '_law_k', '_law_cell', '_law_size', '_law_seed'] -/
def b__law_pool (N : Nums) : List IS := [.asg (.nm 2) (.cst (.int 0)),
    .ifs (.cmp .lt (.s 1) (.e (.blt .len [.s 0]))) [.asg (.nm 2) (.idx (.s 0) (.var 1))] [],
    .asg (.nm 3) (.blt .abs [.s 2]),
    .asg (.nm 4) (.bin .mod (.e (.bin .mul (.e (.bin .add (.e (.bin .add (.e (.bin .mod (.s 3) (.e (.cst (.int 2147483629))))) (.e (.bin .mul (.e (.cst (.int 7919))) (.s 1))))) (.e (.cst (.int 31))))) (.e (.cst (.int 48271))))) (.e (.cst (.int 2147483647)))),
    .ret (.lst [.bin .mul (.s 3) (.e (.blt .int [.e (.cmp .ge (.s 3) (.e (.bin .pow (.e (.cst (.int 10))) (.e (.cst (.int 18))))))])), .var 4])]
def fd__law_pool (N : Nums) : FD := ⟨2, 5, b__law_pool N⟩
/-- _law_draw(_law_pool_here, _law_count); names ['_law_pool_here', '_law_count', '_law_found'] -/
def b__law_draw (N : Nums) : List IS := [.ifs (.cmp .gt (.e (.idx (.s 0) (.cst (.int 0)))) (.e (.cst (.int 0)))) [.asg (.nm 2) (.bin .mod (.e (.idx (.s 0) (.cst (.int 0)))) (.s 1)),
    .sub 0 (.cst (.int 0)) (.bin .fdiv (.e (.idx (.s 0) (.cst (.int 0)))) (.s 1)),
    .ret (.d (.var 2))] [],
    .sub 0 (.cst (.int 1)) (.bin .mod (.e (.bin .add (.e (.bin .mul (.e (.idx (.s 0) (.cst (.int 1)))) (.e (.cst (.int 48271))))) (.e (.cst (.int 11))))) (.e (.cst (.int 2147483647)))),
    .ret (.d (.bin .mod (.e (.bin .fdiv (.e (.bin .mod (.e (.bin .mul (.e (.idx (.s 0) (.cst (.int 1)))) (.e (.idx (.s 0) (.cst (.int 1)))))) (.e (.cst (.int 2147483629))))) (.e (.cst (.int 64))))) (.s 1)))]
def fd__law_draw (N : Nums) : FD := ⟨2, 3, b__law_draw N⟩
/-- _law_sum(_law_pool_here, _law_names); names ['_law_pool_here', '_law_names', '_law_total', '_law_turn', '_law_name', '_law_terms'] -/
def b__law_sum (N : Nums) : List IS := [.own 2 (.ndic),
    .for (.nm 3) (.rng (.bin .mul (.u (.call N._law_draw [.r 0, .d (.cst (.int 3))])) (.e (.blt .int [.e (.cmp .ne (.s 1) (.u (.lst [])))])))) [.asg (.nm 4) (.idx (.s 1) (.frz (.call N._law_draw [.r 0, .d (.blt .len [.s 1])]))),
    .dsub 2 (.var 4) (.bin .add (.e (.dget 2 (.var 4) (.cst (.int 0)))) (.e (.idx (.u (.lst [.cst (.int 1), .neg (.cst (.int 1)), .cst (.int 2)])) (.frz (.call N._law_draw [.r 0, .d (.cst (.int 3))])))))],
    .asg (.nm 5) (.blt .tuple [.u (.comp (.tup [.didx (.s 2) (.var 4), .var 4]) (.nm 4) [4] (.v (.u (.srt (.s 2)))) (some (.cmp .ne (.e (.didx (.s 2) (.var 4))) (.e (.cst (.int 0))))))]),
    .ret (.d (.tup [.cst (.str [115, 117, 109]), .idx (.u (.lst [.cst (.int 0), .cst (.int 1), .neg (.cst (.int 2)), .cst (.int 5)])) (.frz (.call N._law_draw [.r 0, .d (.cst (.int 4))])), .var 5]))]
def fd__law_sum (N : Nums) : FD := ⟨2, 6, b__law_sum N⟩
/-- _law_deed(_law_pool_here, _law_params, _law_known); names ['_law_pool_here', '_law_params', '_law_known', '_law_some', '_law_place', '_law_word'] -/
def b__law_deed (N : Nums) : List IS := [.asg (.nm 3) (.frz (.cat (.u (.cat (.s 1) (.s 1))) (.u (.slc (.u (.lst [.cst (.int 0), .cst (.int 1)])) none (some (.bin .add (.e (.cst (.int 1))) (.u (.call N._law_draw [.r 0, .d (.cst (.int 2))])))))))),
    .asg (.nm 4) (.tup [.idx (.u (.lst [.cst (.str [97]), .cst (.str [98])])) (.frz (.call N._law_draw [.r 0, .d (.cst (.int 2))])), .idx (.s 3) (.frz (.call N._law_draw [.r 0, .d (.blt .len [.s 3])]))]),
    .asg (.nm 5) (.idx (.u (.lst [.cst (.str [114, 101, 97, 100]), .cst (.str [114, 101, 97, 100]), .cst (.str [97, 100, 100]), .cst (.str [97, 100, 100]), .cst (.str [112, 117, 116]), .cst (.str [114, 97, 105, 115, 101]), .cst (.str [108, 111, 119, 101, 114])])) (.frz (.call N._law_draw [.r 0, .d (.cst (.int 7))]))),
    .ifs (.cmp .eq (.s 5) (.e (.cst (.str [114, 101, 97, 100])))) [.exp (.app 2 (.idx (.u (.lst [.cst (.str [120]), .cst (.str [121])])) (.frz (.call N._law_draw [.r 0, .d (.cst (.int 2))])))),
    .ret (.d (.tup [.cst (.str [114, 101, 97, 100]), .var 4, .idx (.s 2) (.neg (.cst (.int 1)))]))] [],
    .ret (.d (.tup [.var 5, .var 4, .frz (.call N._law_sum [.r 0, .d (.frz (.cat (.s 1) (.s 2)))])]))]
def fd__law_deed (N : Nums) : FD := ⟨3, 6, b__law_deed N⟩
/-- _law_clash(_law_one, _law_other); names ['_law_one', '_law_other'] -/
def b__law_clash (N : Nums) : List IS := [.ifs (.cmp .ne (.e (.idx (.e (.idx (.s 0) (.cst (.int 1)))) (.cst (.int 0)))) (.e (.idx (.e (.idx (.s 1) (.cst (.int 1)))) (.cst (.int 0))))) [.ret (.d (.cst (.bl false)))] [],
    .ifs (.cmp .ne (.e (.idx (.s 0) (.cst (.int 0)))) (.e (.idx (.s 1) (.cst (.int 0))))) [.ret (.d (.cst (.bl true)))] [],
    .ret (.d (.and [.cmp .eq (.e (.idx (.s 0) (.cst (.int 0)))) (.e (.cst (.str [112, 117, 116]))), .not (.and [.cmp .eq (.e (.idx (.s 0) (.cst (.int 2)))) (.e (.idx (.s 1) (.cst (.int 2)))), .cmp .eq (.e (.idx (.e (.idx (.s 0) (.cst (.int 2)))) (.cst (.int 2)))) (.e (.tup []))])]))]
def fd__law_clash (N : Nums) : FD := ⟨2, 2, b__law_clash N⟩
/-- _law_error(_law_one, _law_other); names ['_law_one', '_law_other', 'e'] -/
def b__law_error (N : Nums) : List IS := [.try [.exp (.frz (.call N.do_clash [.d (.var 0), .d (.var 1)]))] [1] [] 2 [.ret (.lst [.xfl 2 435761734006, .xis 2 [1] [], .xis 2 [1] []])],
    .ret (.d (.cst (.non)))]
def fd__law_error (N : Nums) : FD := ⟨2, 3, b__law_error N⟩
/-- _law_amount(_law_deed_here, _law_spot, _law_free); names ['_law_deed_here', '_law_spot', '_law_free', '_law_names', '_law_factor', '_law_name'] -/
def b__law_amount (N : Nums) : List IS := [.asg (.nm 3) (.frz (.dlt [(.cst (.str [112]), .ite (.cmp .eq (.e (.idx (.e (.idx (.s 0) (.cst (.int 1)))) (.cst (.int 1)))) (.e (.cst (.str [112])))) (.var 1) (.var 2)), (.cst (.str [120]), .bin .add (.s 2) (.e (.cst (.int 1))))])),
    .ret (.d (.bin .add (.e (.idx (.e (.idx (.s 0) (.cst (.int 2)))) (.cst (.int 1)))) (.e (.blt .sum [.u (.comp (.bin .mul (.s 4) (.e (.didx (.s 3) (.var 5)))) (.tp [.nm 4, .nm 5]) [4, 5] (.v (.e (.idx (.e (.idx (.s 0) (.cst (.int 2)))) (.cst (.int 2))))) none)]))))]
def fd__law_amount (N : Nums) : FD := ⟨3, 6, b__law_amount N⟩
/-- _law_same_ends(_law_one, _law_other, _law_value, _law_first, _law_second); names ['_law_one', '_law_other', '_law_value', '_law_first', '_law_second', '_law_deed_here', '_law_whole', '_law_spot', '_law_item', '_law_found'] -/
def b__law_same_ends (N : Nums) : List IS := [.ifs (.cmp .inn (.e (.cst (.str [114, 101, 97, 100]))) (.u (.lst [.idx (.s 0) (.cst (.int 0)), .idx (.s 1) (.cst (.int 0))]))) [.ret (.d (.cst (.bl true)))] [],
    .lc false 6 (.idx (.e (.idx (.s 5) (.cst (.int 1)))) (.cst (.int 1))) (.nm 5) [5] (.v (.u (.lst [.var 0, .var 1]))) (some (.not (.val (.isi (.e (.idx (.e (.idx (.s 5) (.cst (.int 1)))) (.cst (.int 1)))) .str)))),
    .ifs (.and [.cmp .eq (.e (.blt .len [.s 6])) (.e (.cst (.int 2))), .cmp .ne (.e (.idx (.s 6) (.cst (.int 0)))) (.e (.idx (.s 6) (.cst (.int 1))))]) [.ret (.d (.cst (.bl true)))] [],
    .asg (.nm 7) (.idx (.u (.cat (.s 6) (.u (.lst [.cst (.int 1)])))) (.cst (.int 0))),
    .asg (.nm 8) (.tup [.idx (.e (.idx (.s 0) (.cst (.int 1)))) (.cst (.int 0)), .var 7]),
    .par 3 4 (.frz (.call N._law_amount [.d (.var 0), .d (.var 7), .d (.var 3)])) (.frz (.call N._law_amount [.d (.var 1), .d (.var 7), .d (.var 4)])),
    .asg (.nm 9) (.frz (.call N.apply [.d (.var 1), .d (.var 8), .d (.frz (.call N.apply [.d (.var 0), .d (.var 8), .d (.var 2), .d (.var 3)])), .d (.var 4)])),
    .ret (.d (.cmp .eq (.s 9) (.u (.call N.apply [.d (.var 0), .d (.var 8), .d (.frz (.call N.apply [.d (.var 1), .d (.var 8), .d (.var 2), .d (.var 4)])), .d (.var 3)]))))]
def fd__law_same_ends (N : Nums) : FD := ⟨5, 10, b__law_same_ends N⟩
/-- law_K02(_law_script); names ['_law_script', '_law_k', '_law_pool_here', '_law_turn', '_law_one', '_law_other', '_law_number', '_law_value', '_law_first', '_law_second', '_law_odd'] -/
def b_law_K02 (N : Nums) : List IS := [.for (.nm 1) (.rng (.blt .max [.e (.cst (.int 1)), .e (.blt .min [.e (.cst (.int 8)), .e (.blt .len [.s 0])])])) [.own 2 (.call N._law_pool [.d (.var 0), .d (.var 1)]),
    .for (.nm 3) (.rng (.cst (.int 12))) [.par 4 5 (.frz (.call N._law_deed [.r 2, .d (.frz (.lst [.cst (.str [112])])), .u (.lst [.cst (.str [120])])])) (.frz (.call N._law_deed [.r 2, .d (.frz (.lst [.cst (.str [112])])), .u (.lst [.cst (.str [120])])])),
    .ifs (.cmp .ne (.u (.call N.do_clash [.d (.var 4), .d (.var 5)])) (.u (.call N._law_clash [.d (.var 4), .d (.var 5)]))) [.ret (.d (.cst (.bl false)))] [],
    .ifs (.cmp .ne (.u (.call N.do_clash [.d (.var 5), .d (.var 4)])) (.u (.call N.do_clash [.d (.var 4), .d (.var 5)]))) [.ret (.d (.cst (.bl false)))] [],
    .ifs (.cmp .ne (.u (.call N.do_clash [.d (.var 4), .d (.var 4)])) (.e (.and [.cmp .eq (.e (.idx (.s 4) (.cst (.int 0)))) (.e (.cst (.str [112, 117, 116]))), .cmp .ne (.e (.idx (.e (.idx (.s 4) (.cst (.int 2)))) (.cst (.int 2)))) (.e (.tup []))]))) [.ret (.d (.cst (.bl false)))] [],
    .asg (.tp [.nm 7, .nm 8, .nm 9]) (.frz (.comp (.bin .sub (.u (.call N._law_draw [.r 2, .d (.bin .pow (.e (.cst (.int 10))) (.e (.cst (.int 9))))])) (.e (.bin .pow (.e (.cst (.int 10))) (.e (.cst (.int 7)))))) (.nm 6) [6] (.rng (.cst (.int 3))) none)),
    .ifs (.and [.cmp .eq (.e (.idx (.e (.idx (.s 4) (.cst (.int 1)))) (.cst (.int 0)))) (.e (.idx (.e (.idx (.s 5) (.cst (.int 1)))) (.cst (.int 0)))), .not (.val (.frz (.call N.do_clash [.d (.var 4), .d (.var 5)])))]) [.ifs (.not (.val (.frz (.call N._law_same_ends [.d (.var 4), .d (.var 5), .d (.var 7), .d (.var 8), .d (.var 9)])))) [.ret (.d (.cst (.bl false)))] []] [],
    .for (.nm 10) (.v (.u (.lst [.cst (.non), .cst (.int 5), .tup [], .frz (.lst [.cst (.str [114, 101, 97, 100]), .tup [.cst (.str [97]), .cst (.int 1)], .cst (.str [120])]), .tup [.cst (.str [114, 101, 97, 100]), .tup [.cst (.str [97]), .cst (.int 1)], .cst (.int 5)], .cst (.str [114, 101, 97, 100])]))) [.ifs (.cmp .ne (.u (.call N._law_error [.d (.var 10), .d (.cst (.int 7))])) (.u (.lst [.var 10, .cst (.bl true), .cst (.bl true)]))) [.ret (.d (.cst (.bl false)))] [],
    .ifs (.cmp .ne (.u (.call N._law_error [.d (.var 4), .d (.var 10)])) (.u (.lst [.var 10, .cst (.bl true), .cst (.bl true)]))) [.ret (.d (.cst (.bl false)))] []]]],
    .ret (.d (.cst (.bl true)))]
def fd_law_K02 (N : Nums) : FD := ⟨1, 11, b_law_K02 N⟩
end FL


set_option linter.all false
set_option maxRecDepth 100000
set_option maxHeartbeats 4000000
/-! Validity of drawn deeds, by runs with a script. -/
namespace FL
open FM
theorem callX {P : List FD} {d f : Nat} {es : List En} {fd : FD} (sc : List It) {y : CRes} {l : List Ob} (hf : nth P f = some fd) (hl : Nat.beq es.length fd.ar = true)
    (h : (fun z : SX => (z.1.val es, z.2.lg)) ((lvlX 60).S fd.body (es ++ pad (fd.sl - fd.ar)) ⟨sc, []⟩) = (y, l)) (hb : y ≠ .bad) (g : Gd (callF P 60 d) l) : callF P 60 (d + 1) f es = y := by
  have h1 := congrArg Prod.fst h
  have h2 := congrArg Prod.snd h
  dsimp only at h1 h2
  obtain ⟨l2, e, q⟩ := (tr (callF P 60 d) 60).S fd.body (es ++ pad (fd.sl - fd.ar)) ⟨sc, []⟩
  rw [h2] at e
  have e : l = l2 ++ [] := e
  rw [List.append_nil] at e
  subst e
  unfold callF
  rw [hf]
  dsimp only
  rw [hl, if_pos rfl]
  rcases q g with z | z
  · rw [z] at h1
    exact absurd h1.symm hb
  · rw [z]
    exact h1
/-- a call with one value, whose answer is a truth -/
abbrev c1 (f : Nat) (w : W) (b : Bool) : Ob := .a f [.m (.d w)] (.ok (.d (.bl b)) [])
/-- the answer: a value -/
abbrev yv (w : W) : CRes := .ok (.d w) []
abbrev yes : CRes := .ok (.d (.bl true)) []
abbrev no : CRes := .ok (.d (.bl false)) []
theorem yv_ne {w : W} : yv w ≠ .bad := fun h => nomatch h
/-- the defs of deeds in a table -/
structure HD (N : Nums) (P : List FD) : Prop where
  i : nth P N.is_integer = some (fd_is_integer N)
  s : nth P N.is_short = some (fd_is_short N)
  n : nth P N.is_name = some (fd_is_name N)
  u : nth P N.is_sum = some (fd_is_sum N)
  p : nth P N.is_place = some (fd_is_place N)
  d : nth P N.is_deed = some (fd_is_deed N)
section
variable {N : Nums} {P : List FD} (H : HD N P) {d : Nat}
include H
theorem int_y (i : Int) : callF P 60 (d + 1) N.is_integer [.m (.d (.int i))] = yes :=
  callX (l := []) [] H.i rfl (by kernel_rfl) yv_ne trivial
theorem short_y {i : Int} (h1 : -9 < i) (h2 : i < 9) : callF P 60 (d + 2) N.is_short [.m (.d (.int i))] = yes :=
  callX (l := [.t (some (decide (i < 10 ^ 100))) true, .t (some (decide (-10 ^ 100 < i))) true, c1 N.is_integer (.int i) true]) [.a yes, .t 0 true, .t 0 true] H.s rfl (by kernel_rfl) yv_ne
    ⟨congrArg some (decide_eq_true (by omega)), congrArg some (decide_eq_true (by omega)), int_y H i⟩
theorem name_y {n : List Nat} (hn : n ∈ NM ∨ n = [97] ∨ n = [98]) : callF P 60 (d + 1) N.is_name [.m (.d (.str n))] = yes := by
  simp only [NM, List.mem_cons, List.not_mem_nil, or_false] at hn
  rcases hn with (rfl | rfl | rfl | rfl) | rfl | rfl <;> exact callX (l := []) [] H.n rfl (by kernel_rfl) yv_ne trivial
theorem sum_y {ws : List W} {w : W} (h : IsSum ws w) : callF P 60 (d + 3) N.is_sum [.m (.d w)] = yes := by
  obtain ⟨c, ts, rfl, hc, ht, _⟩ := h
  have hc' : callF P 60 (d + 2) N.is_short [.m (.d (.int c))] = yes := short_y H (by omega) (by omega)
  rcases ht with rfl | ⟨f, n, hn, f0, f1, f2, rfl⟩ | ⟨f, n, g, m, hp, f0, f1, f2, g0, g1, g2, rfl⟩
  · exact callX (l := [c1 N.is_short (.int c) true]) [.a yes] H.u rfl (by kernel_rfl) yv_ne hc'
  · exact callX (l := [c1 N.is_name (.str n) true, .t (some (decide (f = 0))) false, c1 N.is_short (.int f) true, c1 N.is_short (.int c) true]) [.a yes, .a yes, .t 0 false, .a yes] H.u rfl (by kernel_rfl) yv_ne
      ⟨name_y H (.inl hn), congrArg some (decide_eq_false f0), short_y H f1 f2, hc'⟩
  · obtain ⟨h1, _, _, _, h2, h3⟩ := PR_lt hp
    exact callX (l := [.t (some (ltS n m)) true, c1 N.is_name (.str m) true, .t (some (decide (g = 0))) false, c1 N.is_short (.int g) true, c1 N.is_name (.str n) true, .t (some (decide (f = 0))) false, c1 N.is_short (.int f) true, c1 N.is_short (.int c) true]) [.a yes, .a yes, .t 0 false, .a yes, .a yes, .t 0 false, .a yes, .t 0 true] H.u rfl (by kernel_rfl) yv_ne
      ⟨congrArg some h1, name_y H (.inl h3), congrArg some (decide_eq_false g0), short_y H g1 g2, name_y H (.inl h2), congrArg some (decide_eq_false f0), short_y H f1 f2, hc'⟩
theorem place_y {ps : List W} {w : W} (hm : Names ps) (h : IsPl ps w) : callF P 60 (d + 3) N.is_place [.m (.d w)] = yes := by
  obtain ⟨t, i, rfl, ht, hi⟩ := h
  have h1 : callF P 60 (d + 2) N.is_name [.m (.d (.str t))] = yes := name_y H (.inr ht)
  rcases hi with hi | rfl | rfl
  · obtain ⟨n, hn, rfl⟩ := hm _ hi
    exact callX (l := [c1 N.is_name (.str n) true, c1 N.is_short (.str n) false, c1 N.is_name (.str t) true]) [.a yes, .a no, .a yes] H.p rfl (by kernel_rfl) yv_ne
      ⟨name_y H (.inl hn), callX (d := d + 1) (l := [c1 N.is_integer (.str n) false]) [.a no] H.s rfl (by kernel_rfl) yv_ne (callX (d := d) (l := []) [] H.i rfl (by kernel_rfl) yv_ne trivial), h1⟩
  · exact callX (l := [c1 N.is_short (.int 0) true, c1 N.is_name (.str t) true]) [.a yes, .a yes] H.p rfl (by kernel_rfl) yv_ne ⟨short_y H (by decide) (by decide), h1⟩
  · exact callX (l := [c1 N.is_short (.int 1) true, c1 N.is_name (.str t) true]) [.a yes, .a yes] H.p rfl (by kernel_rfl) yv_ne ⟨short_y H (by decide) (by decide), h1⟩
theorem deed_y {ps ks : List W} {w : W} (hm : Names ps) (h : IsDeed ps ks w) : callF P 60 (d + 4) N.is_deed [.m (.d w)] = yes := by
  obtain ⟨p, hp, ⟨n, hn, rfl⟩ | ⟨n, s, hn, hs, rfl⟩⟩ := h
  · have hn' : n ∈ NM := by rcases hn with rfl | rfl <;> decide
    exact callX (l := [c1 N.is_name (.str n) true, c1 N.is_place p true]) [.a yes, .a yes] H.d rfl (by kernel_rfl) yv_ne ⟨name_y H (.inl hn'), place_y H hm hp⟩
  · rcases hn with rfl | rfl | rfl | rfl <;>
    exact callX (l := [c1 N.is_sum s true, c1 N.is_place p true]) [.a yes, .a yes] H.d rfl (by kernel_rfl) yv_ne ⟨sum_y H hs, place_y H hm hp⟩
end
end FL


set_option linter.all false
set_option maxRecDepth 100000
set_option maxHeartbeats 4000000
namespace FL
open FM
/-! ### equality of data -/
mutual
theorem eqP_symm : ∀ a b : W, eqP a b = eqP b a
  | .non, b => by cases b <;> rfl
  | .bl x, b => by
    cases b with
    | bl y => cases x <;> cases y <;> rfl
    | int y =>
      show decide (_ = y) = decide (y = _)
      exact decide_eq_decide.mpr ⟨Eq.symm, Eq.symm⟩
    | _ => rfl
  | .int x, b => by
    cases b with
    | int y => exact decide_eq_decide.mpr ⟨Eq.symm, Eq.symm⟩
    | bl y =>
      show decide (x = _) = decide (_ = x)
      exact decide_eq_decide.mpr ⟨Eq.symm, Eq.symm⟩
    | _ => rfl
  | .str x, b => by
    cases b with
    | str y =>
      show eqS x y = eqS y x
      exact Bool.eq_iff_iff.mpr (by rw [eqS_iff, eqS_iff]; exact ⟨Eq.symm, Eq.symm⟩)
    | _ => rfl
  | .tup x, b => by
    cases b with
    | tup y => exact eqPs_symm x y
    | _ => rfl
  | .lis x, b => by
    cases b with
    | lis y => exact eqPs_symm x y
    | _ => rfl
  | .dic _ _, b => by cases b <;> rfl
  | .obj _ _ _, b => by cases b <;> rfl
  | .scr _, b => by cases b <;> rfl
theorem eqPs_symm : ∀ a b : List W, eqPs a b = eqPs b a
  | [], [] => rfl
  | [], _ :: _ => rfl
  | _ :: _, [] => rfl
  | a :: as, b :: bs => by
    show (eqP a b && eqPs as bs) = (eqP b a && eqPs bs as)
    rw [eqP_symm a b, eqPs_symm as bs]
end
mutual
theorem eqP_refl : ∀ (n : Nat) (a : W), okW n a = true → eqP a a = true
  | _, .non, _ => rfl
  | _, .bl x, _ => by cases x <;> rfl
  | _, .int x, _ => decide_eq_true rfl
  | _, .str x, _ => eqS_iff.mpr rfl
  | 0, .tup x, h => by cases h
  | n + 1, .tup x, h => eqPs_refl n x h
  | 0, .lis x, h => by cases h
  | n + 1, .lis x, h => eqPs_refl n x h
  | n, .dic _ _, h => by cases n <;> cases h
  | n, .obj _ _ _, h => by cases n <;> cases h
  | n, .scr _, h => by cases n <;> cases h
theorem eqPs_refl : ∀ (n : Nat) (a : List W), okWs n a = true → eqPs a a = true
  | _, [], _ => rfl
  | n, a :: as, h => by
    have h : (okW n a && okWs n as) = true := by cases n <;> exact h
    rw [Bool.and_eq_true] at h
    show (eqP a a && eqPs as as) = true
    rw [eqP_refl n a h.1, eqPs_refl n as h.2]; rfl
end
theorem tm_ok {ts : List W} (h : Tm ts) : okW 58 (.tup ts) = true := by
  rcases h with rfl | ⟨f, n, _, _, _, _, rfl⟩ | ⟨f, n, g, m, _, _, _, _, _, _, _, rfl⟩ <;> rfl
theorem sum_okW {ws : List W} {x : W} (h : IsSum ws x) : okW 60 x = true := by
  obtain ⟨c, ts, rfl, _, ht, _⟩ := h
  rcases ht with rfl | ⟨f, n, _, _, _, _, rfl⟩ | ⟨f, n, g, m, _, _, _, _, _, _, _, rfl⟩ <;> rfl
theorem eqW_of {a b : W} (ha : okW 60 a = true) (hb : okW 60 b = true) : eqW a b = some (eqP a b) := by
  unfold eqW
  rw [ha, hb]; rfl
/-- a deed's parts: its word, its table, its index, the rest -/
def DP (w t : List Nat) (i x : W) : W := .tup [.str w, .tup [.str t, i], x]
def put : List Nat := [112, 117, 116]
def read : List Nat := [114, 101, 97, 100]
/-- how two deeds clash -/
inductive Cl : W → W → Bool → Prop where
  | far {w t i x w' t' i' x'} : eqS t t' = false → Cl (DP w t i x) (DP w' t' i' x') false
  | word {w t i x w' t' i' x'} : eqS t t' = true → eqS w w' = false → Cl (DP w t i x) (DP w' t' i' x') true
  | same {w t i x w' t' i' x'} : eqS t t' = true → eqS w w' = true → eqS w put = false → Cl (DP w t i x) (DP w' t' i' x') false
  | puts {w t i w' t' i'} {a b c d ts ts' : W} {e f : Bool} : eqS t t' = true → eqS w w' = true → eqS w put = true → okW 60 (.tup [a, b, ts]) = true → okW 60 (.tup [c, d, ts']) = true → eqP (.tup [a, b, ts]) (.tup [c, d, ts']) = e → eqP ts (.tup []) = f → eqP ts' (.tup []) = f ∨ e = false →
      Cl (DP w t i (.tup [a, b, ts])) (DP w' t' i' (.tup [c, d, ts'])) (!(e && f))
structure HC (N : Nums) (P : List FD) : Prop extends HD N P where
  c : nth P N.clash = some (fd_clash N)
  dc : nth P N.do_clash = some (fd_do_clash N)
  lc : nth P N._law_clash = some (fd__law_clash N)
theorem nT {a b : List Nat} (h : eqS a b = false) : some (!eqS a b) = some true := by rw [h]; rfl
theorem nF {a b : List Nat} (h : eqS a b = true) : some (!eqS a b) = some false := by rw [h]; rfl
theorem eW {a b : W} {e : Bool} (ha : okW 60 a = true) (hb : okW 60 b = true) (h : eqP a b = e) : eqW a b = some e := by rw [eqW_of ha hb, h]
theorem nW {a b : W} {e : Bool} (ha : okW 60 a = true) (hb : okW 60 b = true) (h : eqP a b = e) : (eqW a b).map (!·) = some (!e) := by rw [eW ha hb h]; rfl
mutual
theorem okW_up : ∀ (n : Nat) (a : W), okW n a = true → okW (n + 1) a = true
  | _, .non, _ => rfl
  | _, .bl x, _ => rfl
  | _, .int x, _ => rfl
  | _, .str x, _ => rfl
  | 0, .tup x, h => by cases h
  | n + 1, .tup x, h => okWs_up n x h
  | 0, .lis x, h => by cases h
  | n + 1, .lis x, h => okWs_up n x h
  | n, .dic _ _, h => by cases n <;> cases h
  | n, .obj _ _ _, h => by cases n <;> cases h
  | n, .scr _, h => by cases n <;> cases h
theorem okWs_up : ∀ (n : Nat) (a : List W), okWs n a = true → okWs (n + 1) a = true
  | n, [], _ => by cases n <;> rfl
  | n, a :: as, h => by
    have h : (okW n a && okWs n as) = true := by cases n <;> exact h
    rw [Bool.and_eq_true] at h
    show (okW (n + 1) a && okWs (n + 1) as) = true
    rw [okW_up n a h.1, okWs_up n as h.2]; rfl
end
theorem ts_ok {a b ts : W} (h : okW 60 (.tup [a, b, ts]) = true) : okW 60 ts = true := by
  have h : (okW 59 a && (okW 59 b && (okW 59 ts && true))) = true := h
  simp only [Bool.and_eq_true] at h
  exact okW_up 59 ts h.2.2.1
/-- two values, a truth -/
abbrev c2 (f : Nat) (w v : W) (b : Bool) : Ob := .a f [.m (.d w), .m (.d v)] (.ok (.d (.bl b)) [])
section
variable {N : Nums} {P : List FD} (H : HC N P) {d : Nat}
include H
theorem clash_is {a b : W} {r : Bool} (h : Cl a b r) : callF P 60 (d + 1) N.clash [.m (.d a), .m (.d b)] = yv (.bl r) := by
  cases h with
  | @far w t i x w' t' i' x' h1 => exact callX (l := [.t (some (!eqS t t')) true]) [.t 0 true] H.c rfl (by kernel_rfl) yv_ne (nT h1)
  | @word w t i x w' t' i' x' h1 h2 => exact callX (l := [.t (some (!eqS w w')) true, .t (some (!eqS t t')) false]) [.t 0 false, .t 0 true] H.c rfl (by kernel_rfl) yv_ne ⟨nT h2, nF h1⟩
  | @same w t i x w' t' i' x' h1 h2 h3 => exact callX (l := [.t (some (eqS w put)) false, .t (some (!eqS w w')) false, .t (some (!eqS t t')) false]) [.t 0 false, .t 0 false, .t 0 false] H.c rfl (by kernel_rfl) yv_ne ⟨congrArg some h3, nF h2, nF h1⟩
  | @puts w t i w' t' i' a b c' d' ts ts' e f h1 h2 h3 o1 o2 h4 h5 h6 =>
    cases e with
    | false => exact callX (l := [.t ((eqW (.tup [a, b, ts]) (.tup [c', d', ts'])).map (!·)) true, .t (some (eqS w put)) true, .t (some (!eqS w w')) false, .t (some (!eqS t t')) false]) [.t 0 false, .t 0 false, .t 0 true, .t 0 true] H.c rfl (by kernel_rfl) yv_ne ⟨nW o1 o2 h4, congrArg some h3, nF h2, nF h1⟩
    | true =>
      have o3 : okW 60 ts = true := ts_ok o1
      cases f with
      | false => exact callX (l := [.t ((eqW ts (.tup [])).map (!·)) true, .t ((eqW (.tup [a, b, ts]) (.tup [c', d', ts'])).map (!·)) false, .t (some (eqS w put)) true, .t (some (!eqS w w')) false, .t (some (!eqS t t')) false]) [.t 0 false, .t 0 false, .t 0 true, .t 0 false, .t 0 true] H.c rfl (by kernel_rfl) yv_ne ⟨nW o3 rfl h5, nW o1 o2 h4, congrArg some h3, nF h2, nF h1⟩
      | true => exact callX (l := [.t ((eqW ts (.tup [])).map (!·)) false, .t ((eqW (.tup [a, b, ts]) (.tup [c', d', ts'])).map (!·)) false, .t (some (eqS w put)) true, .t (some (!eqS w w')) false, .t (some (!eqS t t')) false]) [.t 0 false, .t 0 false, .t 0 true, .t 0 false, .t 0 false] H.c rfl (by kernel_rfl) yv_ne ⟨nW o3 rfl h5, nW o1 o2 h4, congrArg some h3, nF h2, nF h1⟩
theorem lclash_is {a b : W} {r : Bool} (h : Cl a b r) : callF P 60 (d + 1) N._law_clash [.m (.d a), .m (.d b)] = yv (.bl r) := by
  cases h with
  | @far w t i x w' t' i' x' h1 => exact callX (l := [.t (some (!eqS t t')) true]) [.t 0 true] H.lc rfl (by kernel_rfl) yv_ne (nT h1)
  | @word w t i x w' t' i' x' h1 h2 => exact callX (l := [.t (some (!eqS w w')) true, .t (some (!eqS t t')) false]) [.t 0 false, .t 0 true] H.lc rfl (by kernel_rfl) yv_ne ⟨nT h2, nF h1⟩
  | @same w t i x w' t' i' x' h1 h2 h3 => exact callX (l := [.t (some (eqS w put)) false, .t (some (!eqS w w')) false, .t (some (!eqS t t')) false]) [.t 0 false, .t 0 false, .t 0 false] H.lc rfl (by kernel_rfl) yv_ne ⟨congrArg some h3, nF h2, nF h1⟩
  | @puts w t i w' t' i' a b c' d' ts ts' e f h1 h2 h3 o1 o2 h4 h5 h6 =>
    cases e with
    | false => exact callX (l := [.t (eqW (.tup [a, b, ts]) (.tup [c', d', ts'])) false, .t (some (eqS w put)) true, .t (some (!eqS w w')) false, .t (some (!eqS t t')) false]) [.t 0 false, .t 0 false, .t 0 true, .t 0 false] H.lc rfl (by kernel_rfl) yv_ne ⟨eW o1 o2 h4, congrArg some h3, nF h2, nF h1⟩
    | true =>
      have o3 : okW 60 ts = true := ts_ok o1
      cases f with
      | false => exact callX (l := [.t (eqW ts (.tup [])) false, .t (eqW (.tup [a, b, ts]) (.tup [c', d', ts'])) true, .t (some (eqS w put)) true, .t (some (!eqS w w')) false, .t (some (!eqS t t')) false]) [.t 0 false, .t 0 false, .t 0 true, .t 0 true, .t 0 false] H.lc rfl (by kernel_rfl) yv_ne ⟨eW o3 rfl h5, eW o1 o2 h4, congrArg some h3, nF h2, nF h1⟩
      | true => exact callX (l := [.t (eqW ts (.tup [])) true, .t (eqW (.tup [a, b, ts]) (.tup [c', d', ts'])) true, .t (some (eqS w put)) true, .t (some (!eqS w w')) false, .t (some (!eqS t t')) false]) [.t 0 false, .t 0 false, .t 0 true, .t 0 true, .t 0 true] H.lc rfl (by kernel_rfl) yv_ne ⟨eW o3 rfl h5, eW o1 o2 h4, congrArg some h3, nF h2, nF h1⟩
theorem do_is {ps ks ks' : List W} {a b : W} {r : Bool} (hm : Names ps) (ha : IsDeed ps ks a) (hb : IsDeed ps ks' b) (h : Cl a b r) : callF P 60 (d + 5) N.do_clash [.m (.d a), .m (.d b)] = yv (.bl r) :=
  callX (l := [c2 N.clash a b r, c1 N.is_deed b true, c1 N.is_deed a true]) [.a yes, .a yes, .a (yv (.bl r))] H.dc rfl (by kernel_rfl) yv_ne ⟨clash_is H h, deed_y H.toHD hm hb, deed_y H.toHD hm ha⟩
end
end FL


set_option linter.all false
set_option maxRecDepth 100000
set_option maxHeartbeats 4000000
namespace FL
open FM
theorem put_nil {l : List W} : eqP (.tup l) (.tup []) = l.isEmpty := by cases l <;> rfl
theorem eqS_ne {a b : List Nat} (h : a ≠ b) : eqS a b = false := by
  cases e : eqS a b with
  | false => rfl
  | true => exact absurd (eqS_iff.mp e) h
/-- the parts of a drawn deed -/
theorem parts {ps ks : List W} {a : W} (h : IsDeed ps ks a) : ∃ w t i x, a = DP w t i x ∧ (t = [97] ∨ t = [98]) ∧ (i ∈ ps ∨ i = .int 0 ∨ i = .int 1) ∧ ((w = read ∧ ∃ n, x = .str n) ∨ Word w ∧ IsSum (ps ++ ks) x) := by
  obtain ⟨p, ⟨t, i, rfl, ht, hi⟩, ⟨n, hn, rfl⟩ | ⟨w, s, hw, hs, rfl⟩⟩ := h
  · exact ⟨read, t, i, .str n, rfl, ht, hi, .inl ⟨rfl, n, rfl⟩⟩
  · exact ⟨w, t, i, s, rfl, ht, hi, .inr ⟨hw, hs⟩⟩
theorem cl_ex {ps ks ks' : List W} {a b : W} (ha : IsDeed ps ks a) (hb : IsDeed ps ks' b) : ∃ r, Cl a b r ∧ Cl b a r := by
  obtain ⟨w, t, i, x, rfl, ht, _, hx⟩ := parts ha
  obtain ⟨w', t', i', x', rfl, ht', _, hx'⟩ := parts hb
  have sy : ∀ {a b : List Nat} {e : Bool}, eqS a b = e → eqS b a = e := fun {a b e} h => (eqP_symm (.str b) (.str a)).trans h
  cases e1 : eqS t t' with
  | false => exact ⟨false, .far e1, .far (sy e1)⟩
  | true =>
    cases e2 : eqS w w' with
    | false => exact ⟨true, .word e1 e2, .word (sy e1) (sy e2)⟩
    | true =>
      have := eqS_iff.mp e2
      subst this
      cases e3 : eqS w put with
      | false => exact ⟨false, .same e1 e2 e3, .same (sy e1) e2 e3⟩
      | true =>
        have := eqS_iff.mp e3
        subst this
        have hx : IsSum (ps ++ ks) x := by
          rcases hx with ⟨h, _⟩ | h
          · exact absurd h (by decide)
          · exact h.2
        have hx' : IsSum (ps ++ ks') x' := by
          rcases hx' with ⟨h, _⟩ | h
          · exact absurd h (by decide)
          · exact h.2
        have o1 := sum_okW hx
        have o2 := sum_okW hx'
        obtain ⟨c, ts, rfl, _⟩ := hx
        obtain ⟨c', ts', rfl, _⟩ := hx'
        cases e4 : eqP (.tup [.str [115, 117, 109], .int c, .tup ts]) (.tup [.str [115, 117, 109], .int c', .tup ts']) with
        | false => exact ⟨true, Cl.puts (e := false) e1 e2 e3 o1 o2 e4 rfl (.inr rfl), Cl.puts (e := false) (sy e1) e2 e3 o2 o1 ((eqP_symm _ _).trans e4) rfl (.inr rfl)⟩
        | true =>
          have e5 : eqP (.tup ts') (.tup []) = eqP (.tup ts) (.tup []) := by
            have h : (eqS [115, 117, 109] [115, 117, 109] && (decide (c = c') && (eqPs ts ts' && true))) = true := e4
            simp only [Bool.and_eq_true] at h
            have h := h.2.2.1
            rw [put_nil, put_nil]
            cases ts with
            | nil => cases ts' with
              | nil => rfl
              | cons _ _ => cases h
            | cons _ _ => cases ts' with
              | nil => cases h
              | cons _ _ => rfl
          refine ⟨_, .puts e1 e2 e3 o1 o2 e4 rfl (.inl e5), ?_⟩
          rw [← e5]
          exact .puts (sy e1) e2 e3 o2 o1 ((eqP_symm _ _).trans e4) rfl (.inl e5.symm)
theorem cl_self {ps ks : List W} {a : W} (ha : IsDeed ps ks a) : (∃ w t i x, a = DP w t i x ∧ eqS w put = false ∧ Cl a a false) ∨ ∃ t i b c ts, a = DP put t i (.tup [b, c, .tup ts]) ∧ okW 60 (.tup ts) = true ∧ Cl a a (!ts.isEmpty) := by
  obtain ⟨w, t, i, x, rfl, ht, _, hx⟩ := parts ha
  have re : ∀ a : List Nat, eqS a a = true := fun a => eqS_iff.mpr rfl
  cases e3 : eqS w put with
  | false => exact .inl ⟨w, t, i, x, rfl, e3, .same (re t) (re w) e3⟩
  | true =>
    have := eqS_iff.mp e3
    subst this
    have hx : IsSum (ps ++ ks) x := by
      rcases hx with ⟨h, _⟩ | h
      · exact absurd h (by decide)
      · exact h.2
    have o1 := sum_okW hx
    obtain ⟨c, ts, rfl, _⟩ := hx
    have q := Cl.puts (i := i) (i' := i) (re t) (re put) e3 o1 o1 (eqP_refl 60 _ o1) rfl (.inl rfl)
    rw [put_nil] at q
    exact .inr ⟨t, i, _, _, ts, rfl, ts_ok o1, q⟩
/-! ### amounts -/
structure HL (N : Nums) (P : List FD) : Prop extends HC N P where
  ap : nth P N.apply = some (fd_apply N)
  am : nth P N._law_amount = some (fd__law_amount N)
  se : nth P N._law_same_ends = some (fd__law_same_ends N)
  er : nth P N._law_error = some (fd__law_error N)
theorem mul_ok {f s : Int} (h1 : -9 < f) (h2 : f < 9) : arith .mul (.int f) (.int s) = some (.int (f * s)) := by
  have : mulOk f s = true := by
    unfold mulOk
    have : Nat.blt f.natAbs (2 ^ 64) = true := Nat.blt_eq.mpr (by omega)
    rw [this, Bool.or_true, Bool.true_or]
  show (if mulOk f s then some (W.int (f * s)) else none) = _
  rw [this]; rfl
/-- a call that gives a number -/
abbrev ci (f : Nat) (es : List En) (r : Int) : Ob := .a f es (.ok (.d (.int r)) [])
section
variable {N : Nums} {P : List FD} (H : HL N P) {d : Nat}
include H
theorem amount_y {w t : List Nat} {i x : W} {s u : Int} (hi : okW 60 i = true) (hs : IsSum [.str [112], .str [120]] x) : ∃ A, callF P 60 (d + 1) N._law_amount [.m (.d (DP w t i x)), .m (.d (.int s)), .m (.d (.int u))] = yv (.int A) ∧ ∀ b c, x = .tup [b, .int c, .tup []] → A = c + 0 := by
  obtain ⟨c, ts, rfl, hc, ht, hin⟩ := hs
  have hb : eqW i (.str [112]) = some (eqP i (.str [112])) := eqW_of hi rfl
  have fin : ∀ n, W.str n ∈ [W.str [112], .str [120]] → n = [112] ∨ n = [120] := fun n h => by
    simp only [List.mem_cons, List.not_mem_nil, or_false, W.str.injEq] at h
    exact h
  rcases ht with rfl | ⟨f, n, hn, f0, f1, f2, rfl⟩ | ⟨f, n, g, m, hp, f0, f1, f2, g0, g1, g2, rfl⟩
  · refine ⟨c + [].sum, ?_, fun b c' e => ?_⟩
    · cases e : eqP i (.str [112]) with
      | true => exact callX (l := [.t (eqW i (.str [112])) true]) [.t 0 true] H.am rfl (by kernel_rfl) yv_ne (by rw [← e]; exact hb)
      | false => exact callX (l := [.t (eqW i (.str [112])) false]) [.t 0 false] H.am rfl (by kernel_rfl) yv_ne (by rw [← e]; exact hb)
    · cases e; rfl
  · have k : ∀ b, eqP i (.str [112]) = b → ∃ q v, arith .mul (.int f) (.int v) = some (.int q) ∧ callF P 60 (d + 1) N._law_amount [.m (.d (DP w t i (.tup [.str [115, 117, 109], .int c, .tup [.tup [.int f, .str n]]]))), .m (.d (.int s)), .m (.d (.int u))] = yv (.int (c + [q].sum)) := by
      intro b e
      rw [e] at hb
      rcases fin n (hin f n List.mem_cons_self) with rfl | rfl
      · cases b with
        | true => exact ⟨f * s, s, mul_ok f1 f2, callX (l := [.v (arith .mul (.int f) (.int s)) (.int (f * s)), .t (eqW i (.str [112])) true]) [.t 0 true, .v 6 (.int (f * s))] H.am rfl (by kernel_rfl) yv_ne ⟨mul_ok f1 f2, hb⟩⟩
        | false => exact ⟨f * u, u, mul_ok f1 f2, callX (l := [.v (arith .mul (.int f) (.int u)) (.int (f * u)), .t (eqW i (.str [112])) false]) [.t 0 false, .v 6 (.int (f * u))] H.am rfl (by kernel_rfl) yv_ne ⟨mul_ok f1 f2, hb⟩⟩
      · cases b with
        | true => exact ⟨f * (u + 1), u + 1, mul_ok f1 f2, callX (l := [.v (arith .mul (.int f) (.int (u + 1))) (.int (f * (u + 1))), .t (eqW i (.str [112])) true]) [.t 0 true, .v 6 (.int (f * (u + 1)))] H.am rfl (by kernel_rfl) yv_ne ⟨mul_ok f1 f2, hb⟩⟩
        | false => exact ⟨f * (u + 1), u + 1, mul_ok f1 f2, callX (l := [.v (arith .mul (.int f) (.int (u + 1))) (.int (f * (u + 1))), .t (eqW i (.str [112])) false]) [.t 0 false, .v 6 (.int (f * (u + 1)))] H.am rfl (by kernel_rfl) yv_ne ⟨mul_ok f1 f2, hb⟩⟩
    obtain ⟨q, v, _, h⟩ := k _ rfl
    exact ⟨_, h, fun b c' e => by cases e⟩
  · have hn := fin n (hin f n List.mem_cons_self)
    have hm := fin m (hin g m (List.mem_cons_of_mem _ List.mem_cons_self))
    obtain ⟨hlt, _⟩ := PR_lt hp
    have e1 : n = [112] ∧ m = [120] := by
      rcases hn with rfl | rfl <;> rcases hm with rfl | rfl
      · cases hlt
      · exact ⟨rfl, rfl⟩
      · cases hlt
      · cases hlt
    obtain ⟨rfl, rfl⟩ := e1
    cases e : eqP i (.str [112]) with
    | true =>
      rw [e] at hb
      exact ⟨_, callX (y := yv (.int (c + [f * s, g * (u + 1)].sum))) (l := [.v (arith .mul (.int g) (.int (u + 1))) (.int (g * (u + 1))), .v (arith .mul (.int f) (.int s)) (.int (f * s)), .t (eqW i (.str [112])) true]) [.t 0 true, .v 6 (.int (f * s)), .v 1 (.int (g * (u + 1)))] H.am rfl (by kernel_rfl) yv_ne ⟨mul_ok g1 g2, mul_ok f1 f2, hb⟩, fun b c' e => by cases e⟩
    | false =>
      rw [e] at hb
      exact ⟨_, callX (y := yv (.int (c + [f * u, g * (u + 1)].sum))) (l := [.v (arith .mul (.int g) (.int (u + 1))) (.int (g * (u + 1))), .v (arith .mul (.int f) (.int u)) (.int (f * u)), .t (eqW i (.str [112])) false]) [.t 0 false, .v 6 (.int (f * u)), .v 1 (.int (g * (u + 1)))] H.am rfl (by kernel_rfl) yv_ne ⟨mul_ok g1 g2, mul_ok f1 f2, hb⟩, fun b c' e => by cases e⟩
/-- apply -/
def apI (w : List Nat) (v a : Int) : Int := if eqS w [97, 100, 100] then v + a else if eqS w [114, 97, 105, 115, 101] then (if a > v then a else v) else if eqS w [108, 111, 119, 101, 114] then (if a < v then a else v) else a
theorem apply_y {w t : List Nat} {i x it : W} {v a : Int} (hw : Word w) : callF P 60 (d + 1) N.apply [.m (.d (DP w t i x)), .m (.d it), .m (.d (.int v)), .m (.d (.int a))] = yv (.int (apI w v a)) := by
  rcases hw with rfl | rfl | rfl | rfl <;> exact callX (l := []) [] H.ap rfl (by kernel_rfl) yv_ne trivial
end
theorem ap_comm {w : List Nat} {v a b : Int} (hw : Word w) (h : eqS w put = true → a = b) : apI w (apI w v a) b = apI w (apI w v b) a := by
  rcases hw with rfl | rfl | rfl | rfl
  · show v + a + b = v + b + a; omega
  · have := h rfl; subst this; rfl
  · show (if b > (if a > v then a else v) then b else (if a > v then a else v)) = (if a > (if b > v then b else v) then a else (if b > v then b else v))
    repeat (first | omega | split)
  · show (if b < (if a < v then a else v) then b else (if a < v then a else v)) = (if a < (if b < v then b else v) then a else (if b < v then b else v))
    repeat (first | omega | split)
end FL


set_option linter.all false
set_option maxRecDepth 100000
set_option maxHeartbeats 4000000
namespace FL
open FM
/-- an index of these deeds -/
def Ix (i : W) : Prop := i = .str [112] ∨ i = .int 0 ∨ i = .int 1
theorem Ix.ok {i : W} (h : Ix i) : okW 60 i = true := by rcases h with rfl | rfl | rfl <;> rfl
theorem ix_of {i : W} (h : i ∈ [W.str [112]] ∨ i = .int 0 ∨ i = .int 1) : Ix i := by
  rcases h with h | h
  · exact .inl (List.mem_singleton.mp h)
  · exact .inr h
def sameL (N : Nums) (a b : W) (t w w' : List Nat) (k v f s A B v1 v2 v3 v4 : Int) : List Ob :=
  [.t (some (decide (v2 = v4))) true, ci N.apply [.m (.d a), .m (.d (.tup [.str t, .int k])), .m (.d (.int v3)), .m (.d (.int A))] v4, ci N.apply [.m (.d b), .m (.d (.tup [.str t, .int k])), .m (.d (.int v)), .m (.d (.int B))] v3,
   ci N.apply [.m (.d b), .m (.d (.tup [.str t, .int k])), .m (.d (.int v1)), .m (.d (.int B))] v2, ci N.apply [.m (.d a), .m (.d (.tup [.str t, .int k])), .m (.d (.int v)), .m (.d (.int A))] v1,
   ci N._law_amount [.m (.d b), .m (.d (.int k)), .m (.d (.int s))] B, ci N._law_amount [.m (.d a), .m (.d (.int k)), .m (.d (.int f))] A, .t (some (inW (.str read) [.str w, .str w'])) false]
def sameS (A B v1 v2 v3 v4 : Int) : List It := [.t 0 false, .a (yv (.int A)), .a (yv (.int B)), .a (yv (.int v1)), .a (yv (.int v2)), .a (yv (.int v3)), .a (yv (.int v4)), .t 0 true]
section
variable {N : Nums} {P : List FD} (H : HL N P) {d : Nat}
include H
theorem same_y {w t t' : List Nat} {i x i' x' : W} {v f s : Int} (hi : Ix i) (hi' : Ix i') (hx : (w = read ∧ True) ∨ Word w ∧ IsSum [.str [112], .str [120]] x ∧ IsSum [.str [112], .str [120]] x' ∧ (eqS w put = true → ∃ b b' c, x = .tup [b, .int c, .tup []] ∧ x' = .tup [b', .int c, .tup []])) :
    callF P 60 (d + 2) N._law_same_ends [.m (.d (DP w t i x)), .m (.d (DP w t' i' x')), .m (.d (.int v)), .m (.d (.int f)), .m (.d (.int s))] = yes := by
  rcases hx with ⟨rfl, _⟩ | ⟨hw, hs, hs', hp⟩
  · exact callX (l := []) [] H.se rfl (by kernel_rfl) yv_ne trivial
  · have hr : some (inW (.str read) [.str w, .str w]) = some false := by rcases hw with rfl | rfl | rfl | rfl <;> rfl
    have go : ∀ k : Int, ∃ A B v1 v2 v3 v4, Gd (callF P 60 (d + 1)) (sameL N (DP w t i x) (DP w t' i' x') t w w k v f s A B v1 v2 v3 v4) := fun k => by
      obtain ⟨A, hA, eA⟩ := amount_y H (d := d) (w := w) (t := t) (s := k) (u := f) hi.ok hs
      obtain ⟨B, hB, eB⟩ := amount_y H (d := d) (w := w) (t := t') (s := k) (u := s) hi'.ok hs'
      refine ⟨A, B, apI w v A, apI w (apI w v A) B, apI w v B, apI w (apI w v B) A, ?_⟩
      refine ⟨congrArg some (decide_eq_true (ap_comm hw fun e => ?_)), apply_y H hw, apply_y H hw, apply_y H hw, apply_y H hw, hB, hA, hr⟩
      obtain ⟨b, b', c, h1, h2⟩ := hp e
      rw [eA b c h1, eB b' c h2]
    obtain ⟨A, B, v1, v2, v3, v4, g0⟩ := go 0
    obtain ⟨A', B', v1', v2', v3', v4', g1⟩ := go 1
    rcases hi with rfl | rfl | rfl <;> rcases hi' with rfl | rfl | rfl
    · exact callX (l := sameL N (DP w t (.str [112]) x) (DP w t' (.str [112]) x') t w w 1 v f s A' B' v1' v2' v3' v4') (sameS A' B' v1' v2' v3' v4') H.se rfl (by kernel_rfl) yv_ne g1
    · exact callX (l := sameL N (DP w t (.str [112]) x) (DP w t' (.int 0) x') t w w 0 v f s A B v1 v2 v3 v4) (sameS A B v1 v2 v3 v4) H.se rfl (by kernel_rfl) yv_ne g0
    · exact callX (l := sameL N (DP w t (.str [112]) x) (DP w t' (.int 1) x') t w w 1 v f s A' B' v1' v2' v3' v4') (sameS A' B' v1' v2' v3' v4') H.se rfl (by kernel_rfl) yv_ne g1
    · exact callX (l := sameL N (DP w t (.int 0) x) (DP w t' (.str [112]) x') t w w 0 v f s A B v1 v2 v3 v4) (sameS A B v1 v2 v3 v4) H.se rfl (by kernel_rfl) yv_ne g0
    · exact callX (l := sameL N (DP w t (.int 0) x) (DP w t' (.int 0) x') t w w 0 v f s A B v1 v2 v3 v4) (sameS A B v1 v2 v3 v4) H.se rfl (by kernel_rfl) yv_ne g0
    · exact callX (l := [.t (some (inW (.str read) [.str w, .str w])) false]) [.t 0 false] H.se rfl (by kernel_rfl) yv_ne hr
    · exact callX (l := sameL N (DP w t (.int 1) x) (DP w t' (.str [112]) x') t w w 1 v f s A' B' v1' v2' v3' v4') (sameS A' B' v1' v2' v3' v4') H.se rfl (by kernel_rfl) yv_ne g1
    · exact callX (l := [.t (some (inW (.str read) [.str w, .str w])) false]) [.t 0 false] H.se rfl (by kernel_rfl) yv_ne hr
    · exact callX (l := sameL N (DP w t (.int 1) x) (DP w t' (.int 1) x') t w w 1 v f s A' B' v1' v2' v3' v4') (sameS A' B' v1' v2' v3' v4') H.se rfl (by kernel_rfl) yv_ne g1
/-! ### errors -/
def odds : List W := [.non, .int 5, .tup [], .lis [.str read, .tup [.str [97], .int 1], .str [120]], .tup [.str read, .tup [.str [97], .int 1], .int 5], .str read]
theorem odd_n {o : W} (ho : o ∈ odds) : callF P 60 (d + 4) N.is_deed [.m (.d o)] = no := by
  simp only [odds, List.mem_cons, List.not_mem_nil, or_false] at ho
  have h1 : callF P 60 (d + 3) N.is_place [.m (.d (.tup [.str [97], .int 1]))] = yes := place_y H.toHD (ps := []) (fun _ h => nomatch h) ⟨[97], .int 1, rfl, .inl rfl, .inr (.inr rfl)⟩
  rcases ho with rfl | rfl | rfl | rfl | rfl | rfl
  · exact callX (l := []) [] H.d rfl (by kernel_rfl) yv_ne trivial
  · exact callX (l := []) [] H.d rfl (by kernel_rfl) yv_ne trivial
  · exact callX (l := []) [] H.d rfl (by kernel_rfl) yv_ne trivial
  · exact callX (l := []) [] H.d rfl (by kernel_rfl) yv_ne trivial
  · exact callX (l := [c1 N.is_name (.int 5) false, c1 N.is_place (.tup [.str [97], .int 1]) true]) [.a yes, .a no] H.d rfl (by kernel_rfl) yv_ne ⟨callX (l := []) [] H.n rfl (by kernel_rfl) yv_ne trivial, h1⟩
  · exact callX (l := []) [] H.d rfl (by kernel_rfl) yv_ne trivial
abbrev xItem (o : W) : CRes := .ex ⟨1, [435761734006], [o]⟩ []
abbrev yErr (o : W) : CRes := .ok (.l [.d o, .d (.bl true), .d (.bl true)]) []
theorem err_1 {o : W} (ho : o ∈ odds) : callF P 60 (d + 6) N._law_error [.m (.d o), .m (.d (.int 7))] = yErr o :=
  callX (l := [.a N.do_clash [.m (.d o), .m (.d (.int 7))] (xItem o)]) [.a (xItem o)] H.er rfl (by kernel_rfl) (fun h => nomatch h)
    (callX (y := xItem o) (l := [c1 N.is_deed o false]) [.a no] H.dc rfl (by kernel_rfl) (fun h => nomatch h) (odd_n H ho))
theorem err_2 {ps ks : List W} {a o : W} (hm : Names ps) (ha : IsDeed ps ks a) (ho : o ∈ odds) : callF P 60 (d + 6) N._law_error [.m (.d a), .m (.d o)] = yErr o :=
  callX (l := [.a N.do_clash [.m (.d a), .m (.d o)] (xItem o)]) [.a (xItem o)] H.er rfl (by kernel_rfl) (fun h => nomatch h)
    (callX (y := xItem o) (l := [c1 N.is_deed o false, c1 N.is_deed a true]) [.a yes, .a no] H.dc rfl (by kernel_rfl) (fun h => nomatch h) ⟨odd_n H ho, deed_y H.toHD hm ha⟩)
end
end FL


set_option linter.all false
set_option maxRecDepth 100000
set_option maxHeartbeats 4000000
namespace FL
open FM
def tb (N : Nums) : List IS := match b_law_K02 N with
  | [.for _ _ [_, .for _ _ b], _] => b
  | _ => []
abbrev ps2 : List W := [.str [112]]
abbrev ks2 : List W := [.str [120]]
abbrev deedA (a b : Int) : List En := [.t (pl a b), .m (.d (.lis ps2)), .m (.l [.d (.str [120])])]
abbrev drawA (a b : Int) : List En := [.t (pl a b), .m (.d (.int 1000000000))]
def errL (N : Nums) (a : W) : List W → List Ob
  | [] => []
  | o :: os => errL N a os ++ [.a N._law_error [.m (.d a), .m (.d o)] (yErr o), .a N._law_error [.m (.d o), .m (.d (.int 7))] (yErr o)]
def errS : List W → List It
  | [] => []
  | o :: os => .a (yErr o) :: .a (yErr o) :: errS os
/-- what is asked in a turn; q: the tests of the first deed's own clash; e: those of the tables -/
def turnL (N : Nums) (one other : W) (r r2 s : Bool) (q : List Ob) (e : Ob) (a b a1 b1 a2 b2 a3 b3 a4 b4 a5 b5 k1 k2 k3 : Int) : List Ob :=
  errL N one odds ++ (if s then (if r then [] else [.a N._law_same_ends [.m (.d one), .m (.d other), .m (.d (.int (k1 - 10000000))), .m (.d (.int (k2 - 10000000))), .m (.d (.int (k3 - 10000000)))] yes]) ++ [c2 N.do_clash one other r] else []) ++
  [e, .a N._law_draw (drawA a4 b4) (.ok (.d (.int k3)) [pl a5 b5]), .a N._law_draw (drawA a3 b3) (.ok (.d (.int k2)) [pl a4 b4]), .a N._law_draw (drawA a2 b2) (.ok (.d (.int k1)) [pl a3 b3])] ++ q ++
  [c2 N.do_clash one one r2, c2 N.do_clash one other r, c2 N.do_clash other one r, c2 N._law_clash one other r, c2 N.do_clash one other r, .a N._law_deed (deedA a1 b1) (.ok (.d other) [pl a2 b2]), .a N._law_deed (deedA a b) (.ok (.d one) [pl a1 b1])]
def turnS (one other : W) (r r2 s : Bool) (q : List It) (a1 b1 a2 b2 a3 b3 a4 b4 a5 b5 k1 k2 k3 : Int) : List It :=
  [.a (.ok (.d one) [pl a1 b1]), .a (.ok (.d other) [pl a2 b2]), .a (yv (.bl r)), .a (yv (.bl r)), .a (yv (.bl r)), .a (yv (.bl r)), .a (yv (.bl r2))] ++ q ++
  [.a (.ok (.d (.int k1)) [pl a3 b3]), .a (.ok (.d (.int k2)) [pl a4 b4]), .a (.ok (.d (.int k3)) [pl a5 b5]), .t 0 s] ++ (if s then .a (yv (.bl r)) :: (if r then [] else [.a yes]) else []) ++ errS odds
/-- the names: nothing yet, or all of them -/
inductive Sh (sc k : W) (tu : En) (a b : Int) : Env → Prop where
  | new : Sh sc k tu a b [.m (.d sc), .m (.d k), .m (pl a b), tu, .no, .no, .no, .no, .no, .no, .no]
  | old (x y u v w o : W) : Sh sc k tu a b [.m (.d sc), .m (.d k), .m (pl a b), tu, .m (.d x), .m (.d y), .no, .m (.d u), .m (.d v), .m (.d w), .m (.d o)]
theorem Gd.app {c : CF} : ∀ {a b : List Ob}, Gd c a → Gd c b → Gd c (a ++ b)
  | [], b, _, h => h
  | q :: a, b, g, h => by
    have g := Gd.cons.mp g
    exact Gd.cons.mpr ⟨g.1, Gd.app g.2 h⟩
structure HT (N : Nums) (P : List FD) : Prop extends HL N P where
  dr : nth P N._law_draw = some ⟨2, 3, bDraw⟩
  su : nth P N._law_sum = some ⟨2, 6, bSum N._law_draw⟩
  de : nth P N._law_deed = some ⟨3, 6, bDeed N._law_draw N._law_sum⟩
  po : nth P N._law_pool = some ⟨2, 5, bPool⟩
theorem nm_p : Names ps2 := fun w h => ⟨[112], by decide, List.mem_singleton.mp h⟩
theorem nm_x : Names ks2 := fun w h => ⟨[120], by decide, List.mem_singleton.mp h⟩
section
variable {N : Nums} {P : List FD} (H : HT N P) {d : Nat}
include H
theorem err_g {a : W} (ha : IsDeed ps2 ks2 a) : ∀ os : List W, (∀ o ∈ os, o ∈ odds) → ∀ l : List Ob, Gd (callF P 60 (d + 6)) l → Gd (callF P 60 (d + 6)) (errL N a os ++ l)
  | [], _, l, g => g
  | o :: os, h, l, g => by
    have ho := h o List.mem_cons_self
    show Gd _ ((errL N a os ++ _) ++ l)
    rw [List.append_assoc]
    refine err_g ha os (fun q hq => h q (List.mem_cons_of_mem _ hq)) _ ?_
    exact Gd.cons.mpr ⟨err_2 H.toHL nm_p ha ho, Gd.cons.mpr ⟨err_1 H.toHL ho, g⟩⟩
theorem turn {sc k : W} {tu : W} {a b : Int} {r : Env} (hp : POk a b) (hs : Sh sc k (.m (.d tu)) a b r) : ∃ r' a' b', (lvl (callF P 60 (d + 6)) 58).S (tb N) r = .nx r' ∧ Sh sc k (.m (.d tu)) a' b' r' ∧ POk a' b' := by
  obtain ⟨u1, o1, c1', one, a1, b1, rfl, rfl, h1, p1⟩ := deed_m H.dr H.su H.de (d := d + 3) hp (by decide) (by decide) nm_p nm_x
  obtain ⟨u2, o2, c2', other, a2, b2, rfl, rfl, h2, p2⟩ := deed_m H.dr H.su H.de (d := d + 3) p1 (by decide) (by decide) nm_p nm_x
  obtain ⟨u3, o3, d1, k1, a3, b3, rfl, rfl, _, _, p3⟩ := draw_ok H.dr (d := d + 5) (n := 1000000000) p2 (by decide) (by decide)
  obtain ⟨u4, o4, d2, k2, a4, b4, rfl, rfl, _, _, p4⟩ := draw_ok H.dr (d := d + 5) (n := 1000000000) p3 (by decide) (by decide)
  obtain ⟨u5, o5, d3, k3, a5, b5, rfl, rfl, _, _, p5⟩ := draw_ok H.dr (d := d + 5) (n := 1000000000) p4 (by decide) (by decide)
  obtain ⟨c, k12, k21⟩ := cl_ex h1 h2
  have do12 : callF P 60 (d + 6) N.do_clash [.m (.d one), .m (.d other)] = yv (.bl c) := do_is H.toHC nm_p h1 h2 k12
  have do21 : callF P 60 (d + 6) N.do_clash [.m (.d other), .m (.d one)] = yv (.bl c) := do_is H.toHC nm_p h2 h1 k21
  have lc12 : callF P 60 (d + 6) N._law_clash [.m (.d one), .m (.d other)] = yv (.bl c) := lclash_is H.toHC k12
  obtain ⟨w, t, i, x, rfl, ht, hi, hx⟩ := parts h1
  obtain ⟨w', t', i', x', rfl, ht', hi', hx'⟩ := parts h2
  have same : ∀ u v z : Int, eqS t t' = true → c = false → callF P 60 (d + 6) N._law_same_ends [.m (.d (DP w t i x)), .m (.d (DP w' t' i' x')), .m (.d (.int u)), .m (.d (.int v)), .m (.d (.int z))] = yes := fun u v z et ec => by
    subst ec
    have key : w = w' ∧ (eqS w put = true → ∃ b b' c, x = .tup [b, .int c, .tup []] ∧ x' = .tup [b', .int c, .tup []]) := by
      generalize hA : DP w t i x = A at k12
      generalize hB : DP w' t' i' x' = B at k12
      generalize hC : false = C at k12
      cases k12 with
      | far e => injection hA with hA; injection hB with hB; simp only [List.cons.injEq, W.str.injEq, W.tup.injEq] at hA hB; rw [hA.2.1.1, hB.2.1.1, e] at et; cases et
      | word _ _ => cases hC
      | same e1 e2 e3 =>
        injection hA with hA; injection hB with hB
        simp only [List.cons.injEq, W.str.injEq, W.tup.injEq] at hA hB
        refine ⟨by rw [hA.1, hB.1]; exact eqS_iff.mp e2, fun h => ?_⟩
        rw [hA.1, e3] at h; cases h
      | @puts w1 t1 i1 w2 t2 i2 b1 b2 b3 b4 ts ts' e f e1 e2 e3 o1 o2 e4 e5 e6 =>
        injection hA with hA; injection hB with hB
        simp only [List.cons.injEq, W.str.injEq, W.tup.injEq] at hA hB
        refine ⟨by rw [hA.1, hB.1]; exact eqS_iff.mp e2, fun h => ?_⟩
        have hw : w = put := eqS_iff.mp h
        have hw' : w' = put := by rw [hB.1, ← eqS_iff.mp e2, ← hA.1, hw]
        have s1 : IsSum (ps2 ++ ks2) x := by
          rcases hx with ⟨q, _⟩ | q
          · rw [hw] at q; exact absurd q (by decide)
          · exact q.2
        have s2 : IsSum (ps2 ++ ks2) x' := by
          rcases hx' with ⟨q, _⟩ | q
          · rw [hw'] at q; exact absurd q (by decide)
          · exact q.2
        obtain ⟨c1, l1, q1, _⟩ := s1
        obtain ⟨c2, l2, q2, _⟩ := s2
        have z1 := hA.2.2.1
        have z2 := hB.2.2.1
        rw [q1] at z1
        rw [q2] at z2
        simp only [W.tup.injEq, List.cons.injEq, and_true] at z1 z2
        obtain ⟨y1, y2, y3⟩ := z1
        obtain ⟨y4, y5, y6⟩ := z2
        subst y1; subst y2; subst y3; subst y4; subst y5; subst y6
        cases e with
        | false => cases hC
        | true =>
          cases f with
          | false => cases hC
          | true =>
            rw [put_nil] at e5
            have hl : l1 = [] := by cases l1 with | nil => rfl | cons _ _ => cases e5
            subst hl
            have h4 : (eqS [115, 117, 109] [115, 117, 109] && (decide (c1 = c2) && (eqPs [] l2 && true))) = true := e4
            simp only [Bool.and_eq_true, decide_eq_true_eq] at h4
            have hl2 : l2 = [] := by
              cases l2 with
              | nil => rfl
              | cons _ _ => cases h4.2.2.1
            subst hl2
            rw [← h4.2.1] at q2
            exact ⟨_, _, c1, q1, q2⟩
    obtain ⟨rfl, hk⟩ := key
    refine same_y H.toHL (d := d + 4) (ix_of hi) (ix_of hi') ?_
    rcases hx with ⟨h, _⟩ | ⟨hw, hs⟩
    · exact .inl ⟨h, trivial⟩
    · refine .inr ⟨hw, hs, ?_, hk⟩
      rcases hx' with ⟨h, _⟩ | ⟨_, hs'⟩
      · exfalso; rw [h] at hw; revert hw; unfold Word; decide
      · exact hs'
  have ge : Gd (callF P 60 (d + 6)) (errL N (DP w t i x) odds) := by
    have := err_g H (d := d) h1 odds (fun _ h => h) [] trivial
    rwa [List.append_nil] at this
  obtain ⟨s, hst⟩ : ∃ s, eqS t t' = s := ⟨_, rfl⟩
  have fin : ∀ (r2 : Bool) (qL : List Ob) (qS : List It), Gd (callF P 60 (d + 6)) qL → callF P 60 (d + 6) N.do_clash [.m (.d (DP w t i x)), .m (.d (DP w t i x))] = yv (.bl r2) →
      ((lvlX 58).S (tb N) r ⟨turnS (DP w t i x) (DP w' t' i' x') c r2 s qS a1 b1 a2 b2 a3 b3 a4 b4 a5 b5 k1 k2 k3, []⟩ = (.nx [.m (.d sc), .m (.d k), .m (pl a5 b5), .m (.d tu), .m (.d (DP w t i x)), .m (.d (DP w' t' i' x')), .no, .m (.d (.int (k1 - 10000000))), .m (.d (.int (k2 - 10000000))), .m (.d (.int (k3 - 10000000))), .m (.d (.str read))],
        ⟨[], turnL N (DP w t i x) (DP w' t' i' x') c r2 s qL (.t (some (eqS t t')) s) a b a1 b1 a2 b2 a3 b3 a4 b4 a5 b5 k1 k2 k3⟩)) → ∃ r' a' b', (lvl (callF P 60 (d + 6)) 58).S (tb N) r = .nx r' ∧ Sh sc k (.m (.d tu)) a' b' r' ∧ POk a' b' := fun r2 qL qS gq hself hk => by
    refine ⟨_, a5, b5, runX hk (fun h => nomatch h) ?_, .old _ _ _ _ _ _, p5⟩
    unfold turnL
    refine Gd.app (Gd.app (Gd.app (Gd.app ge ?_) ⟨congrArg some hst, d3, d2, d1⟩) gq) ⟨hself, do12, do21, lc12, do12, c2', c1'⟩
    cases e : s with
    | false => exact trivial
    | true =>
      cases hc : c with
      | true => rw [hc] at do12; exact do12
      | false => rw [hc] at do12; exact ⟨same _ _ _ (hst.trans e) hc, do12⟩
  rcases cl_self h1 with ⟨w1, t1, i1, x1, hd, e3, cs⟩ | ⟨t1, i1, y1, y2, ts, hd, oT, cs⟩
  · injection hd with hd
    simp only [List.cons.injEq, W.str.injEq, W.tup.injEq, and_true] at hd
    obtain ⟨rfl, ⟨rfl, rfl⟩, rfl⟩ := hd
    refine fin false [.t (some (eqS w put)) false] [.t 0 false] (congrArg some e3) (do_is H.toHC nm_p h1 h1 cs) ?_
    clear hst fin same
    cases hs <;> cases c <;> cases s <;> kernel_rfl
  · injection hd with hd
    simp only [List.cons.injEq, W.str.injEq, W.tup.injEq, and_true] at hd
    obtain ⟨rfl, ⟨rfl, rfl⟩, rfl⟩ := hd
    have hT : (eqW (.tup ts) (.tup [])).map (!·) = some (!ts.isEmpty) := nW oT rfl put_nil
    have hS := do_is H.toHC (d := d + 1) nm_p h1 h1 cs
    generalize hz : (!ts.isEmpty) = z at hT hS
    refine fin z [.t ((eqW (.tup ts) (.tup [])).map (!·)) z] [.t 1 z] hT hS ?_
    clear hst fin same
    cases hs <;> cases c <;> cases s <;> cases z <;> kernel_rfl
end
end FL


set_option linter.all false
set_option maxRecDepth 100000
set_option maxHeartbeats 4000000
namespace FL
open FM
/-- how often the law goes round -/
def rounds (m : Nat) (n : Nat) : Int := if (if (n : Int) < m then (n : Int) else m) > 1 then (if (n : Int) < m then (n : Int) else m) else 1
theorem rounds_le {m n : Nat} (h : 1 ≤ m) : 1 ≤ rounds m n ∧ rounds m n ≤ m := by
  unfold rounds
  split <;> split <;> omega
theorem rng_rounds {c : CF} {k m : Nat} {ws : List W} {r : Env} (h1 : 1 ≤ m) (h2 : m < 100) : stepI (lvl c (k + 8)) (.rng (.blt .max [.e (.cst (.int 1)), .e (.blt .min [.e (.cst (.int m)), .e (.blt .len [.s 0])])])) (.m (.d (.scr ws)) :: r) = .ok ⟨iota 0 (rounds m ws.length).toNat, []⟩ (.m (.d (.scr ws)) :: r) := by
  have e : stepI (lvl c (k + 8)) (.rng (.blt .max [.e (.cst (.int 1)), .e (.blt .min [.e (.cst (.int m)), .e (.blt .len [.s 0])])])) (.m (.d (.scr ws)) :: r) = if decide (rounds m ws.length ≤ 1000000) && decide (-1000000 ≤ rounds m ws.length) then .ok ⟨iota 0 (rounds m ws.length).toNat, []⟩ (.m (.d (.scr ws)) :: r) else .bad := by kernel_rfl
  obtain ⟨h3, h4⟩ := rounds_le (n := ws.length) h1
  rw [e, decide_eq_true (show rounds m ws.length ≤ 1000000 by omega), decide_eq_true (show -1000000 ≤ rounds m ws.length by omega)]
  rfl
section
variable {N : Nums} {P : List FD} (H : HT N P) {d : Nat}
include H
/-- the names of the law, between two rounds -/
def Out (sc : W) (r : Env) : Prop := r = [.m (.d sc), .no, .no, .no, .no, .no, .no, .no, .no, .no, .no] ∨ ∃ k tu a b, Sh sc k (.m (.d tu)) a b r
omit H in
theorem out_set {sc k : W} {r : Env} (h : Out sc r) : ∃ r1, bindG (.nm 1) k r = some r1 ∧ ∀ a b, ∃ r2 e3, (e3 = .no ∨ ∃ w, e3 = .m (.d w)) ∧ Sh sc k e3 a b r2 ∧ ∀ (c : CF) (f : Nat), c f [.m (.d sc), .m (.d k)] = .ok (pl a b) [] → stepS (lvl c 58) (.own 2 (.call f [.d (.var 0), .d (.var 1)])) r1 = .nx r2 := by
  have go : ∀ (r1 r2 : Env) (a b : Int) (c : CF) (f : Nat), (lvlX 59).S [.own 2 (.call f [.d (.var 0), .d (.var 1)])] r1 ⟨[.a (.ok (pl a b) [])], []⟩ = (.nx r2, ⟨[], [.a f [.m (.d sc), .m (.d k)] (.ok (pl a b) [])]⟩) → c f [.m (.d sc), .m (.d k)] = .ok (pl a b) [] → stepS (lvl c 58) (.own 2 (.call f [.d (.var 0), .d (.var 1)])) r1 = .nx r2 := fun r1 r2 a b c f h g => by
    rw [← S_single]
    exact runX h (fun h => nomatch h) g
  rcases h with rfl | ⟨k', tu, a', b', hs⟩
  · exact ⟨_, rfl, fun a b => ⟨_, _, .inl rfl, .new, fun c f g => go _ _ a b c f (by kernel_rfl) g⟩⟩
  · cases hs with
    | new => exact ⟨_, rfl, fun a b => ⟨_, _, .inr ⟨tu, rfl⟩, .new, fun c f g => go _ _ a b c f (by kernel_rfl) g⟩⟩
    | old x y u v w o => exact ⟨_, rfl, fun a b => ⟨_, _, .inr ⟨tu, rfl⟩, .old x y u v w o, fun c f g => go _ _ a b c f (by kernel_rfl) g⟩⟩
omit H in
theorem out_val {sc : W} {r : Env} (h : Out sc r) : (SRes.rt (.d (.bl true)) r).val [.m (.d sc)] = yes := by
  rcases h with rfl | ⟨k', tu, a', b', hs⟩
  · rfl
  · cases hs <;> rfl
omit H in
theorem sh_set {sc k w : W} {e3 : En} {a b : Int} {r : Env} (he : e3 = .no ∨ ∃ w, e3 = .m (.d w)) (h : Sh sc k e3 a b r) : ∃ r1, bindG (.nm 3) w r = some r1 ∧ Sh sc k (.m (.d w)) a b r1 := by
  rcases he with rfl | ⟨v, rfl⟩ <;> cases h
  · exact ⟨_, rfl, .new⟩
  · exact ⟨_, rfl, .old _ _ _ _ _ _⟩
  · exact ⟨_, rfl, .new⟩
  · exact ⟨_, rfl, .old _ _ _ _ _ _⟩
theorem law_y (hlaw : nth P N.law_K02 = some (fd_law_K02 N)) (ns : List Int) : callF P 60 (d + 7) N.law_K02 [.m (.d (.scr (ns.map W.int)))] = yes := by
  obtain ⟨r', h1, h2⟩ := for_nx (s := lvl (callF P 60 (d + 6)) 59) (g := .nm 1) (body := [.own 2 (.call N._law_pool [.d (.var 0), .d (.var 1)]), .for (.nm 3) (.rng (.cst (.int 12))) (tb N)])
    (r := [.m (.d (.scr (ns.map W.int))), .no, .no, .no, .no, .no, .no, .no, .no, .no, .no]) (rng_rounds (k := 51) (m := 8) (by decide) (by decide)) (fun _ r => Out (.scr (ns.map W.int)) r) (.inl rfl) (fun k w r hk ho => by
      obtain ⟨rfl, hk2⟩ := iota_at hk
      rw [Int.zero_add]
      obtain ⟨r1, e1, h⟩ := out_set (k := .int k) ho
      have hk3 : (k : Int) < 100 := by
        have := (rounds_le (m := 8) (n := (ns.map W.int).length) (by decide)).2
        omega
      obtain ⟨u, os, hc, a, b, rfl, rfl, hp⟩ := pool_ok H.po (d := d + 5) (ns := ns) (k := k) (by omega) hk3
      obtain ⟨r2, e3, g2, g3, g4⟩ := h a b
      have own := g4 _ _ hc
      obtain ⟨r4, q1, a4, b4, e4, q2, q3, q4⟩ := for_nx (s := lvl (callF P 60 (d + 6)) 58) (g := .nm 3) (body := tb N) (r := r2) (ws := iota 0 12) (r1 := r2) (it := .rng (.cst (.int 12))) rfl
        (fun j r => ∃ a b e3, ((j = 0 ∧ e3 = .no) ∨ ∃ w, e3 = .m (.d w)) ∧ Sh (.scr (ns.map W.int)) (.int k) e3 a b r ∧ POk a b) ⟨a, b, e3, g2.imp_left fun h => ⟨rfl, h⟩, g3, hp⟩ (fun j w r hj ⟨a, b, e3, z1, z2, z3⟩ => by
          obtain ⟨r5, y1, y2⟩ := sh_set (w := w) (z1.imp_left And.right) z2
          obtain ⟨r6, a', b', y3, y4, y5⟩ := turn H (d := d) z3 y2
          exact ⟨r5, r6, y1, y3, a', b', _, .inr ⟨w, rfl⟩, y4, y5⟩)
      refine ⟨r1, r4, e1, ?_, ?_⟩
      · show (lvl (callF P 60 (d + 6)) 59).S [.own 2 (.call N._law_pool [.d (.var 0), .d (.var 1)]), .for (.nm 3) (.rng (.cst (.int 12))) (tb N)] r1 = _
        rw [S_nx own, S_nx q1]; rfl
      · rcases q2 with ⟨z, _⟩ | ⟨w, rfl⟩
        · cases z
        · exact .inr ⟨_, w, a4, b4, q3⟩)
  refine call_eq (x := .rt (.d (.bl true)) r') hlaw rfl ?_ (out_val h2)
  exact (S_nx (sts := [.ret (.d (.cst (.bl true)))]) h1).trans rfl
end
end FL


set_option linter.all false
set_option maxRecDepth 100000
namespace K02
open FM FL
def N : Nums := { is_integer := 0, is_short := 1, is_name := 2, is_sum := 3, is_place := 4, is_deed := 5, clash := 6, do_clash := 7, apply := 8, _law_pool := 9, _law_draw := 10, _law_sum := 11, _law_deed := 12, _law_clash := 13, _law_error := 14, _law_amount := 15, _law_same_ends := 16, law_K02 := 17 }
def PF : List FD := [fd_is_integer N, fd_is_short N, fd_is_name N, fd_is_sum N, fd_is_place N, fd_is_deed N, fd_clash N, fd_do_clash N, fd_apply N, fd__law_pool N, fd__law_draw N, fd__law_sum N, fd__law_deed N, fd__law_clash N, fd__law_error N, fd__law_amount N, fd__law_same_ends N, fd_law_K02 N]
end K02


set_option Elab.async false
set_option linter.all false
set_option maxRecDepth 100000
set_option maxHeartbeats 0
namespace K02
open PySem L2 FM FL
def top (i : Nat) : Stmt := PySem.Challenge.pw_finestcuts_k02_whole_clashes_of_deeds.main.body.getD i (.Pass ⟨0, 0, 0, 0⟩)
def d_is_integer : DD := ⟨"is_integer", top 7, ["candidate"], ["candidate"], b_is_integer N⟩
def d_is_short : DD := ⟨"is_short", top 8, ["candidate"], ["candidate"], b_is_short N⟩
def d_is_name : DD := ⟨"is_name", top 9, ["candidate", "letter"], ["candidate"], b_is_name N⟩
def d_is_sum : DD := ⟨"is_sum", top 12, ["value", "term", "factor", "name", "names", "one", "other"], ["value"], b_is_sum N⟩
def d_is_place : DD := ⟨"is_place", top 13, ["value"], ["value"], b_is_place N⟩
def d_is_deed : DD := ⟨"is_deed", top 14, ["value"], ["value"], b_is_deed N⟩
def d_clash : DD := ⟨"clash", top 15, ["one", "other"], ["one", "other"], b_clash N⟩
def d_do_clash : DD := ⟨"do_clash", top 16, ["one", "other", "value"], ["one", "other"], b_do_clash N⟩
def d_apply : DD := ⟨"apply", top 18, ["deed", "item", "value", "amount"], ["deed", "item", "value", "amount"], b_apply N⟩
def d__law_pool : DD := ⟨"_law_pool", top 20, ["_law_script", "_law_k", "_law_cell", "_law_size", "_law_seed"], ["_law_script", "_law_k"], b__law_pool N⟩
def d__law_draw : DD := ⟨"_law_draw", top 21, ["_law_pool_here", "_law_count", "_law_found"], ["_law_pool_here", "_law_count"], b__law_draw N⟩
def d__law_sum : DD := ⟨"_law_sum", top 22, ["_law_pool_here", "_law_names", "_law_total", "_law_turn", "_law_name", "_law_terms"], ["_law_pool_here", "_law_names"], b__law_sum N⟩
def d__law_deed : DD := ⟨"_law_deed", top 23, ["_law_pool_here", "_law_params", "_law_known", "_law_some", "_law_place", "_law_word"], ["_law_pool_here", "_law_params", "_law_known"], b__law_deed N⟩
def d__law_clash : DD := ⟨"_law_clash", top 24, ["_law_one", "_law_other"], ["_law_one", "_law_other"], b__law_clash N⟩
def d__law_error : DD := ⟨"_law_error", top 25, ["_law_one", "_law_other", "e"], ["_law_one", "_law_other"], b__law_error N⟩
def d__law_amount : DD := ⟨"_law_amount", top 26, ["_law_deed_here", "_law_spot", "_law_free", "_law_names", "_law_factor", "_law_name"], ["_law_deed_here", "_law_spot", "_law_free"], b__law_amount N⟩
def d__law_same_ends : DD := ⟨"_law_same_ends", top 27, ["_law_one", "_law_other", "_law_value", "_law_first", "_law_second", "_law_deed_here", "_law_whole", "_law_spot", "_law_item", "_law_found"], ["_law_one", "_law_other", "_law_value", "_law_first", "_law_second"], b__law_same_ends N⟩
def d_law : DD := ⟨"law", top 28, ["_law_script", "_law_k", "_law_pool_here", "_law_turn", "_law_one", "_law_other", "_law_number", "_law_value", "_law_first", "_law_second", "_law_odd"], ["_law_script"], b_law_K02 N⟩
def DS : List DD := [d_is_integer, d_is_short, d_is_name, d_is_sum, d_is_place, d_is_deed, d_clash, d_do_clash, d_apply, d__law_pool, d__law_draw, d__law_sum, d__law_deed, d__law_clash, d__law_error, d__law_amount, d__law_same_ends, d_law]
def x_InvalidItem : XDf := ⟨"InvalidItem", 1, 435761734006, 0, clsInit (top 2)⟩
def XS : List XDf := [x_InvalidItem]
def pg : Pg := ⟨[("is_integer", 0, ["candidate"]), ("is_short", 1, ["candidate"]), ("is_name", 2, ["candidate"]), ("is_sum", 3, ["value"]), ("is_place", 4, ["value"]), ("is_deed", 5, ["value"]), ("clash", 6, ["one", "other"]), ("do_clash", 7, ["one", "other"]), ("apply", 8, ["deed", "item", "value", "amount"]), ("_law_pool", 9, ["_law_script", "_law_k"]), ("_law_draw", 10, ["_law_pool_here", "_law_count"]), ("_law_sum", 11, ["_law_pool_here", "_law_names"]), ("_law_deed", 12, ["_law_pool_here", "_law_params", "_law_known"]), ("_law_clash", 13, ["_law_one", "_law_other"]), ("_law_error", 14, ["_law_one", "_law_other"]), ("_law_amount", 15, ["_law_deed_here", "_law_spot", "_law_free"]), ("_law_same_ends", 16, ["_law_one", "_law_other", "_law_value", "_law_first", "_law_second"]), ("law", 17, ["_law_script"])], [("RESERVED", .tup [.str [107, 105, 110, 100], .str [117, 110, 108, 105, 107, 101], .str [98, 97, 99, 107, 115], .str [97, 108, 111, 110, 101], .str [114, 101, 97, 100], .str [97, 100, 100], .str [114, 97, 105, 115, 101], .str [108, 111, 119, 101, 114], .str [112, 117, 116], .str [99, 104, 101, 99, 107], .str [99, 104, 111, 111, 115, 101], .str [111, 114], .str [101, 110, 100], .str [110, 111, 110, 101]]), ("MAX_LENGTH", .int 8), ("MAX_NUMBER", .int 10000000000000000000000000000000000000000000000000000000000000000000000000000000000000000000000000000), ("SUMMED", .tup [.str [97, 100, 100], .str [114, 97, 105, 115, 101], .str [108, 111, 119, 101, 114], .str [112, 117, 116]])], ["ValueError", "abs", "all", "bool", "int", "isinstance", "len", "max", "min", "range", "sorted", "str", "sum", "tuple", "zip"], [], [("InvalidItem", 1, 435761734006)], [("CutError", 0), ("InvalidItem", 1)], [(1, 0, true), (1, 1, true)], [(1, "CutError", true), (1, "ValueError", true)], [435761734006]⟩
theorem pf : DS.map DD.fd = PF := by rfl
theorem ck : DS.all (ckD pg 60) = true := by decide +kernel
theorem fns : fnsB pg DS = true := by decide +kernel
theorem hxc : pg.xc = XS.map fun x => (x.n, x.c, x.k) := by rfl
theorem sy : ∀ x ∈ XS, XSyn x := by
  intro x hx
  simp only [XS, List.mem_cons, List.not_mem_nil, or_false] at hx
  subst hx
  exact ⟨⟨_, _, rfl⟩, ⟨_, _, _, _, _, _, _, _, _, _, rfl, rfl⟩, fun _ _ _ _ _ _ _ _ _ => rfl, ⟨by decide +kernel, by decide +kernel⟩, rfl, rfl, rfl, rfl, rfl, rfl, rfl, by decide +kernel⟩
def loose : List Str := ["CutError", "InvalidItem", "RESERVED", "MAX_LENGTH", "MAX_NUMBER", "is_integer", "is_short", "is_name", "SUMMED", "is_sum", "is_place", "is_deed", "clash", "do_clash", "apply", "_law_pool", "_law_draw", "_law_sum", "_law_deed", "_law_clash", "_law_error", "_law_amount", "_law_same_ends"]
end K02


set_option Elab.async false
set_option linter.all false
set_option maxRecDepth 100000
set_option maxHeartbeats 0
namespace K02
open PySem PySem.Spec PyProof.Rows L2 FM
abbrev prg : Program := PySem.Challenge.pw_finestcuts_k02_whole_clashes_of_deeds
abbrev hk : PySem.W.Hook := hookV 5 prg.main.file pg DS XS
abbrev RR : PySem.W.OpenRow := PySem.W.OpenLaw.row PySem.Challenge.rw_finestcuts_k02_whole_clashes_of_deeds
def ob (s : PySem.W.SharedT) : ObF := obsVG 5 prg.main.file pg DS XS (HandSHeadRun.getT s)
theorem ob_eq (s : PySem.W.SharedT) : ob s = hk.obs s.abs := obsVG_eq (HandSHeadRun.getT_eq s)
theorem run (w : World) : HandSHeadRun.RunEq RR (PySem.W.view RR.prog [28]) hk ob 4000 loose w := by
  intro os
  kernel_rfl
end K02


set_option Elab.async false
set_option linter.all false
set_option maxRecDepth 100000
set_option maxHeartbeats 0
namespace K02
open PySem PySem.Spec PyProof.Rows L2 FM
theorem bt : ∀ d ∈ DS, BindT d := by
  intro d hd
  simp only [DS, List.mem_cons, List.not_mem_nil, or_false] at hd
  rcases hd with rfl | rfl | rfl | rfl | rfl | rfl | rfl | rfl | rfl | rfl | rfl | rfl | rfl | rfl | rfl | rfl | rfl | rfl
  all_goals first
    | exact fun _ _ _ _ _ _ us hl => match us, hl with | [_], _ => rfl
    | exact fun _ _ _ _ _ _ us hl => match us, hl with | [_, _], _ => rfl
    | exact fun _ _ _ _ _ _ us hl => match us, hl with | [_, _, _], _ => rfl
    | exact fun _ _ _ _ _ _ us hl => match us, hl with | [_, _, _, _], _ => rfl
    | exact fun _ _ _ _ _ _ us hl => match us, hl with | [_, _, _, _, _], _ => rfl
theorem facts {w : World} {K : PySem.W.Frag} {h : Heap} {mg : Str → Option Value} {f : Addr} (X : K.In h) (G : h.Ns mainGlobals mg) (hfa : mg ("law" : Str) = some (.ref f)) (c : SaysV prg.main.file pg DS XS K) :
    ∃ (fd : FuncData) (ca : Nat → Addr), (∀ (s : Shared) (v : Value), BindsTo s fd ⟨[v], []⟩ [("_law_script", v)]) ∧ ∀ base : Heap, FnOk prg w K mg base (CXs prg) 7 f fd ["_law_script"] (spOf ⟨K, ca⟩ (callF PF 60 7) 17 1) := by
  obtain ⟨fa, fd, B⟩ := defs_of X G c ck fns bt rfl sy hxc
  have hm := B.mgl 17 d_law rfl
  have e := hfa.symm.trans hm
  cases e
  have b := (B.fn 17 d_law rfl).bindsA (ps := ["_law_script"]) fun _ _ _ _ _ _ us hl => match us, hl with | [_], _ => rfl
  refine ⟨fd 17, caOf pg K, fun s v => b s [v] rfl, fun base => ?_⟩
  have z := B.ok (Pr := prg) (wo := w) (base := base) (F := 60) 7 17 d_law rfl
  rw [pf] at z
  exact FnOk.cx z fun outer H s E u s' q => ⟨w, q⟩
theorem ht : FL.HT N PF := ⟨⟨⟨⟨rfl, rfl, rfl, rfl, rfl, rfl⟩, rfl, rfl, rfl⟩, rfl, rfl, rfl, rfl⟩, rfl, rfl, rfl, rfl⟩
theorem law_plain (ns : List Int) : callF PF 60 7 17 [.m (.d (.scr (ns.map W.int)))] = .ok (.d (.bl true)) [] := FL.law_y ht (d := 0) rfl ns
end K02
open PySem PySem.W PySem.Calls PyProof.Rows
theorem PySem.Challenge.cw_finestcuts_k02_whole_clashes_of_deeds_holds : PySem.Challenge.rw_finestcuts_k02_whole_clashes_of_deeds.Holds := by
  w_on; o_law
  refine HandSHeadRun.head_any (r := K02.RR) (q := view K02.RR.prog [28]) (H := K02.hk) (ob := K02.ob) (M := 4000) (loose := K02.loose) (d := HandSHeadRun.topDef K02.RR.prog 28) (kwd := []) K02.ob_eq
    (by kernel_rfl) (fun s => by kernel_rfl) K02.run (by kernel_rfl) (by kernel_rfl) (by kernel_rfl) (by rfl) (by first | assumption | decide +kernel) (by decide +kernel) ⟨rfl, rfl, rfl, rfl, rfl, by decide +kernel⟩ ?hw ?hc
  case hw => w_witness2
  case hc =>
    refine L2.walk_ofE (l := PySem.Challenge.rw_finestcuts_k02_whole_clashes_of_deeds) (n := 63) (k := 7) (x := "_law_script") (CX := FM.CXs K02.prg) rfl (by decide) (by kernel_rfl) ⟨rfl, by decide, by decide⟩ ?F (fun _ _ _ _ z => FM.cxs_no z)
    intro w mg fa h Y G hmg0
    obtain ⟨K, KX, c⟩ := Y
    have hmg : mg ("law" : PySem.Str) = some (.ref fa) := by
      have e : (HandSHeadRun.topDef K02.RR.prog 28).name = ("law" : PySem.Str) := by kernel_rfl
      rw [← e]
      exact hmg0
    obtain ⟨fd, ca, hb, hF⟩ := K02.facts (w := w) KX G hmg c
    exact ⟨K, fd, FM.spOf ⟨K, ca⟩ (FM.callF K02.PF 60 7) 17 1, KX, hb, fun H a ns hl ho hS => FM.sp_law ho hS (K02.law_plain ns), fun base _ _ => hF base⟩

