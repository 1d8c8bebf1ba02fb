import PyProof.Rows.All
import Wide.All
import OpenK.AllK
import Wide.FinOn
import HandS.ForMost
import HandS.IsInst
import HandS.Wide
import HandS.Style
import HandS.More
import KE.DataEq
import HandS.Text
import KE.IntTextLaws
import KE.KStateDown
import HandS.Ends
import HandS.Words
import HandS.Defaults
import HandS.Head0
import HandS.Head1
import HandS.Head2
import HandS.HeadEnd
import HandS.HeadHook1
import HandS.HeadHook2
import PySem.Challenge.RW_finestcuts_k01_sums_and_deeds
set_option linter.all false
/-! The evaluator: plain values, a heap by binary addresses, a small form of programs, and their evaluation.
    Tuples, ints and texts are plain data; lists and dicts are cells of the heap. -/
namespace VM

/-! ### addresses and maps -/
inductive Ad where
  | one | o (a : Ad) | i (a : Ad)
  deriving DecidableEq
namespace Ad
def succ : Ad → Ad
  | one => o one
  | o a => i a
  | i a => o a.succ
def num : Ad → Nat
  | one => 1
  | o a => 2 * a.num
  | i a => 2 * a.num + 1
theorem num_pos : ∀ a : Ad, 0 < a.num
  | one => Nat.one_pos
  | o a => by have := num_pos a; simp only [num]; omega
  | i a => by simp only [num]; omega
theorem num_inj : ∀ {a b : Ad}, a.num = b.num → a = b
  | one, one, _ => rfl
  | one, o b, h => by simp only [num] at h; have := num_pos b; omega
  | one, i b, h => by simp only [num] at h; have := num_pos b; omega
  | o a, one, h => by simp only [num] at h; have := num_pos a; omega
  | i a, one, h => by simp only [num] at h; have := num_pos a; omega
  | o a, i b, h => by simp only [num] at h; omega
  | i a, o b, h => by simp only [num] at h; omega
  | o a, o b, h => by simp only [num] at h; rw [num_inj (a := a) (b := b) (by omega)]
  | i a, i b, h => by simp only [num] at h; rw [num_inj (a := a) (b := b) (by omega)]
theorem num_succ : ∀ a : Ad, a.succ.num = a.num + 1
  | one => rfl
  | o a => rfl
  | i a => by simp only [succ, num]; rw [num_succ a]; omega
def beq : Ad → Ad → Bool
  | one, one => true
  | o a, o b => beq a b
  | i a, i b => beq a b
  | _, _ => false
theorem beq_iff : ∀ {a b : Ad}, beq a b = true ↔ a = b
  | one, one => by simp [beq]
  | o a, o b => by simp only [beq]; rw [beq_iff (a := a) (b := b)]; simp
  | i a, i b => by simp only [beq]; rw [beq_iff (a := a) (b := b)]; simp
  | one, o b => by simp [beq]
  | one, i b => by simp [beq]
  | o a, one => by simp [beq]
  | i a, one => by simp [beq]
  | o a, i b => by simp [beq]
  | i a, o b => by simp [beq]
end Ad

inductive PM (α : Type) where
  | lf | nd (l : PM α) (x : Option α) (r : PM α)
namespace PM
variable {α : Type}
def get : PM α → Ad → Option α
  | lf, _ => none
  | nd _ x _, .one => x
  | nd l _ _, .o a => get l a
  | nd _ _ r, .i a => get r a
def set : Ad → α → PM α → PM α
  | .one, v, lf => nd lf (some v) lf
  | .one, v, nd l _ r => nd l (some v) r
  | .o a, v, lf => nd (set a v lf) none lf
  | .o a, v, nd l x r => nd (set a v l) x r
  | .i a, v, lf => nd lf none (set a v lf)
  | .i a, v, nd l x r => nd l x (set a v r)
theorem get_lf (a : Ad) : (lf : PM α).get a = none := by cases a <;> rfl
theorem get_same (v : α) : ∀ (a : Ad) (m : PM α), (m.set a v).get a = some v
  | .one, lf => rfl
  | .one, nd _ _ _ => rfl
  | .o a, lf => get_same v a lf
  | .o a, nd l _ _ => get_same v a l
  | .i a, lf => get_same v a lf
  | .i a, nd _ _ r => get_same v a r
theorem get_ne (v : α) : ∀ {a b : Ad} (m : PM α), b ≠ a → (m.set a v).get b = m.get b
  | .one, .one, _, h => absurd rfl h
  | .one, .o b, lf, _ => get_lf b
  | .one, .i b, lf, _ => get_lf b
  | .one, .o b, nd _ _ _, _ => rfl
  | .one, .i b, nd _ _ _, _ => rfl
  | .o a, .one, lf, _ => rfl
  | .o a, .one, nd _ _ _, _ => rfl
  | .o a, .i b, lf, _ => get_lf b
  | .o a, .i b, nd _ _ _, _ => rfl
  | .o a, .o b, lf, h => (get_ne v (a := a) (b := b) lf (fun e => h (e ▸ rfl))).trans (get_lf b)
  | .o a, .o b, nd l _ _, h => get_ne v (a := a) (b := b) l (fun e => h (e ▸ rfl))
  | .i a, .one, lf, _ => rfl
  | .i a, .one, nd _ _ _, _ => rfl
  | .i a, .o b, lf, _ => get_lf b
  | .i a, .o b, nd _ _ _, _ => rfl
  | .i a, .i b, lf, h => (get_ne v (a := a) (b := b) lf (fun e => h (e ▸ rfl))).trans (get_lf b)
  | .i a, .i b, nd _ _ r, h => get_ne v (a := a) (b := b) r (fun e => h (e ▸ rfl))
end PM

/-! ### values, objects, heaps -/
inductive W where
  | non | bl (b : Bool) | int (i : Int) | str (s : List Nat) | tup (ws : List W) | lis (ws : List W) | ref (p : Ad)
inductive O where
  | lst (ws : List W) | frz (k : Bool) (ws : List W) | dic (kvs : List (W × W))

structure VH where
  m : PM O
  nx : Ad
def VH.get (h : VH) (p : Ad) : Option O := h.m.get p
def VH.set (h : VH) (p : Ad) (o : O) : VH := ⟨h.m.set p o, h.nx⟩
def VH.push (h : VH) (o : O) : VH := ⟨h.m.set h.nx o, h.nx.succ⟩
theorem VH.get_set_same (h : VH) (p : Ad) (o : O) : (h.set p o).get p = some o := PM.get_same o p h.m
theorem VH.get_set_ne (h : VH) {p q : Ad} (o : O) (n : q ≠ p) : (h.set p o).get q = h.get q := PM.get_ne o h.m n
theorem VH.get_push_same (h : VH) (o : O) : (h.push o).get h.nx = some o := PM.get_same o h.nx h.m
theorem VH.get_push_ne (h : VH) {q : Ad} (o : O) (n : q ≠ h.nx) : (h.push o).get q = h.get q := PM.get_ne o h.m n

/-- equality of texts -/
def eqS : List Nat → List Nat → Bool
  | [], [] => true
  | a :: as, b :: bs => Nat.beq a b && eqS as bs
  | _, _ => false
theorem eqS_iff : ∀ {a b : List Nat}, eqS a b = true ↔ a = b
  | [], [] => by simp [eqS]
  | [], _ :: _ => by simp [eqS]
  | _ :: _, [] => by simp [eqS]
  | a :: as, b :: bs => by simp only [eqS, Bool.and_eq_true, Nat.beq_eq, List.cons.injEq]; rw [eqS_iff (a := as) (b := bs)]
/-- the order of texts -/
def ltS : List Nat → List Nat → Bool
  | _, [] => false
  | [], _ :: _ => true
  | a :: as, b :: bs => if Nat.blt a b then true else if Nat.beq a b then ltS as bs else false

/-! the very same value -/
mutual
def beqW : W → W → Bool
  | .non, .non => true
  | .bl a, .bl b => a == b
  | .int a, .int b => decide (a = b)
  | .str a, .str b => eqS a b
  | .tup a, .tup b => beqWs a b
  | .lis a, .lis b => beqWs a b
  | .ref a, .ref b => a.beq b
  | _, _ => false
def beqWs : List W → List W → Bool
  | [], [] => true
  | a :: as, b :: bs => beqW a b && beqWs as bs
  | _, _ => false
end
mutual
theorem beqW_iff : ∀ {a b : W}, beqW a b = true → a = b
  | .non, b, h => by cases b <;> first | rfl | cases h
  | .bl a, b, h => by
    cases b <;> first | cases h | (simp only [beqW, beq_iff_eq] at h; rw [h])
  | .int a, b, h => by
    cases b <;> first | cases h | (simp only [beqW, decide_eq_true_eq] at h; rw [h])
  | .str a, b, h => by
    cases b <;> first | cases h | (simp only [beqW] at h; rw [eqS_iff.mp h])
  | .tup a, b, h => by
    cases b <;> first | cases h | (simp only [beqW] at h; rw [beqWs_iff h])
  | .lis a, b, h => by
    cases b <;> first | cases h | (simp only [beqW] at h; rw [beqWs_iff h])
  | .ref a, b, h => by
    cases b <;> first | cases h | (simp only [beqW] at h; rw [Ad.beq_iff.mp h])
theorem beqWs_iff : ∀ {a b : List W}, beqWs a b = true → a = b
  | [], b, h => by cases b <;> first | rfl | cases h
  | a :: as, b, h => by
    cases b with
    | nil => cases h
    | cons b bs =>
      simp only [beqWs, Bool.and_eq_true] at h
      rw [beqW_iff h.1, beqWs_iff h.2]
end
mutual
theorem beqW_self : ∀ a : W, beqW a a = true
  | .non => rfl
  | .bl a => by simp [beqW]
  | .int a => by simp [beqW]
  | .str a => by simp [beqW, eqS_iff]
  | .tup a => by simp only [beqW]; exact beqWs_self a
  | .lis a => by simp only [beqW]; exact beqWs_self a
  | .ref a => by simp [beqW, Ad.beq_iff]
theorem beqWs_self : ∀ a : List W, beqWs a a = true
  | [] => rfl
  | a :: as => by simp only [beqWs, Bool.and_eq_true]; exact ⟨beqW_self a, beqWs_self as⟩
end

/-! data: no cell is met, nested at most n deep -/
mutual
def okW : Nat → W → Bool
  | _, .ref _ => false
  | 0, .tup _ => false
  | n + 1, .tup ws => okWs n ws
  | 0, .lis _ => false
  | n + 1, .lis ws => okWs n ws
  | _, _ => true
def okWs : Nat → List W → Bool
  | _, [] => true
  | n, w :: ws => okW n w && okWs n ws
end
/-! Python's == of data -/
mutual
def eqP : W → W → Bool
  | .non, .non => true
  | .bl a, .bl b => a == b
  | .int a, .int b => decide (a = b)
  | .bl a, .int b => decide ((if a then 1 else 0 : Int) = b)
  | .int a, .bl b => decide (a = (if b then 1 else 0 : Int))
  | .str a, .str b => eqS a b
  | .tup a, .tup b => eqPs a b
  | .lis a, .lis b => eqPs a b
  | _, _ => false
def eqPs : List W → List W → Bool
  | [], [] => true
  | a :: as, b :: bs => eqP a b && eqPs as bs
  | _, _ => false
end
def eqW (a b : W) : Option Bool := if okW 60 a && okW 60 b then some (eqP a b) else none

/-! ### results -/
inductive Res (α : Type) where
  | ok (a : α) (h : VH) | bad
def Res.bind {α β : Type} (r : Res α) (f : α → VH → Res β) : Res β := match r with
  | .ok a h => f a h
  | .bad => .bad
theorem Res.bind_ok {α β : Type} {r : Res α} {f : α → VH → Res β} {b : β} {h' : VH} (e : r.bind f = .ok b h') : ∃ a h1, r = .ok a h1 ∧ f a h1 = .ok b h' := by
  cases r with
  | ok a h => exact ⟨a, h, rfl, e⟩
  | bad => cases e
def Res.of {α : Type} (o : Option α) (h : VH) : Res α := match o with
  | some a => .ok a h
  | none => .bad
theorem Res.of_ok {α : Type} {o : Option α} {h h' : VH} {a : α} (e : Res.of o h = .ok a h') : o = some a ∧ h' = h := by
  cases o with
  | none => cases e
  | some b => cases e; exact ⟨rfl, rfl⟩

abbrev Env := List (Option W)
inductive SRes where
  | nx (r : Env) (h : VH) | rt (w : W) (h : VH) | bk (r : Env) (h : VH) | ct (r : Env) (h : VH) | bad

/-- an operand: a value, or a list that was just made -/
inductive Arg where
  | w (w : W) | fr (ws : List W)
def cell (h : VH) (p : Ad) : Option (List W) := match h.get p with
  | some (.lst ws) => some ws
  | some (.frz _ ws) => some ws
  | _ => none
/-- the items of a list or a tuple -/
def seqOf (h : VH) : Arg → Option (List W)
  | .fr ws => some ws
  | .w (.tup ws) => some ws
  | .w (.lis ws) => some ws
  | .w (.ref p) => cell h p
  | _ => none
/-- the items of a list -/
def lstOf (h : VH) : Arg → Option (List W)
  | .fr ws => some ws
  | .w (.lis ws) => some ws
  | .w (.ref p) => cell h p
  | _ => none

/-- the items of a list of the program's own -/
def ownOf (h : VH) : Arg → Option (List W)
  | .fr ws => some ws
  | .w (.lis ws) => some ws
  | .w (.ref p) => (match h.get p with
    | some (.lst ws) => some ws
    | _ => none)
  | _ => none

/-! ### the form of programs -/
inductive B2 where
  | add | sub | mul | fdiv | mod | pow
  deriving DecidableEq
inductive C2 where
  | eq | ne | lt | le | gt | ge | is | isn | inn | nin
  deriving DecidableEq
inductive Ty where
  | int | bool | str | tuple | list | dict
  deriving DecidableEq
inductive Bt where
  | len | abs | int | max | min | all | any | sum | tuple
  deriving DecidableEq

inductive IG where
  | nm (i : Nat) | tp (gs : List IG)
mutual
inductive IE where
  | var (i : Nat)
  | cst (w : W)
  | tup (es : List IE)
  | new (l : IL)
  | lis (l : IL)
  | ndic
  | bin (op : B2) (a b : IE)
  | neg (a : IE)
  | cmp (op : C2) (a b : IV)
  | chn (op op' : C2) (a b c : IE)
  | and (es : List IE)
  | or (es : List IE)
  | not (a : IE)
  | ite (t : IT) (a b : IE)
  | idx (a : IV) (i : IE)
  | didx (a i : IE)
  | dget (a k x : IE)
  | call (f : Nat) (es : List IE)
  | callK (f : Nat) (es : List IE)
  | isi (e : IE) (t : Ty)
  | blt (f : Bt) (vs : List IV)
  | app (a e : IE)
inductive IV where
  | e (e : IE)
  | l (l : IL)
inductive IT where
  | val (e : IE)
  | cmp (op : C2) (a b : IV)
  | chn (op op' : C2) (a b c : IE)
  | and (ts : List IT)
  | or (ts : List IT)
  | not (t : IT)
inductive IL where
  | lst (es : List IE)
  | comp (elt : IE) (g : IG) (own : List Nat) (it : II) (t : Option IT)
  | cat (a b : IV)
  | slc (a : IV) (lo hi : Option IE)
  | lof (a : IV)
  | srt (a : IV)
inductive II where
  | v (a : IV)
  | rng (a : IE)
  | rng2 (a b : IE)
  | zip (a b : IV)
  | enm (a : IV)
end
inductive IS where
  | exp (e : IE)
  | asg (g : IG) (e : IE)
  | par (i j : Nat) (a b : IE)
  | sub (a i e : IE)
  | dsub (a i e : IE)
  | ret (e : IE)
  | ifs (t : IT) (a b : List IS)
  | for (g : IG) (it : II) (body : List IS)
  | whl (t : IT) (body : List IS)
  | lcp (i : Nat) (elt : IE) (g : IG) (own : List Nat) (it : II) (t : Option IT)
  | lc (i : Nat) (elt : IE) (g : IG) (own : List Nat) (it : II) (t : Option IT)
  | pass | brk | cont

/-! ### operations -/
/-- below a million bits together, or one of them small -/
def mulOk (i j : Int) : Bool := Nat.blt (i.natAbs.log2 + j.natAbs.log2) 1000000 || Nat.blt i.natAbs (2 ^ 64) || Nat.blt j.natAbs (2 ^ 64)
def size : Nat := 1000000
def reps {α : Type} (a : List α) : Nat → List α
  | 0 => []
  | n + 1 => a ++ reps a n
def arith : B2 → W → W → Option W
  | .add, .int i, .int j => some (.int (i + j))
  | .add, .str a, .str b => if Nat.ble (a.length + b.length) size then some (.str (a ++ b)) else none
  | .mul, .str a, .int j => if decide (0 ≤ j) && Nat.ble (a.length * j.toNat) size && decide (j ≤ 1000000) then some (.str (reps a j.toNat)) else none
  | .sub, .int i, .int j => some (.int (i - j))
  | .mul, .int i, .int j => if mulOk i j then some (.int (i * j)) else none
  | .fdiv, .int i, .int j => if decide (0 < j) && Nat.blt j.natAbs.log2 9000 then some (.int (i / j)) else none
  | .mod, .int i, .int j => if decide (0 < j) then some (.int (i % j)) else none
  | .pow, .int i, .int j => if decide (0 ≤ j) && decide (j ≤ 1000) && Nat.blt i.natAbs (2 ^ 64) then some (.int (i ^ j.toNat)) else none
  | _, _, _ => none

/-- a list as data -/
def nrm (h : VH) : Arg → Option W
  | .fr ws => some (.lis ws)
  | .w (.ref p) => (cell h p).map W.lis
  | .w w => some w
def eqA (h : VH) (a b : Arg) : Option Bool := (nrm h a).bind fun x => (nrm h b).bind fun y => eqW x y
def inW (x : W) (ws : List W) : Bool := ws.any fun y => eqP y x
def cmpA (h : VH) : C2 → Arg → Arg → Option Bool
  | .eq, a, b => eqA h a b
  | .ne, a, b => (eqA h a b).map (!·)
  | .lt, .w (.int i), .w (.int j) => some (decide (i < j))
  | .le, .w (.int i), .w (.int j) => some (decide (i ≤ j))
  | .gt, .w (.int i), .w (.int j) => some (decide (j < i))
  | .ge, .w (.int i), .w (.int j) => some (decide (j ≤ i))
  | .lt, .w (.str a), .w (.str b) => some (ltS a b)
  | .le, .w (.str a), .w (.str b) => some (!ltS b a)
  | .gt, .w (.str a), .w (.str b) => some (ltS b a)
  | .ge, .w (.str a), .w (.str b) => some (!ltS a b)
  | .is, .w a, .w .non => some (match a with | .non => true | _ => false)
  | .isn, .w a, .w .non => some (match a with | .non => false | _ => true)
  | .is, .w (.bl a), .w (.bl b) => some (a == b)
  | .isn, .w (.bl a), .w (.bl b) => some (!(a == b))
  | .inn, .w x, b => if okW 60 x then (seqOf h b).bind fun ws => if okWs 60 ws then some (inW x ws) else none else none
  | .nin, .w x, b => if okW 60 x then (seqOf h b).bind fun ws => if okWs 60 ws then some (!inW x ws) else none else none
  | _, _, _ => none

/-- a place of a sequence -/
def ix (n : Nat) (i : Int) : Option Nat := match i with
  | .ofNat k => if Nat.blt k n then some k else none
  | .negSucc k => if Nat.blt k n then some (n - (k + 1)) else none
def nth {α : Type} : List α → Nat → Option α
  | [], _ => none
  | a :: _, 0 => some a
  | _ :: as, n + 1 => nth as n
def idxA (h : VH) (a : Arg) (i : W) : Option W := match i with
  | .int k => (match a with
    | .w (.str s) => if Nat.ble s.length size then (ix s.length k).bind fun j => (nth s j).map fun c => .str [c] else none
    | a => (seqOf h a).bind fun ws => (ix ws.length k).bind fun j => nth ws j)
  | _ => none
/-- the bound of a slice -/
def bnd (n d : Nat) : Option Int → Nat
  | none => d
  | some (.ofNat k) => min k n
  | some (.negSucc k) => n - (k + 1)
def cut {α : Type} (ws : List α) (lo hi : Option Int) : List α := (ws.drop (bnd ws.length 0 lo)).take (bnd ws.length ws.length hi - bnd ws.length 0 lo)

def keyOk : W → Bool
  | .int _ => true
  | .str _ => true
  | _ => false
def dfind (k : W) : List (W × W) → Option W
  | [] => none
  | kv :: r => if beqW kv.1 k then some kv.2 else dfind k r
def dmap (k v : W) : List (W × W) → List (W × W)
  | [] => []
  | kv :: r => (if beqW kv.1 k then (kv.1, v) else kv) :: dmap k v r
def dput (k v : W) (kvs : List (W × W)) : List (W × W) := match dfind k kvs with
  | some _ => dmap k v kvs
  | none => kvs ++ [(k, v)]
def dicOf (h : VH) : W → Option (Ad × List (W × W))
  | .ref p => match h.get p with
    | some (.dic kvs) => some (p, kvs)
    | _ => none
  | _ => none

def tyIs (h : VH) : Ty → W → Option Bool
  | .int, .int _ => some true
  | .int, .bl _ => some true
  | .bool, .bl _ => some true
  | .str, .str _ => some true
  | .tuple, .tup _ => some true
  | .list, .lis _ => some true
  | .list, .ref p => (match h.get p with | some (.lst _) => some true | some (.frz _ _) => some true | some (.dic _) => some false | none => none)
  | .dict, .ref p => (match h.get p with | some (.lst _) => some false | some (.frz _ _) => some false | some (.dic _) => some true | none => none)
  | _, .ref p => (match h.get p with | some _ => some false | none => none)
  | _, _ => some false

def bls : List W → Option (List Bool)
  | [] => some []
  | .bl b :: r => (bls r).map (b :: ·)
  | _ => none
def nums : List W → Option (List Int)
  | [] => some []
  | .int b :: r => (nums r).map (b :: ·)
  | _ => none
def txts : List W → Option (List (List Nat))
  | [] => some []
  | .str b :: r => (txts r).map (b :: ·)
  | _ => none
def digs (s : List Nat) : Bool := s.all fun c => Nat.ble 48 c && Nat.ble c 57
def dval (s : List Nat) : Nat := s.foldl (fun acc c => acc * 10 + (c - 48)) 0
def bltF (h : VH) : Bt → List Arg → Option W
  | .len, [.w (.str s)] => if Nat.ble s.length size then some (.int s.length) else none
  | .len, [.w (.ref p)] => (match h.get p with
    | some (.lst ws) => some (.int ws.length)
    | some (.frz _ ws) => some (.int ws.length)
    | some (.dic kvs) => some (.int kvs.length)
    | none => none)
  | .len, [a] => (seqOf h a).map fun ws => .int ws.length
  | .abs, [.w (.int i)] => some (.int (if i < 0 then -i else i))
  | .int, [.w (.int i)] => some (.int i)
  | .int, [.w (.bl b)] => some (.int (if b then 1 else 0))
  | .int, [.w (.str s)] => if digs s && Nat.blt 0 s.length && Nat.ble s.length 640 then some (.int (dval s : Nat)) else none
  | .max, [.w (.int i), .w (.int j)] => some (.int (if j > i then j else i))
  | .min, [.w (.int i), .w (.int j)] => some (.int (if j < i then j else i))
  | .all, [a] => (lstOf h a).bind fun ws => (bls ws).map fun bs => .bl (bs.all id)
  | .any, [a] => (lstOf h a).bind fun ws => (bls ws).map fun bs => .bl (bs.any id)
  | .sum, [a] => (lstOf h a).bind fun ws => (nums ws).map fun ns => .int ns.sum
  | .tuple, [a] => (seqOf h a).map fun ws => .tup ws
  | _, _ => none

def insS (a : List Nat) : List (List Nat) → List (List Nat)
  | [] => [a]
  | b :: r => if ltS b a then b :: insS a r else a :: b :: r
def sortS : List (List Nat) → List (List Nat)
  | [] => []
  | a :: r => insS a (sortS r)
/-- sorted: of texts -/
def sortF (h : VH) (a : Arg) : Option (List W) := match a with
  | .w (.ref p) => (match h.get p with
    | some (.dic kvs) => (txts (kvs.map (·.1))).bind fun ss => if Nat.blt ss.length 64 then some ((sortS ss).map W.str) else none
    | _ => (cell h p).bind fun ws => (txts ws).bind fun ss => if Nat.blt ss.length 64 then some ((sortS ss).map W.str) else none)
  | a => (lstOf h a).bind fun ws => (txts ws).bind fun ss => if Nat.blt ss.length 64 then some ((sortS ss).map W.str) else none

/-! ### evaluation, one level over another -/
structure SF where
  E : IE → Env → VH → Res W
  V : IV → Env → VH → Res Arg
  T : IT → Env → VH → Res Bool
  L : IL → Env → VH → Res (List W)
  S : List IS → Env → VH → SRes
  Wh : IT → List IS → Env → VH → SRes
def SF.bot : SF := ⟨fun _ _ _ => .bad, fun _ _ _ => .bad, fun _ _ _ => .bad, fun _ _ _ => .bad, fun _ _ _ => .bad, fun _ _ _ _ => .bad⟩

def evs {α β : Type} (f : α → Env → VH → Res β) : List α → Env → VH → Res (List β)
  | [], _, h => .ok [] h
  | e :: es, r, h => (f e r h).bind fun w h1 => (evs f es r h1).bind fun ws h2 => .ok (w :: ws) h2

mutual
def bindG : IG → W → Env → Option Env
  | .nm i, w, r => some (r.set i (some w))
  | .tp gs, .tup ws, r => bindGs gs ws r
  | _, _, _ => none
def bindGs : List IG → List W → Env → Option Env
  | [], [], r => some r
  | g :: gs, w :: ws, r => (bindG g w r).bind fun r1 => bindGs gs ws r1
  | _, _, _ => none
end
def wipe (r : Env) : List Nat → Env
  | [] => r
  | v :: vs => (wipe r vs).set v none

/-- is the list at p still this one -/
def still (ws : List W) (h : VH) : W → Bool
  | .ref p => (match cell h p with
    | some us => beqWs us ws
    | none => false)
  | _ => true
/-- what is walked: the items, and the lists that must stay as they are -/
structure Wk where
  ws : List W
  ks : List (W × List W)
def Wk.still (k : Wk) (h : VH) : Bool := k.ks.all fun q => VM.still q.2 h q.1
def iota (lo : Int) : Nat → List W
  | 0 => []
  | n + 1 => .int lo :: iota (lo + 1) n
def zipW : List W → List W → List W
  | a :: as, b :: bs => .tup [a, b] :: zipW as bs
  | _, _ => []
def enmW (k : Int) : List W → List W
  | [] => []
  | a :: as => .tup [.int k, a] :: enmW (k + 1) as
def keep (a : Arg) (ws : List W) : List (W × List W) := match a with
  | .w (.ref p) => [(.ref p, ws)]
  | _ => []
def walkA (h : VH) (a : Arg) : Option Wk := match a with
  | .w (.str s) => some ⟨s.map fun c => .str [c], []⟩
  | a => (seqOf h a).map fun ws => ⟨ws, keep a ws⟩

def stepI (s : SF) : II → Env → VH → Res Wk
  | .v a, r, h => (s.V a r h).bind fun x h1 => Res.of (walkA h1 x) h1
  | .rng a, r, h => (s.E a r h).bind fun x h1 => match x with
    | .int n => if decide (n ≤ 1000000) && decide (-1000000 ≤ n) then .ok ⟨iota 0 n.toNat, []⟩ h1 else .bad
    | _ => .bad
  | .rng2 a b, r, h => (s.E a r h).bind fun x h1 => (s.E b r h1).bind fun y h2 => match x, y with
    | .int m, .int n => if decide (n ≤ 1000000) && decide (-1000000 ≤ n) && decide (m ≤ 1000000) && decide (-1000000 ≤ m) then .ok ⟨iota m (n - m).toNat, []⟩ h2 else .bad
    | _, _ => .bad
  | .zip a b, r, h => (s.V a r h).bind fun x h1 => (s.V b r h1).bind fun y h2 => Res.of ((lstOf h2 x).bind fun us => (lstOf h2 y).map fun ws => ⟨zipW us ws, keep x us ++ keep y ws⟩) h2
  | .enm a, r, h => (s.V a r h).bind fun x h1 => Res.of ((lstOf h1 x).map fun ws => ⟨enmW 0 ws, keep x ws⟩) h1

def compL (k : Wk) (f : W → VH → Res (Option W)) : List W → VH → Res (List W)
  | [], h => if k.still h then .ok [] h else .bad
  | w :: ws, h => if k.still h then (f w h).bind fun o h1 => (compL k f ws h1).bind fun us h2 => match o with
    | some u => .ok (u :: us) h2
    | none => .ok us h2
    else .bad
def optE (s : SF) (e : Option IE) (r : Env) (h : VH) : Res (Option Int) := match e with
  | none => .ok none h
  | some e => (s.E e r h).bind fun x h1 => match x with
    | .int i => .ok (some i) h1
    | _ => .bad
def turnL (s : SF) (elt : IE) (g : IG) (t : Option IT) (r : Env) (w : W) (h : VH) : Res (Option W) := match bindG g w r with
  | none => .bad
  | some r1 => match t with
    | none => (s.E elt r1 h).bind fun u h1 => .ok (some u) h1
    | some t => (s.T t r1 h).bind fun b h1 => if b then (s.E elt r1 h1).bind fun u h2 => .ok (some u) h2 else .ok none h1
def stepL (s : SF) : IL → Env → VH → Res (List W)
  | .lst es, r, h => evs s.E es r h
  | .comp elt g own it t, r, h => (stepI s it r h).bind fun k h1 => if Nat.ble k.ws.length size then compL k (turnL s elt g t (wipe r own)) k.ws h1 else .bad
  | .cat a b, r, h => (s.V a r h).bind fun x h1 => (s.V b r h1).bind fun y h2 => Res.of ((ownOf h2 x).bind fun us => (ownOf h2 y).bind fun ws => if Nat.ble (us.length + ws.length) size then some (us ++ ws) else none) h2
  | .slc a lo hi, r, h => (s.V a r h).bind fun x h1 => (optE s lo r h1).bind fun l h2 => (optE s hi r h2).bind fun u h3 => Res.of ((lstOf h3 x).map fun ws => cut ws l u) h3
  | .lof a, r, h => (s.V a r h).bind fun x h1 => Res.of (seqOf h1 x) h1
  | .srt a, r, h => (s.V a r h).bind fun x h1 => Res.of (sortF h1 x) h1
def stepV (s : SF) : IV → Env → VH → Res Arg
  | .e e, r, h => (s.E e r h).bind fun w h1 => .ok (.w w) h1
  | .l l, r, h => (s.L l r h).bind fun ws h1 => .ok (.fr ws) h1
def getR : Env → Nat → Option W
  | [], _ => none
  | o :: _, 0 => o
  | _ :: r, n + 1 => getR r n
def andE (s : SF) : List IE → Env → VH → Res W
  | [], _, _ => .bad
  | [e], r, h => s.E e r h
  | e :: es, r, h => (s.E e r h).bind fun w h1 => match w with
    | .bl true => andE s es r h1
    | .bl false => .ok (.bl false) h1
    | _ => .bad
def orE (s : SF) : List IE → Env → VH → Res W
  | [], _, _ => .bad
  | [e], r, h => s.E e r h
  | e :: es, r, h => (s.E e r h).bind fun w h1 => match w with
    | .bl true => .ok (.bl true) h1
    | .bl false => orE s es r h1
    | _ => .bad
def andT (s : SF) : List IT → Env → VH → Res Bool
  | [], _, _ => .bad
  | [e], r, h => s.T e r h
  | e :: es, r, h => (s.T e r h).bind fun b h1 => if b then andT s es r h1 else .ok false h1
def orT (s : SF) : List IT → Env → VH → Res Bool
  | [], _, _ => .bad
  | [e], r, h => s.T e r h
  | e :: es, r, h => (s.T e r h).bind fun b h1 => if b then .ok true h1 else orT s es r h1
def stepT (s : SF) : IT → Env → VH → Res Bool
  | .val e, r, h => (s.E e r h).bind fun w h1 => match w with
    | .bl b => .ok b h1
    | _ => .bad
  | .cmp op a b, r, h => (s.V a r h).bind fun x h1 => (s.V b r h1).bind fun y h2 => Res.of (cmpA h2 op x y) h2
  | .chn op op' a b d, r, h => (s.E a r h).bind fun x h1 => (s.E b r h1).bind fun y h2 => match cmpA h2 op (.w x) (.w y) with
    | some true => (s.E d r h2).bind fun z h3 => Res.of (cmpA h3 op' (.w y) (.w z)) h3
    | some false => .ok false h2
    | none => .bad
  | .and ts, r, h => andT s ts r h
  | .or ts, r, h => orT s ts r h
  | .not t, r, h => (s.T t r h).bind fun b h1 => .ok (!b) h1

abbrev CF := Nat → List W → VH → Res W
def stepE (c : CF) (s : SF) : IE → Env → VH → Res W
  | .var i, r, h => Res.of (getR r i) h
  | .cst w, _, h => .ok w h
  | .tup es, r, h => (evs s.E es r h).bind fun ws h1 => .ok (.tup ws) h1
  | .new l, r, h => (s.L l r h).bind fun ws h1 => .ok (.ref h1.nx) (h1.push (.lst ws))
  | .lis l, r, h => (s.L l r h).bind fun ws h1 => .ok (.lis ws) h1
  | .ndic, _, h => .ok (.ref h.nx) (h.push (.dic []))
  | .bin op a b, r, h => (s.E a r h).bind fun x h1 => (s.E b r h1).bind fun y h2 => Res.of (arith op x y) h2
  | .neg a, r, h => (s.E a r h).bind fun x h1 => match x with
    | .int i => .ok (.int (-i)) h1
    | _ => .bad
  | .cmp op a b, r, h => (s.V a r h).bind fun x h1 => (s.V b r h1).bind fun y h2 => Res.of ((cmpA h2 op x y).map W.bl) h2
  | .chn op op' a b d, r, h => (s.E a r h).bind fun x h1 => (s.E b r h1).bind fun y h2 => match cmpA h2 op (.w x) (.w y) with
    | some true => (s.E d r h2).bind fun z h3 => Res.of ((cmpA h3 op' (.w y) (.w z)).map W.bl) h3
    | some false => .ok (.bl false) h2
    | none => .bad
  | .and es, r, h => andE s es r h
  | .or es, r, h => orE s es r h
  | .not a, r, h => (s.E a r h).bind fun x h1 => match x with
    | .bl b => .ok (.bl (!b)) h1
    | _ => .bad
  | .ite t a b, r, h => (s.T t r h).bind fun x h1 => if x then s.E a r h1 else s.E b r h1
  | .idx a i, r, h => (s.V a r h).bind fun x h1 => (s.E i r h1).bind fun k h2 => Res.of (idxA h2 x k) h2
  | .didx a i, r, h => (s.E a r h).bind fun x h1 => (s.E i r h1).bind fun k h2 => Res.of ((dicOf h2 x).bind fun d => if keyOk k then dfind k d.2 else none) h2
  | .dget a k x, r, h => (s.E a r h).bind fun d h1 => match dicOf h1 d with
    | none => .bad
    | some _ => (s.E k r h1).bind fun k h2 => (s.E x r h2).bind fun x h3 => Res.of ((dicOf h3 d).bind fun d => if keyOk k then some ((dfind k d.2).getD x) else none) h3
  | .call f es, r, h => (evs s.E es r h).bind fun ws h1 => c f ws h1
  | .callK f es, r, h => (evs s.E es r h).bind fun ws h1 => c f ws h1
  | .isi e t, r, h => (s.E e r h).bind fun x h1 => Res.of ((tyIs h1 t x).map W.bl) h1
  | .blt f vs, r, h => (evs s.V vs r h).bind fun xs h1 => Res.of (bltF h1 f xs) h1
  | .app a e, r, h => (s.E a r h).bind fun x h1 => match lstOf h1 (.w x) with
    | none => .bad
    | some _ => (s.E e r h1).bind fun y h2 => match x with
      | .ref p => (match h2.get p with
        | some (.lst ws) => if Nat.blt ws.length size then .ok .non (h2.set p (.lst (ws ++ [y]))) else .bad
        | _ => .bad)
      | _ => .bad

def forL (k : Wk) (f : W → Env → VH → SRes) : List W → Env → VH → SRes
  | [], r, h => if k.still h then .nx r h else .bad
  | w :: ws, r, h => if k.still h then (match f w r h with
    | .nx r1 h1 => forL k f ws r1 h1
    | .ct r1 h1 => forL k f ws r1 h1
    | .bk r1 h1 => .nx r1 h1
    | x => x) else .bad
def Res.toS (r : Res W) (f : W → VH → SRes) : SRes := match r with
  | .ok w h => f w h
  | .bad => .bad
def stepS (s : SF) : IS → Env → VH → SRes
  | .exp e, r, h => (s.E e r h).toS fun _ h1 => .nx r h1
  | .asg g e, r, h => (s.E e r h).toS fun w h1 => match bindG g w r with
    | some r1 => .nx r1 h1
    | none => .bad
  | .par i j a b, r, h => (s.E a r h).toS fun x h1 => (s.E b r h1).toS fun y h2 => .nx ((r.set i (some x)).set j (some y)) h2
  | .sub a i e, r, h => (s.E e r h).toS fun v h1 => (s.E a r h1).toS fun x h2 => (s.E i r h2).toS fun k h3 => match x, k with
    | .ref p, .int n => (match h3.get p with
      | some (.lst ws) => (match ix ws.length n with
        | some j => .nx r (h3.set p (.lst (ws.set j v)))
        | none => .bad)
      | _ => .bad)
    | _, _ => .bad
  | .dsub a i e, r, h => (s.E e r h).toS fun v h1 => (s.E a r h1).toS fun x h2 => (s.E i r h2).toS fun k h3 => match dicOf h3 x with
    | some (p, kvs) => if keyOk k && Nat.blt kvs.length size then .nx r (h3.set p (.dic (dput k v kvs))) else .bad
    | none => .bad
  | .ret e, r, h => (s.E e r h).toS fun w h1 => .rt w h1
  | .ifs t a b, r, h => match s.T t r h with
    | .ok true h1 => s.S a r h1
    | .ok false h1 => s.S b r h1
    | .bad => .bad
  | .for g it body, r, h => match stepI s it r h with
    | .ok k h1 => forL k (fun w r1 h2 => match bindG g w r1 with
      | some r2 => s.S body r2 h2
      | none => .bad) k.ws r h1
    | .bad => .bad
  | .whl t body, r, h => s.Wh t body r h
  | .lcp i elt g own it t, r, h => ((stepL s (.comp elt g own it t) r h).bind fun ws h1 => .ok (W.lis ws) h1).toS fun w h1 => .nx (r.set i (some w)) h1
  | .lc i elt g own it t, r, h => ((stepL s (.comp elt g own it t) r h).bind fun ws h1 => .ok (W.ref h1.nx) (h1.push (.lst ws))).toS fun w h1 => .nx (r.set i (some w)) h1
  | .pass, r, h => .nx r h
  | .brk, r, h => .bk r h
  | .cont, r, h => .ct r h
def stepSs (s : SF) : List IS → Env → VH → SRes
  | [], r, h => .nx r h
  | st :: sts, r, h => match stepS s st r h with
    | .nx r1 h1 => stepSs s sts r1 h1
    | x => x
def stepWh (s : SF) (t : IT) (body : List IS) (r : Env) (h : VH) : SRes := match s.T t r h with
  | .bad => .bad
  | .ok false h1 => .nx r h1
  | .ok true h1 => match s.S body r h1 with
    | .nx r2 h2 => s.Wh t body r2 h2
    | .ct r2 h2 => s.Wh t body r2 h2
    | .bk r2 h2 => .nx r2 h2
    | x => x
def lvl (c : CF) : Nat → SF
  | 0 => SF.bot
  | n + 1 => ⟨stepE c (lvl c n), stepV (lvl c n), stepT (lvl c n), stepL (lvl c n), stepSs (lvl c n), stepWh (lvl c n)⟩

/-- a def: how many parameters, how many names in all, its body -/
structure FD where
  ar : Nat
  sl : Nat
  body : List IS
def pad : Nat → Env
  | 0 => []
  | n + 1 => none :: pad n
def SRes.val : SRes → Res W
  | .nx _ h => .ok .non h
  | .rt w h => .ok w h
  | _ => .bad
/-- a def called, d calls deep at most; F the fuel of a body -/
def callF (P : List FD) (F : Nat) : Nat → CF
  | 0 => fun _ _ _ => .bad
  | d + 1 => fun f ws h => match nth P f with
    | none => .bad
    | some fd => if Nat.beq ws.length fd.ar then ((lvl (callF P F d) F).S fd.body (ws.map some ++ pad (fd.sl - fd.ar)) h).val else .bad
end VM


set_option Elab.async false
set_option linter.all false
set_option maxRecDepth 100000
set_option maxHeartbeats 2000000
/-! What the evaluator's values and heap stand for in the layer's heap, and how both go on together. -/
namespace VM
open PySem L2

def sv (s : List Nat) : Str := ⟨s.toArray⟩
theorem sv_list (s : List Nat) : (sv s).cps.toList = s := by simp [sv]
theorem sv_inj {a b : List Nat} (h : sv a = sv b) : a = b := by
  have := congrArg (fun x : Str => x.cps.toList) h
  simpa [sv] using this
theorem sv_len (s : List Nat) : (sv s).length = s.length := by simp [sv, Str.length]
theorem sv_of (x : Str) : x = sv x.cps.toList := by
  obtain ⟨c⟩ := x
  simp [sv]

/-- the evaluator's heap beside the layer's: where each cell stands -/
structure Sg where
  mu : Ad → Addr
  h : VH
  H : Hp
  L : Addr → Prop
section
variable (K : PySem.W.Frag) (g : Sg)
mutual
def RW : W → V → Prop
  | .non, v => v = .non
  | .bl b, v => v = .bl b
  | .int i, v => v = .int i
  | .str s, v => v = .str (sv s)
  | .tup ws, v => ∃ a xs, v = .ref a ∧ SqT K g.H a xs ∧ RWs ws xs
  | .lis ws, v => ∃ a xs, v = .ref a ∧ g.L a ∧ g.H a = some (.lst xs) ∧ RWs ws xs
  | .ref p, v => (∃ o, g.h.get p = some o) ∧ v = .ref (g.mu p)
def RWs : List W → List V → Prop
  | [], xs => xs = []
  | w :: ws, xs => ∃ x r, xs = x :: r ∧ RW w x ∧ RWs ws r
end
def keyR : W → Key → Prop
  | .int i, k => k = Sum.inl i
  | .str s, k => k = Sum.inr (sv s)
  | _, _ => False
def RKs : List (W × W) → List (Key × V) → Prop
  | [], ys => ys = []
  | kv :: r, ys => ∃ k v t, ys = (k, v) :: t ∧ keyR kv.1 k ∧ RW K g kv.2 v ∧ RKs r t
/-- a list that stands in the written part -/
def KLst (a : Addr) (xs : List V) : Prop := ∃ (o : Obj) (its : Array Value) (n : Nat), K.lookup a = some o ∧ o.cls = .type "list" ∧ o.dict = none ∧ o.data = .seq its n ∧ its.size ≤ sizeLine ∧ Vals xs its.toList
def ObR (a : Addr) : O → Prop
  | .lst ws => ∃ xs, g.H a = some (.lst xs) ∧ RWs K g ws xs
  | .frz false ws => ∃ o xs, g.H a = some (.frz o (.lst xs)) ∧ RWs K g ws xs
  | .frz true ws => ∃ xs, KLst K a xs ∧ RWs K g ws xs
  | .dic kvs => ∃ ys, g.H a = some (.dK ys) ∧ RKs K g kvs ys
end
/-- a cell that the layer's heap tracks -/
def trk : O → Bool
  | .frz true _ => false
  | _ => true
structure Sim (K : PySem.W.Frag) (g : Sg) : Prop where
  ob : ∀ p o, g.h.get p = some o → ObR K g (g.mu p) o
  inj : ∀ p q o u, g.h.get p = some o → g.h.get q = some u → trk o = true → trk u = true → g.mu p = g.mu q → p = q
  nx : ∀ p, g.h.nx.num ≤ p.num → g.h.get p = none
  lo : ∀ a, g.L a → (∃ xs, g.H a = some (.lst xs)) ∧ ∀ p o, g.h.get p = some o → trk o = true → g.mu p ≠ a
/-- an address that is no cell's, and no pure list's -/
def Out (g : Sg) (a : Addr) : Prop := (∀ p o, g.h.get p = some o → trk o = true → g.mu p ≠ a) ∧ ¬ g.L a
structure Stp (K : PySem.W.Frag) (g g' : Sg) : Prop where
  sim : Sim K g'
  al : ∀ p o, g.h.get p = some o → ∃ o', g'.h.get p = some o' ∧ trk o' = trk o
  ag : ∀ p o, g.h.get p = some o → g'.mu p = g.mu p
  nw : ∀ p o, g'.h.get p = some o → g.h.get p = none → trk o = true → g.H (g'.mu p) = none
  fr : ∀ b o, g.H b = some o → Out g b → g'.H b = some o
  bk : ∀ a, g'.H a = none → g.H a = none
  ll : ∀ a u, g.L a → g.H a = some u → g'.L a ∧ g'.H a = some u
  ln : ∀ a, g'.L a → g.L a ∨ g.H a = none

section
variable {K : PySem.W.Frag} {g g' g2 : Sg}
theorem ObR.tracked {a : Addr} {o : O} (h : ObR K g a o) (t : trk o = true) : ∃ u, g.H a = some u ∧ (∀ xs, u ≠ .tup xs) ∧ (∀ xs ob, u ≠ .frz ob (.tup xs)) ∧ ∀ y, u ≠ .own y := by
  cases o with
  | lst ws => obtain ⟨_, e, _⟩ := h; exact ⟨_, e, fun _ z => (nomatch z), fun _ _ z => (nomatch z), fun _ z => (nomatch z)⟩
  | frz k ws =>
    cases k with
    | true => cases t
    | false => obtain ⟨_, _, e, _⟩ := h; exact ⟨_, e, fun _ z => (nomatch z), fun _ _ z => (by injection z with _ z; cases z), fun _ z => (nomatch z)⟩
  | dic kvs => obtain ⟨_, e, _⟩ := h; exact ⟨_, e, fun _ z => (nomatch z), fun _ _ z => (nomatch z), fun _ z => (nomatch z)⟩
theorem Sim.outTup (s : Sim K g) {a : Addr} {xs : List V} (h : g.H a = some (.tup xs)) : Out g a := by
  refine ⟨fun p o e t z => ?_, fun l => ?_⟩
  rotate_left
  · obtain ⟨⟨ys, e⟩, _⟩ := s.lo a l
    rw [h] at e
    cases e
  obtain ⟨u, q, n, _⟩ := (s.ob p o e).tracked t
  rw [z, h] at q
  exact n xs (Option.some.inj q).symm
theorem Sim.outFrz (s : Sim K g) {a : Addr} {xs : List V} {ob : Obj} (h : g.H a = some (.frz ob (.tup xs))) : Out g a := by
  refine ⟨fun p o e t z => ?_, fun l => ?_⟩
  rotate_left
  · obtain ⟨⟨ys, e⟩, _⟩ := s.lo a l
    rw [h] at e
    cases e
  obtain ⟨u, q, _, n, _⟩ := (s.ob p o e).tracked t
  rw [z, h] at q
  exact n xs ob (Option.some.inj q).symm
theorem Sim.outNone (s : Sim K g) {a : Addr} (h : g.H a = none) : Out g a := by
  refine ⟨fun p o e t z => ?_, fun l => ?_⟩
  rotate_left
  · obtain ⟨⟨ys, e⟩, _⟩ := s.lo a l
    rw [h] at e
    cases e
  obtain ⟨u, q, _⟩ := (s.ob p o e).tracked t
  rw [z, h] at q
  cases q
/-- values stay while tuples stay, and cells where they are -/
structure Kp (K : PySem.W.Frag) (g g' : Sg) : Prop where
  tup : ∀ {a xs}, SqT K g.H a xs → SqT K g'.H a xs
  al : ∀ p o, g.h.get p = some o → ∃ o', g'.h.get p = some o'
  ag : ∀ p o, g.h.get p = some o → g'.mu p = g.mu p
  li : ∀ a xs, g.L a → g.H a = some (.lst xs) → g'.L a ∧ g'.H a = some (.lst xs)
mutual
theorem RW.kp (t : Kp K g g') : ∀ {w : W} {v : V}, RW K g w v → RW K g' w v
  | .non, _, h => h
  | .bl _, _, h => h
  | .int _, _, h => h
  | .str _, _, h => h
  | .tup ws, _, h => by
    obtain ⟨a, xs, e, h1, h2⟩ := h
    exact ⟨a, xs, e, t.tup h1, RWs.kp t h2⟩
  | .lis ws, _, h => by
    obtain ⟨a, xs, e, h1, h2, h3⟩ := h
    obtain ⟨l1, l2⟩ := t.li a xs h1 h2
    exact ⟨a, xs, e, l1, l2, RWs.kp t h3⟩
  | .ref p, _, h => by
    obtain ⟨⟨o, h1⟩, h2⟩ := h
    exact ⟨t.al p o h1, by rw [h2, t.ag p o h1]⟩
theorem RWs.kp (t : Kp K g g') : ∀ {ws : List W} {vs : List V}, RWs K g ws vs → RWs K g' ws vs
  | [], _, h => h
  | w :: ws, _, h => by
    obtain ⟨x, r, e, h1, h2⟩ := h
    exact ⟨x, r, e, RW.kp t h1, RWs.kp t h2⟩
end
theorem RKs.kp (t : Kp K g g') : ∀ {ws : List (W × W)} {vs : List (Key × V)}, RKs K g ws vs → RKs K g' ws vs
  | [], _, h => h
  | w :: ws, _, h => by
    obtain ⟨k, v, r, e, h0, h1, h2⟩ := h
    exact ⟨k, v, r, e, h0, RW.kp t h1, RKs.kp t h2⟩
theorem Stp.kp (s : Sim K g) (t : Stp K g g') : Kp K g g' where
  tup := fun {a xs} h => by
    rcases h with (h | ⟨o, h⟩) | h
    · exact .inl (.inl (t.fr a _ h (s.outTup h)))
    · exact .inl (.inr ⟨o, t.fr a _ h (s.outFrz h)⟩)
    · exact .inr h
  al := fun p o e => let ⟨o', e', _⟩ := t.al p o e; ⟨o', e'⟩
  ag := t.ag
  li := fun a xs l e => t.ll a _ l e
theorem Stp.refl (s : Sim K g) : Stp K g g := ⟨s, fun p o e => ⟨o, e, rfl⟩, fun _ _ _ => rfl, fun p o e n => by (rw [n] at e; cases e), fun _ _ e _ => e, fun _ e => e, fun _ _ l e => ⟨l, e⟩, fun _ l => .inl l⟩
theorem Stp.out (t : Stp K g g') {a : Addr} {u : HO} (ha : g.H a = some u) (hx : Out g a) : Out g' a := by
  refine ⟨fun p o e k z => ?_, fun l => ?_⟩
  · cases q : g.h.get p with
    | some u' =>
      obtain ⟨o2, e2, k2⟩ := t.al p u' q
      rw [e] at e2
      cases e2
      exact hx.1 p u' q (by rw [← k2]; exact k) (by rw [← t.ag p u' q]; exact z)
    | none =>
      have w := t.nw p o e q k
      rw [z, ha] at w
      cases w
  · rcases t.ln a l with l | e
    · exact hx.2 l
    · rw [ha] at e; cases e
theorem Stp.trans (a : Stp K g g') (b : Stp K g' g2) : Stp K g g2 where
  sim := b.sim
  al := fun p o e => by
    obtain ⟨o', e', k'⟩ := a.al p o e
    obtain ⟨o2, e2, k2⟩ := b.al p o' e'
    exact ⟨o2, e2, k2.trans k'⟩
  ag := fun p o e => by
    obtain ⟨o', e', _⟩ := a.al p o e
    rw [b.ag p o' e', a.ag p o e]
  nw := fun p o e n t => by
    cases q : g'.h.get p with
    | none => exact a.bk _ (b.nw p o e q t)
    | some u =>
      obtain ⟨o2, e2, k2⟩ := b.al p u q
      rw [e] at e2
      cases e2
      rw [b.ag p u q]
      exact a.nw p u q n (by rw [← k2]; exact t)
  fr := fun c o e x => b.fr c o (a.fr c o e x) (a.out e x)
  bk := fun c e => a.bk c (b.bk c e)
  ll := fun c u l e => let ⟨l1, e1⟩ := a.ll c u l e; b.ll c u l1 e1
  ln := fun c l => by
    rcases b.ln c l with l | e
    · exact a.ln c l
    · exact .inr (a.bk c e)

/-! ### the basic steps -/
theorem ObR.kp {a : Addr} (t : Kp K g g') (hh : ∀ u, g.H a = some u → g'.H a = some u) : ∀ {o : O}, ObR K g a o → ObR K g' a o
  | .lst ws, h => by
    obtain ⟨xs, e, r⟩ := h
    exact ⟨xs, hh _ e, RWs.kp t r⟩
  | .frz false ws, h => by
    obtain ⟨o, xs, e, r⟩ := h
    exact ⟨o, xs, hh _ e, RWs.kp t r⟩
  | .frz true ws, h => by
    obtain ⟨xs, e, r⟩ := h
    exact ⟨xs, e, RWs.kp t r⟩
  | .dic kvs, h => by
    obtain ⟨ys, e, r⟩ := h
    exact ⟨ys, hh _ e, RKs.kp t r⟩
theorem tup_upd {H : Hp} {b : Addr} {o : HO} (n : ∀ xs, H b ≠ some (.tup xs)) (n2 : ∀ ob xs, H b ≠ some (.frz ob (.tup xs))) {a : Addr} {xs : List V} (h : SqT K H a xs) : SqT K (upd H b o) a xs := by
  rcases h with (h | ⟨ob, h⟩) | h
  · have ne : a ≠ b := fun z => n xs (z ▸ h)
    exact .inl (.inl (by rw [upd_ne ne]; exact h))
  · have ne : a ≠ b := fun z => n2 ob xs (z ▸ h)
    exact .inl (.inr ⟨ob, by rw [upd_ne ne]; exact h⟩)
  · exact .inr h
/-- a thing is laid that is no cell -/
theorem Stp.lay (s : Sim K g) {a : Addr} {o : HO} (n : g.H a = none) : Stp K g { g with H := upd g.H a o } := by
  have keep : ∀ b u, g.H b = some u → (upd g.H a o) b = some u := fun b u e => by rw [upd_ne (ne_of_none e n)]; exact e
  have k : Kp K g { g with H := upd g.H a o } := ⟨fun h => tup_upd (by intro _; rw [n]; exact fun z => nomatch z) (by intro _ _; rw [n]; exact fun z => nomatch z) h, fun p o e => ⟨o, e⟩, fun _ _ _ => rfl, fun b xs l e => ⟨l, keep b _ e⟩⟩
  refine ⟨⟨fun p u e => (s.ob p u e).kp k (keep _), s.inj, s.nx, fun b l => let ⟨⟨xs, e⟩, z⟩ := s.lo b l; ⟨⟨xs, keep b _ e⟩, z⟩⟩, fun p o e => ⟨o, e, rfl⟩, fun _ _ _ => rfl, fun p o e n => by (rw [n] at e; cases e), fun b u e _ => keep b u e, fun b e => ?_, fun b u l e => ⟨l, keep b u e⟩, fun b l => .inl l⟩
  cases q : g.H b with
  | none => rfl
  | some u =>
    have e : (upd g.H a o) b = none := e
    rw [keep b u q] at e
    cases e
/-- a thing of the layer's heap that is no cell becomes one -/
theorem Stp.add {g0 : Sg} (t : Stp K g0 g) {a : Addr} {u : HO} {o : O} (n0 : g0.H a = none) (ha : g.H a = some u) (hx : Out g a) (hb : ObR K g a o) (ht : trk o = true) :
    Stp K g0 ⟨fun p => if p = g.h.nx then a else g.mu p, g.h.push o, g.H, g.L⟩ := by
  have s := t.sim
  have nn : g.h.get g.h.nx = none := s.nx _ (Nat.le_refl _)
  have ne : ∀ p o', g.h.get p = some o' → p ≠ g.h.nx := fun p o' e z => by rw [z, nn] at e; cases e
  have gt : ∀ p o', g.h.get p = some o' → (g.h.push o).get p = some o' := fun p o' e => (VH.get_push_ne _ _ (ne p o' e)).trans e
  have mu : ∀ p o', g.h.get p = some o' → (if p = g.h.nx then a else g.mu p) = g.mu p := fun p o' e => if_neg (ne p o' e)
  have k : Kp K g ⟨fun p => if p = g.h.nx then a else g.mu p, g.h.push o, g.H, g.L⟩ := ⟨fun h => h, fun p o e => ⟨o, gt p o e⟩, mu, fun _ _ l e => ⟨l, e⟩⟩
  have old : ∀ p o', (g.h.push o).get p = some o' → p ≠ g.h.nx → g.h.get p = some o' := fun p o' e z => by rw [VH.get_push_ne _ _ z] at e; exact e
  refine ⟨⟨fun p o' e => ?_, fun p q o1 o2 e1 e2 t1 t2 z => ?_, fun p hp => ?_, fun b l => ⟨(s.lo b l).1, fun p o' e k' z => ?_⟩⟩, fun p o' e => ?_, fun p o' e => ?_, fun p o' e n k' => ?_, fun b o' e x => t.fr b o' e x, fun b e => t.bk b e, t.ll, t.ln⟩
  · by_cases hp : p = g.h.nx
    · subst hp
      have e1 : (g.h.push o).get g.h.nx = some o' := e
      rw [VH.get_push_same] at e1
      cases e1
      show ObR K _ (if g.h.nx = g.h.nx then a else _) o
      rw [if_pos rfl]
      exact hb.kp k fun _ e => e
    · have q := old p o' e hp
      show ObR K _ (if p = g.h.nx then a else g.mu p) o'
      rw [if_neg hp]
      exact (s.ob p o' q).kp k fun _ e => e
  · have z : (if p = g.h.nx then a else g.mu p) = (if q = g.h.nx then a else g.mu q) := z
    by_cases hp : p = g.h.nx
    · by_cases hq : q = g.h.nx
      · rw [hp, hq]
      · rw [if_pos hp, if_neg hq] at z
        exact absurd z.symm (hx.1 q o2 (old q o2 e2 hq) t2)
    · by_cases hq : q = g.h.nx
      · rw [if_neg hp, if_pos hq] at z
        exact absurd z (hx.1 p o1 (old p o1 e1 hp) t1)
      · rw [if_neg hp, if_neg hq] at z
        exact s.inj p q o1 o2 (old p o1 e1 hp) (old q o2 e2 hq) t1 t2 z
  · have hp : g.h.nx.succ.num ≤ p.num := hp
    rw [Ad.num_succ] at hp
    show (g.h.push o).get p = none
    rw [VH.get_push_ne _ _ (fun z => by rw [z] at hp; omega)]
    exact s.nx p (by omega)
  · have z : (if p = g.h.nx then a else g.mu p) = b := z
    by_cases hp : p = g.h.nx
    · rw [if_pos hp] at z
      exact hx.2 (z ▸ l)
    · rw [if_neg hp] at z
      exact (s.lo b l).2 p o' (old p o' e hp) k' z
  · obtain ⟨o2, e2, k2⟩ := t.al p o' e
    exact ⟨o2, gt p o2 e2, k2⟩
  · obtain ⟨o2, e2, k2⟩ := t.al p o' e
    exact (mu p o2 e2).trans (t.ag p o' e)
  · by_cases hp : p = g.h.nx
    · subst hp
      show g0.H (if g.h.nx = g.h.nx then a else _) = none
      rw [if_pos rfl]
      exact n0
    · show g0.H (if p = g.h.nx then a else g.mu p) = none
      rw [if_neg hp]
      exact t.nw p o' (old p o' e hp) n k'
/-- a cell is written -/
theorem Stp.put (s : Sim K g) {p : Ad} {o o' : O} {u : HO} (hp : g.h.get p = some o) (ht : trk o = true) (ht' : trk o' = true) (hn : ∀ xs, g.H (g.mu p) ≠ some (.tup xs))
    (hb : ∀ g2 : Sg, Kp K g g2 → g2.H (g.mu p) = some u → ObR K g2 (g.mu p) o') : Stp K g { g with h := g.h.set p o', H := upd g.H (g.mu p) u } := by
  obtain ⟨v, hv, n1, n2, _⟩ := (s.ob p o hp).tracked ht
  have al : ∀ q w, g.h.get q = some w → ∃ w', (g.h.set p o').get q = some w' ∧ trk w' = trk w := fun q w e => by
    by_cases hq : q = p
    · subst hq
      rw [hp] at e
      cases e
      exact ⟨o', VH.get_set_same _ _ _, ht'.trans ht.symm⟩
    · exact ⟨w, (VH.get_set_ne _ _ hq).trans e, rfl⟩
  have back : ∀ q w, (g.h.set p o').get q = some w → q ≠ p → g.h.get q = some w := fun q w e z => by rw [VH.get_set_ne _ _ z] at e; exact e
  have k : Kp K g { g with h := g.h.set p o', H := upd g.H (g.mu p) u } := ⟨fun h => tup_upd (by intro xs z; rw [hv] at z; exact n1 xs (Option.some.inj z)) (by intro ob xs z; rw [hv] at z; exact n2 xs ob (Option.some.inj z)) h, fun q w e => let ⟨w', e', _⟩ := al q w e; ⟨w', e'⟩, fun _ _ _ => rfl, fun b xs l e => ⟨l, by show upd g.H (g.mu p) u b = _; rw [upd_ne (fun z => (s.lo b l).2 p o hp ht z.symm)]; exact e⟩⟩
  have lk : ∀ b v, g.L b → g.H b = some v → upd g.H (g.mu p) u b = some v := fun b v l e => by rw [upd_ne (fun z => (s.lo b l).2 p o hp ht z.symm)]; exact e
  refine ⟨⟨fun q w e => ?_, fun q1 q2 w1 w2 e1 e2 t1 t2 z => ?_, fun q hq => ?_, fun b l => ⟨let ⟨xs, e⟩ := (s.lo b l).1; ⟨xs, lk b _ l e⟩, fun q w e k' z => ?_⟩⟩, al, fun _ _ _ => rfl, fun q w e n => ?_, fun b w e x => ?_, fun b e => ?_, fun b v l e => ⟨l, lk b v l e⟩, fun b l => .inl l⟩
  · by_cases hq : q = p
    · subst hq
      have e1 : (g.h.set q o').get q = some w := e
      rw [VH.get_set_same] at e1
      cases e1
      exact hb _ k upd_same
    · have q0 := back q w e hq
      by_cases tw : trk w = true
      · exact (s.ob q w q0).kp k fun v e => by
          show (upd g.H (g.mu p) u) (g.mu q) = some v
          rw [upd_ne (fun z => hq (s.inj q p w o q0 hp tw ht z))]
          exact e
      · cases w with
        | frz b ws =>
          cases b with
          | true =>
            obtain ⟨xs, e, r⟩ := s.ob q _ q0
            exact ⟨xs, e, RWs.kp k r⟩
          | false => exact absurd rfl tw
        | lst ws => exact absurd rfl tw
        | dic ws => exact absurd rfl tw
  · obtain ⟨v1, g1, k1⟩ : ∃ v1, g.h.get q1 = some v1 ∧ trk v1 = true := by
      by_cases hq : q1 = p
      · exact ⟨o, hq ▸ hp, ht⟩
      · exact ⟨w1, back q1 w1 e1 hq, t1⟩
    obtain ⟨v2, g2, k2⟩ : ∃ v2, g.h.get q2 = some v2 ∧ trk v2 = true := by
      by_cases hq : q2 = p
      · exact ⟨o, hq ▸ hp, ht⟩
      · exact ⟨w2, back q2 w2 e2 hq, t2⟩
    exact s.inj q1 q2 v1 v2 g1 g2 k1 k2 z
  · show (g.h.set p o').get q = none
    have z := s.nx q hq
    rw [VH.get_set_ne _ _ (fun e => by rw [e, hp] at z; cases z)]
    exact z
  · by_cases hq : q = p
    · exact (s.lo b l).2 p o hp ht (hq ▸ z)
    · exact (s.lo b l).2 q w (back q w e hq) k' z
  · by_cases hq : q = p
    · rw [hq, hp] at n; cases n
    · rw [back q w e hq] at n; cases n
  · show (upd g.H (g.mu p) u) b = some w
    rw [upd_ne (fun z => x.1 p o hp ht z.symm)]
    exact e
  · have e : (upd g.H (g.mu p) u) b = none := e
    by_cases hb2 : b = g.mu p
    · rw [hb2, upd_same] at e; cases e
    · rw [upd_ne hb2] at e; exact e
end
end VM


set_option Elab.async false
set_option linter.all false
set_option maxRecDepth 100000
set_option maxHeartbeats 2000000
/-! The judgements: a piece of the text and its evaluation. -/
namespace VM
open PySem L2

theorem getR_iff : ∀ {r : Env} {i : Nat} {w : W}, getR r i = some w ↔ r[i]? = some (some w)
  | [], i, w => by simp [getR]
  | o :: r, 0, w => by simp [getR]
  | o :: r, i + 1, w => by simp only [getR, List.getElem?_cons_succ]; exact getR_iff
theorem nth_iff {α : Type} : ∀ {l : List α} {i : Nat}, nth l i = l[i]?
  | [], i => by simp [nth]
  | o :: r, 0 => by simp [nth]
  | o :: r, i + 1 => by simp only [nth, List.getElem?_cons_succ]; exact nth_iff

structure RE (K : PySem.W.Frag) (g : Sg) (r : Env) (σ : L2.St) : Prop where
  len : r.length = σ.length
  at_ : ∀ i w, getR r i = some w → ∃ v, σ[i]? = some (some v) ∧ RW K g w v
section
variable {K : PySem.W.Frag} {g g' : Sg} {r : Env} {σ : L2.St}
theorem RE.kp (e : RE K g r σ) (t : Kp K g g') : RE K g' r σ := ⟨e.len, fun i w h => let ⟨v, a, b⟩ := e.at_ i w h; ⟨v, a, b.kp t⟩⟩
theorem RE.set (e : RE K g r σ) {i : Nat} {w : W} {v : V} (h : RW K g w v) : RE K g (r.set i (some w)) (σ.set i (some v)) := by
  refine ⟨by simp [e.len], fun j u hj => ?_⟩
  rw [getR_iff] at hj
  by_cases hi : i = j
  · subst hi
    by_cases hl : i < r.length
    · rw [List.getElem?_set_self hl] at hj
      cases hj
      exact ⟨v, by rw [List.getElem?_set_self (by rw [← e.len]; exact hl)], h⟩
    · rw [List.getElem?_eq_none (by simpa using hl)] at hj; cases hj
  · rw [List.getElem?_set_ne hi] at hj
    obtain ⟨v', a, b⟩ := e.at_ j u (getR_iff.mpr hj)
    exact ⟨v', by rw [List.getElem?_set_ne hi]; exact a, b⟩
theorem RE.unset (e : RE K g r σ) {i : Nat} {o : Option V} : RE K g (r.set i none) (σ.set i o) := by
  refine ⟨by simp [e.len], fun j u hj => ?_⟩
  rw [getR_iff] at hj
  by_cases hi : i = j
  · subst hi
    by_cases hl : i < r.length
    · rw [List.getElem?_set_self hl] at hj; cases hj
    · rw [List.getElem?_eq_none (by simpa using hl)] at hj; cases hj
  · rw [List.getElem?_set_ne hi] at hj
    obtain ⟨v', a, b⟩ := e.at_ j u (getR_iff.mpr hj)
    exact ⟨v', by rw [List.getElem?_set_ne hi]; exact a, b⟩
theorem RE.wipe (e : RE K g r σ) : ∀ vs : List Nat, RE K g (VM.wipe r vs) (L2.wipe σ vs)
  | [] => e
  | v :: vs => (RE.wipe e vs).unset
theorem RWs.length : ∀ {ws : List W} {vs : List V}, RWs K g ws vs → ws.length = vs.length
  | [], _, h => by cases h; rfl
  | w :: ws, _, h => by
    obtain ⟨x, r, rfl, _, h2⟩ := h
    simp [RWs.length h2]
theorem RWs.get : ∀ {ws : List W} {vs : List V} {i : Nat} {w : W}, RWs K g ws vs → ws[i]? = some w → ∃ v, vs[i]? = some v ∧ RW K g w v
  | [], _, _, _, _, e => by simp at e
  | w :: ws, _, 0, _, h, e => by
    obtain ⟨x, r, rfl, h1, h2⟩ := h
    simp at e
    subst e
    exact ⟨x, by simp, h1⟩
  | w :: ws, _, i + 1, _, h, e => by
    obtain ⟨x, r, rfl, h1, h2⟩ := h
    simp at e
    obtain ⟨v, a, b⟩ := RWs.get h2 e
    exact ⟨v, by simpa using a, b⟩
theorem RWs.append : ∀ {ws us : List W} {vs xs : List V}, RWs K g ws vs → RWs K g us xs → RWs K g (ws ++ us) (vs ++ xs)
  | [], _, _, _, h, h' => by cases h; exact h'
  | w :: ws, _, _, _, h, h' => by
    obtain ⟨x, r, rfl, h1, h2⟩ := h
    exact ⟨x, _, rfl, h1, RWs.append h2 h'⟩
theorem RWs.drop : ∀ {ws : List W} {vs : List V} (n : Nat), RWs K g ws vs → RWs K g (ws.drop n) (vs.drop n)
  | _, _, 0, h => h
  | [], _, n + 1, h => by cases h; rfl
  | w :: ws, _, n + 1, h => by
    obtain ⟨x, r, rfl, h1, h2⟩ := h
    exact RWs.drop n h2
theorem RWs.take : ∀ {ws : List W} {vs : List V} (n : Nat), RWs K g ws vs → RWs K g (ws.take n) (vs.take n)
  | _, _, 0, h => rfl
  | [], _, n + 1, h => by cases h; rfl
  | w :: ws, _, n + 1, h => by
    obtain ⟨x, r, rfl, h1, h2⟩ := h
    exact ⟨x, _, rfl, h1, RWs.take n h2⟩
theorem RWs.set : ∀ {ws : List W} {vs : List V} {w : W} {v : V} (n : Nat), RWs K g ws vs → RW K g w v → RWs K g (ws.set n w) (vs.set n v)
  | [], _, _, _, n, h, _ => by cases h; cases n <;> rfl
  | w :: ws, _, _, _, 0, h, h' => by
    obtain ⟨x, r, rfl, h1, h2⟩ := h
    exact ⟨_, r, rfl, h', h2⟩
  | w :: ws, _, _, _, n + 1, h, h' => by
    obtain ⟨x, r, rfl, h1, h2⟩ := h
    exact ⟨x, _, rfl, h1, RWs.set n h2 h'⟩
end

/-- the operand's relation -/
def ArgR (K : PySem.W.Frag) (g : Sg) : Arg → V → Prop
  | .w w, v => RW K g w v
  | .fr ws, v => ∃ p xs, v = .ref p ∧ g.H p = some (.lst xs) ∧ Out g p ∧ RWs K g ws xs
def ArgsR (K : PySem.W.Frag) (g : Sg) : List Arg → List V → Prop
  | [], vs => vs = []
  | a :: as, vs => ∃ v r, vs = v :: r ∧ ArgR K g a v ∧ ArgsR K g as r
section
variable {K : PySem.W.Frag} {g g' : Sg}
theorem ArgR.stp (s : Sim K g) (t : Stp K g g') : ∀ {a : Arg} {v : V}, ArgR K g a v → ArgR K g' a v
  | .w w, v, h => RW.kp (t.kp s) h
  | .fr ws, v, h => by
    obtain ⟨p, xs, e, h1, h2, h3⟩ := h
    exact ⟨p, xs, e, t.fr p _ h1 h2, t.out h1 h2, h3.kp (t.kp s)⟩
theorem ArgsR.stp (s : Sim K g) (t : Stp K g g') : ∀ {as : List Arg} {vs : List V}, ArgsR K g as vs → ArgsR K g' as vs
  | [], _, h => h
  | a :: as, _, h => by
    obtain ⟨v, r, e, h1, h2⟩ := h
    exact ⟨v, r, e, h1.stp s t, ArgsR.stp s t h2⟩
theorem sqL_of {p : Addr} {xs : List V} (h : g.H p = some (.lst xs)) : SqL K g.H p xs := .inl (.inl h)
theorem cell_sq (s : Sim K g) {p : Ad} {ws : List W} (h : cell g.h p = some ws) : ∃ xs, SqL K g.H (g.mu p) xs ∧ RWs K g ws xs := by
  unfold cell at h
  cases e : g.h.get p with
  | none => rw [e] at h; cases h
  | some o =>
    rw [e] at h
    have ob := s.ob p o e
    cases o with
    | lst us => cases h; obtain ⟨xs, q, r⟩ := ob; exact ⟨xs, sqL_of q, r⟩
    | dic _ => cases h
    | frz k us =>
      cases h
      cases k with
      | false => obtain ⟨o, xs, q, r⟩ := ob; exact ⟨xs, .inl (.inr ⟨o, q⟩), r⟩
      | true => obtain ⟨xs, q, r⟩ := ob; exact ⟨xs, .inr q, r⟩
/-- what is read as a list -/
theorem lstOf_sq (s : Sim K g) {a : Arg} {v : V} {ws : List W} (r : ArgR K g a v) (h : lstOf g.h a = some ws) : ∃ p xs, v = .ref p ∧ SqL K g.H p xs ∧ RWs K g ws xs := by
  cases a with
  | fr us => cases h; obtain ⟨p, xs, e, h1, _, h3⟩ := r; exact ⟨p, xs, e, sqL_of h1, h3⟩
  | w w =>
    cases w with
    | ref p =>
      obtain ⟨_, rfl⟩ := r
      obtain ⟨xs, a, b⟩ := cell_sq s (show cell g.h p = some ws from h)
      exact ⟨_, xs, rfl, a, b⟩
    | lis us => cases h; obtain ⟨p, xs, e, _, h2, h3⟩ := r; exact ⟨p, xs, e, sqL_of h2, h3⟩
    | _ => cases h
theorem seqOf_sq (s : Sim K g) {a : Arg} {v : V} {ws : List W} (r : ArgR K g a v) (h : seqOf g.h a = some ws) : ∃ p xs, v = .ref p ∧ (SqL K g.H p xs ∨ SqT K g.H p xs) ∧ RWs K g ws xs := by
  cases a with
  | fr us => cases h; obtain ⟨p, xs, e, h1, _, h3⟩ := r; exact ⟨p, xs, e, .inl (sqL_of h1), h3⟩
  | w w =>
    cases w with
    | ref p =>
      obtain ⟨_, rfl⟩ := r
      obtain ⟨xs, a, b⟩ := cell_sq s (show cell g.h p = some ws from h)
      exact ⟨_, xs, rfl, .inl a, b⟩
    | tup us => cases h; obtain ⟨a, xs, e, h1, h2⟩ := r; exact ⟨a, xs, e, .inr h1, h2⟩
    | lis us => cases h; obtain ⟨p, xs, e, _, h2, h3⟩ := r; exact ⟨p, xs, e, .inl (sqL_of h2), h3⟩
    | _ => cases h
end

/-! ### judgements -/
section
variable (X : Cx)
/-- an expression and its evaluation -/
def SE (e : Expr) (m : Env → VH → Res W) : Prop := ∃ t : TE, PE X e t ∧ ∀ (g : Sg) (r : Env) (σ : L2.St) (w : W) (h' : VH) (Q : VK), Sim X.K g → RE X.K g r σ → m r g.h = .ok w h' →
  (∀ g' v, Stp X.K g g' → g'.h = h' → RW X.K g' w v → Q v g'.H) → t σ g.H Q
/-- an operand -/
def SV (e : Expr) (m : Env → VH → Res Arg) : Prop := ∃ t : TE, PE X e t ∧ ∀ (g : Sg) (r : Env) (σ : L2.St) (w : Arg) (h' : VH) (Q : VK), Sim X.K g → RE X.K g r σ → m r g.h = .ok w h' →
  (∀ g' v, Stp X.K g g' → g'.h = h' → ArgR X.K g' w v → Q v g'.H) → t σ g.H Q
/-- a new list -/
def SL (e : Expr) (m : Env → VH → Res (List W)) : Prop := ∃ t : TE, PE X e t ∧ ∀ (g : Sg) (r : Env) (σ : L2.St) (ws : List W) (h' : VH) (Q : VK), Sim X.K g → RE X.K g r σ → m r g.h = .ok ws h' →
  (∀ g' p xs, Stp X.K g g' → g'.h = h' → g.H p = none → g'.H p = some (.lst xs) → Out g' p → RWs X.K g' ws xs → Q (.ref p) g'.H) → t σ g.H Q
/-- a test -/
def STt (e : Expr) (m : Env → VH → Res Bool) : Prop := ∃ t : TT, PT X e t ∧ ∀ (g : Sg) (r : Env) (σ : L2.St) (b : Bool) (h' : VH) (Q : Bool → Hp → Prop), Sim X.K g → RE X.K g r σ → m r g.h = .ok b h' →
  (∀ g', Stp X.K g g' → g'.h = h' → Q b g'.H) → t σ g.H Q
/-- arguments: values, operands -/
def SA (es : List Expr) (m : Env → VH → Res (List W)) : Prop := ∃ t : TA, PA X es t ∧ ∀ (g : Sg) (r : Env) (σ : L2.St) (ws : List W) (h' : VH) (Q : List V → Hp → Prop), Sim X.K g → RE X.K g r σ → m r g.h = .ok ws h' →
  (∀ g' vs, Stp X.K g g' → g'.h = h' → RWs X.K g' ws vs → Q vs g'.H) → t σ g.H Q
def SAV (es : List Expr) (m : Env → VH → Res (List Arg)) : Prop := ∃ t : TA, PA X es t ∧ ∀ (g : Sg) (r : Env) (σ : L2.St) (ws : List Arg) (h' : VH) (Q : List V → Hp → Prop), Sim X.K g → RE X.K g r σ → m r g.h = .ok ws h' →
  (∀ g' vs, Stp X.K g g' → g'.h = h' → ArgsR X.K g' ws vs → Q vs g'.H) → t σ g.H Q
/-- what is wanted behind a statement -/
def DOk (D : Ends) (g : Sg) : SRes → Prop
  | .nx r h => ∀ g' σ, Stp X.K g g' → g'.h = h → RE X.K g' r σ → D.nx σ g'.H
  | .rt w h => ∀ g' v, Stp X.K g g' → g'.h = h → RW X.K g' w v → D.rt v g'.H
  | .bk r h => ∀ g' σ, Stp X.K g g' → g'.h = h → RE X.K g' r σ → D.bk σ g'.H
  | .ct r h => ∀ g' σ, Stp X.K g g' → g'.h = h → RE X.K g' r σ → D.ct σ g'.H
  | .bad => False
def SS (st : Stmt) (m : Env → VH → SRes) : Prop := ∃ t : TS, PS X st t ∧ ∀ (g : Sg) (r : Env) (σ : L2.St) (D : Ends), Sim X.K g → RE X.K g r σ → DOk X D g (m r g.h) → t D σ g.H
def SSs (sts : List Stmt) (m : Env → VH → SRes) : Prop := ∃ t : TS, PSs X sts t ∧ ∀ (g : Sg) (r : Env) (σ : L2.St) (D : Ends), Sim X.K g → RE X.K g r σ → DOk X D g (m r g.h) → t D σ g.H
end

theorem PE.or {X : Cx} {e : Expr} {t u : TE} (a : PE X e t) (b : PE X e u) : PE X e (fun σ H Q => t σ H Q ∨ u σ H Q) := ⟨fun pins s σ H Q I h => by
  rcases h with h | h
  · exact a.run pins s σ H Q I h
  · exact b.run pins s σ H Q I h⟩

section
variable {X : Cx}
theorem SV.e {e : Expr} {m : Env → VH → Res W} (h : SE X e m) : SV X e (fun r h => (m r h).bind fun w h1 => .ok (.w w) h1) := by
  obtain ⟨t, p, i⟩ := h
  refine ⟨t, p, fun g r σ w h' Q s re e k => ?_⟩
  obtain ⟨w0, h1, e1, e2⟩ := Res.bind_ok e
  cases e2
  exact i g r σ w0 _ Q s re e1 fun g' v st eh rw => k g' v st eh rw
theorem SV.l {e : Expr} {m : Env → VH → Res (List W)} (h : SL X e m) : SV X e (fun r h => (m r h).bind fun w h1 => .ok (.fr w) h1) := by
  obtain ⟨t, p, i⟩ := h
  refine ⟨t, p, fun g r σ w h' Q s re e k => ?_⟩
  obtain ⟨w0, h1, e1, e2⟩ := Res.bind_ok e
  cases e2
  exact i g r σ w0 _ Q s re e1 fun g' p xs st eh n hp ho rw => k g' _ st eh ⟨p, xs, rfl, hp, ho, rw⟩
theorem SE.new {e : Expr} {m : Env → VH → Res (List W)} (h : SL X e m) : SE X e (fun r h => (m r h).bind fun ws h1 => .ok (.ref h1.nx) (h1.push (.lst ws))) := by
  obtain ⟨t, p, i⟩ := h
  refine ⟨t, p, fun g r σ w h' Q s re e k => ?_⟩
  obtain ⟨w0, h1, e1, e2⟩ := Res.bind_ok e
  cases e2
  refine i g r σ w0 _ Q s re e1 fun g' p xs st eh n hp ho rw => ?_
  have st2 := st.add (o := .lst w0) n hp ho ⟨xs, hp, rw⟩ rfl
  subst eh
  exact k ⟨fun q => if q = g'.h.nx then p else g'.mu q, g'.h.push (.lst w0), g'.H, g'.L⟩ _ st2 rfl ⟨⟨_, VH.get_push_same _ _⟩, by show V.ref p = V.ref (if g'.h.nx = g'.h.nx then p else _); rw [if_pos rfl]⟩
/-- a new list that nobody will change -/
theorem Stp.pur {K : PySem.W.Frag} {g g' : Sg} {p : Addr} {xs : List V} (t : Stp K g g') (n : g.H p = none) (hp : g'.H p = some (.lst xs)) (ho : Out g' p) : Stp K g { g' with L := fun a => g'.L a ∨ a = p } ∧ Kp K g' { g' with L := fun a => g'.L a ∨ a = p } := by
  have k : Kp K g' { g' with L := fun a => g'.L a ∨ a = p } := ⟨fun h => h, fun p o e => ⟨o, e⟩, fun _ _ _ => rfl, fun a xs l e => ⟨.inl l, e⟩⟩
  refine ⟨⟨⟨fun q o e => (t.sim.ob q o e).kp k fun _ e => e, t.sim.inj, t.sim.nx, fun a l => ?_⟩, t.al, t.ag, t.nw, t.fr, t.bk, fun a u l e => let ⟨l1, e1⟩ := t.ll a u l e; ⟨.inl l1, e1⟩, fun a l => ?_⟩, k⟩
  · rcases l with l | rfl
    · exact t.sim.lo a l
    · exact ⟨⟨xs, hp⟩, ho.1⟩
  · rcases l with l | rfl
    · exact t.ln a l
    · exact .inr n
theorem SE.pur {e : Expr} {m : Env → VH → Res (List W)} (h : SL X e m) : SE X e (fun r h => (m r h).bind fun ws h1 => .ok (.lis ws) h1) := by
  obtain ⟨t, p, i⟩ := h
  refine ⟨t, p, fun g r σ w h' Q s re e k => ?_⟩
  obtain ⟨w0, h1, e1, e2⟩ := Res.bind_ok e
  cases e2
  refine i g r σ w0 _ Q s re e1 fun g' p xs st eh n hp ho rw => ?_
  obtain ⟨st2, k2⟩ := st.pur n hp ho
  exact k { g' with L := fun a => g'.L a ∨ a = p } _ st2 eh ⟨p, xs, rfl, .inr rfl, hp, rw.kp k2⟩

/-! ### names, constants -/
theorem se_var {i : Nat} {x : Str} {pos : Pos} (hN : X.N[i]? = some x) (hv : Vis X.env.scope x) (hd : (x == ("__debug__" : Str)) = false) (hcd : (x == ("__classdict__" : Str)) = false) : SE X (.Name x pos) (fun r h => Res.of (getR r i) h) := by
  refine ⟨_, pe_var hN hv hd hcd, fun g r σ w h' Q s re e k => ?_⟩
  obtain ⟨e1, rfl⟩ := Res.of_ok e
  obtain ⟨v, a, b⟩ := re.at_ i w e1
  exact ⟨v, a, k g v (.refl s) rfl b⟩
theorem se_const {e : Expr} {w : W} {v : V} (p : PE X e (tC v)) (h : ∀ g, RW X.K g w v) : SE X e (fun _ h => .ok w h) :=
  ⟨_, p, fun g r σ w h' Q s re e k => by cases e; exact k g v (.refl s) rfl (h g)⟩

/-! ### arguments -/
theorem sa_nil : SA X [] (evs (fun (e : IE) r h => (.bad : Res W)) []) := ⟨_, pa_nil, fun g r σ w h' Q s re e k => by cases e; exact k g [] (.refl s) rfl rfl⟩
theorem star_of {e : Expr} {es : List Expr} {env : PySem.Env} (h : (match e with | .Starred _ _ => false | _ => true) = true) : starEach (e :: es) env = (false, eval e env) :: starEach es env := by
  cases e <;> first | rfl | cases h
end
end VM


set_option Elab.async false
set_option linter.all false
set_option maxRecDepth 100000
set_option maxHeartbeats 2000000
namespace VM
open PySem L2

/-! ### data -/
mutual
def datW : W → PyData
  | .non => .none
  | .bl b => .bool b
  | .int i => .int i
  | .str s => .str (sv s)
  | .tup ws => .tuple (datWs ws)
  | .lis ws => .list (datWs ws)
  | .ref _ => .none
def datWs : List W → List PyData
  | [] => []
  | w :: ws => datW w :: datWs ws
end
section
variable {K : PySem.W.Frag} {g : Sg}
mutual
theorem dp_of : ∀ {n : Nat} {w : W} {v : V}, okW n w = true → RW K g w v → Dp K g.H v (datW w)
  | _, .non, _, _, h => by cases h; exact .non
  | _, .bl b, _, _, h => by cases h; exact .bl b
  | _, .int b, _, _, h => by cases h; exact .int b
  | _, .str b, _, _, h => by cases h; exact .str _
  | 0, .tup ws, _, o, h => by cases o
  | n + 1, .tup ws, _, o, h => by
    obtain ⟨a, xs, rfl, h1, h2⟩ := h
    exact .tup h1 (dps_of (n := n) o h2)
  | 0, .lis ws, _, o, h => by cases o
  | n + 1, .lis ws, _, o, h => by
    obtain ⟨a, xs, rfl, _, h1, h2⟩ := h
    exact .lst (sqL_of h1) (dps_of (n := n) o h2)
  | _, .ref _, _, o, _ => by simp [okW] at o
theorem dps_of : ∀ {n : Nat} {ws : List W} {vs : List V}, okWs n ws = true → RWs K g ws vs → DpAll K g.H vs (datWs ws)
  | _, [], _, _, h => by cases h; exact .nil
  | n, w :: ws, _, o, h => by
    obtain ⟨x, r, rfl, h1, h2⟩ := h
    simp only [okWs, Bool.and_eq_true] at o
    exact .cons (dp_of o.1 h1) (dps_of o.2 h2)
end
end
mutual
theorem plain_dat : ∀ w : W, (datW w).plain = true
  | .non => rfl
  | .bl _ => rfl
  | .int _ => rfl
  | .str _ => rfl
  | .tup ws => plain_dats ws
  | .lis ws => plain_dats ws
  | .ref _ => rfl
theorem plain_dats : ∀ ws : List W, PyData.plainAll (datWs ws) = true
  | [] => rfl
  | w :: ws => by simp only [datWs, PyData.plainAll, plain_dat w, plain_dats ws, Bool.and_self]
end
mutual
theorem depth_dat : ∀ {n : Nat} {w : W}, okW n w = true → (datW w).depth ≤ n
  | _, .non, _ => by simp [datW, PyData.depth]
  | _, .bl _, _ => by simp [datW, PyData.depth]
  | _, .int _, _ => by simp [datW, PyData.depth]
  | _, .str _, _ => by simp [datW, PyData.depth]
  | 0, .tup ws, o => by cases o
  | n + 1, .tup ws, o => by
    have := depth_dats (n := n) (ws := ws) o
    simp only [datW, PyData.depth]
    omega
  | 0, .lis ws, o => by cases o
  | n + 1, .lis ws, o => by
    have := depth_dats (n := n) (ws := ws) o
    simp only [datW, PyData.depth]
    omega
  | _, .ref _, o => by simp [okW] at o
theorem depth_dats : ∀ {n : Nat} {ws : List W}, okWs n ws = true → PyData.depthAll (datWs ws) ≤ n
  | n, [], _ => by simp [datWs, PyData.depthAll]
  | n, w :: ws, o => by
    simp only [okWs, Bool.and_eq_true] at o
    have h1 := depth_dat o.1
    have h2 := depth_dats o.2
    simp only [datWs, PyData.depthAll]
    omega
end
theorem sv_beq (a b : List Nat) : (sv a == sv b) = eqS a b := by
  rw [Bool.eq_iff_iff, beq_iff_eq, eqS_iff]
  exact ⟨sv_inj, fun h => by rw [h]⟩
mutual
theorem eqv_dat : ∀ {n m : Nat} {a b : W}, okW n a = true → okW m b = true → PyData.eqv (datW a) (datW b) = eqP a b
  | _, _, .ref _, _, o, _ => by simp [okW] at o
  | _, _, .non, b, _, o => by cases b <;> first | rfl | (simp [okW] at o)
  | _, _, .bl a, b, _, o => by cases b <;> first | rfl | (simp [okW] at o) | (simp [datW, PyData.eqv, eqP, Bool.beq_eq_decide_eq]; done)
  | _, _, .int a, b, _, o => by cases b <;> first | rfl | (simp [okW] at o) | (simp [datW, PyData.eqv, eqP, Bool.beq_eq_decide_eq]; done)
  | _, _, .str a, b, _, o => by
    cases b with
    | str t => simp only [datW, PyData.eqv, eqP]; exact sv_beq _ _
    | ref _ => simp [okW] at o
    | _ => rfl
  | n, m, .tup as, b, o1, o2 => by
    cases b with
    | tup bs =>
      cases n with
      | zero => cases o1
      | succ n =>
        cases m with
        | zero => cases o2
        | succ m =>
          simp only [datW, PyData.eqv, eqP]
          exact eqv_dats (n := n) (m := m) o1 o2
    | ref _ => simp [okW] at o2
    | _ => rfl
  | n, m, .lis as, b, o1, o2 => by
    cases b with
    | lis bs =>
      cases n with
      | zero => cases o1
      | succ n =>
        cases m with
        | zero => cases o2
        | succ m =>
          simp only [datW, PyData.eqv, eqP]
          exact eqv_dats (n := n) (m := m) o1 o2
    | ref _ => simp [okW] at o2
    | _ => rfl
theorem eqv_dats : ∀ {n m : Nat} {a b : List W}, okWs n a = true → okWs m b = true → PyData.eqvAll (datWs a) (datWs b) = eqPs a b
  | _, _, [], [], _, _ => rfl
  | _, _, [], _ :: _, _, _ => rfl
  | _, _, _ :: _, [], _, _ => rfl
  | n, m, a :: as, b :: bs, o1, o2 => by
    simp only [okWs, Bool.and_eq_true] at o1 o2
    simp only [datWs, PyData.eqvAll, eqPs]
    rw [eqv_dat o1.1 o2.1, eqv_dats o1.2 o2.2]
end

/-! ### rules by data -/
section
variable {X : Cx}
def rEqP (K : PySem.W.Frag) (k : Bool) : R2 := fun x y H Q => ∃ d e, Dp K H x d ∧ Dp K H y e ∧ d.plain = true ∧ e.plain = true ∧ d.depth ≤ 61 ∧ Q (.bl (if k then PyData.eqv d e else !PyData.eqv d e)) H
theorem op_eqP (hu : X.A.units + 64 < cLine) : OpR X (compareOp .Eq) (rEqP X.K true) := by
  intro pins s σ H x y v u Q I rx ry h
  obtain ⟨d, e, hd, he, pd, pe, dd, q⟩ := h
  obtain ⟨as, r1⟩ := Dp.reads I d x v hd rx
  obtain ⟨bs, r2⟩ := Dp.reads I e y u he ry
  exact SeqAt.eq_plain r1 r2 pd pe (by omega) ⟨.bl _, H, I, rfl, q⟩
theorem op_neP (hu : X.A.units + 64 < cLine) : OpR X (compareOp .NotEq) (rEqP X.K false) := by
  intro pins s σ H x y v u Q I rx ry h
  obtain ⟨d, e, hd, he, pd, pe, dd, q⟩ := h
  obtain ⟨as, r1⟩ := Dp.reads I d x v hd rx
  obtain ⟨bs, r2⟩ := Dp.reads I e y u he ry
  exact SeqAt.ne_plain r1 r2 pd pe (by omega) ⟨.bl _, H, I, rfl, q⟩
def rInP (K : PySem.W.Frag) (k : Bool) : R2 := fun x y H Q => ∃ d ds, Dp K H x d ∧ (Dp K H y (.list ds) ∨ Dp K H y (.tuple ds)) ∧ d.plain = true ∧ PyData.plainAll ds = true ∧ d.depth ≤ 61 ∧ Q (.bl (if k then ds.any fun y => PyData.eqv y d else !ds.any fun y => PyData.eqv y d)) H
theorem op_inP (hu : X.A.units + 64 < cLine) : OpR X (compareOp .In) (rInP X.K true) := by
  intro pins s σ H x y v u Q I rx ry h
  obtain ⟨d, ds, hd, he, pd, pe, dd, q⟩ := h
  obtain ⟨as, r1⟩ := Dp.reads I d x v hd rx
  rcases he with he | he
  · obtain ⟨bs, r2⟩ := Dp.reads I _ y u he ry
    exact SeqAt.in_list_data r2 r1 pe pd (by omega) ⟨.bl _, H, I, rfl, q⟩
  · obtain ⟨bs, r2⟩ := Dp.reads I _ y u he ry
    exact SeqAt.in_tuple_data r2 r1 pe pd (by omega) ⟨.bl _, H, I, rfl, q⟩
theorem op_ninP (hu : X.A.units + 64 < cLine) : OpR X (compareOp .NotIn) (rInP X.K false) := by
  intro pins s σ H x y v u Q I rx ry h
  obtain ⟨d, ds, hd, he, pd, pe, dd, q⟩ := h
  obtain ⟨as, r1⟩ := Dp.reads I d x v hd rx
  rcases he with he | he
  · obtain ⟨bs, r2⟩ := Dp.reads I _ y u he ry
    exact SeqAt.notIn_list_data r2 r1 pe pd (by omega) ⟨.bl _, H, I, rfl, q⟩
  · obtain ⟨bs, r2⟩ := Dp.reads I _ y u he ry
    exact SeqAt.notIn_tuple_data r2 r1 pe pd (by omega) ⟨.bl _, H, I, rfl, q⟩

/-! ### comparisons by the evaluator -/
theorem any_dat {x : W} (ox : okW 60 x = true) : ∀ {n : Nat} {ws : List W}, okWs n ws = true → ((datWs ws).any fun y => PyData.eqv y (datW x)) = inW x ws
  | _, [], _ => rfl
  | n, w :: ws, o => by
    simp only [okWs, Bool.and_eq_true] at o
    have h := any_dat ox o.2
    simp only [datWs, List.any_cons, inW] at h ⊢
    rw [eqv_dat o.1 ox, h]
theorem ltS_iff : ∀ {a b : List Nat}, ltS a b = decide (a < b)
  | _, [] => by simp [ltS]
  | [], _ :: _ => by simp [ltS]
  | a :: as, b :: bs => by
    simp only [ltS]
    rw [ltS_iff (a := as) (b := bs)]
    by_cases h : a < b
    · simp [Nat.blt_eq, h, List.cons_lt_cons_iff]
    · by_cases e : a = b
      · subst e
        simp [List.cons_lt_cons_iff]
      · have : Nat.beq a b = false := by rw [← Bool.not_eq_true, Nat.beq_eq]; exact e
        simp [Nat.blt_eq, h, e, this, List.cons_lt_cons_iff]
/-- the operator's name -/
def C2.op : C2 → CmpOp
  | .eq => .Eq | .ne => .NotEq | .lt => .Lt | .le => .LtE | .gt => .Gt | .ge => .GtE | .is => .Is | .isn => .IsNot | .inn => .In | .nin => .NotIn
/-- what a comparison's rule must do -/
def CmpR (X : Cx) (op : C2) (r : R2) : Prop := OpR X (compareOp op.op) r ∧ ∀ (g : Sg) (x y : Arg) (b : Bool) (vx vy : V) (Q : VK), Sim X.K g → cmpA g.h op x y = some b → ArgR X.K g x vx → ArgR X.K g y vy → Q (.bl b) g.H → r vx vy g.H Q
theorem nrm_dp {g : Sg} {a : Arg} {x : W} {v : V} (s : Sim X.K g) (h : nrm g.h a = some x) (o : okW 60 x = true) (r : ArgR X.K g a v) : Dp X.K g.H v (datW x) := by
  cases a with
  | fr ws =>
    cases h
    obtain ⟨p, xs, rfl, h1, _, r1⟩ := r
    exact .lst (sqL_of h1) (dps_of (n := 59) o r1)
  | w w =>
    cases w with
    | ref p =>
      obtain ⟨ws, h1, rfl⟩ := Option.map_eq_some_iff.mp (show (cell g.h p).map W.lis = some x from h)
      obtain ⟨xs, a, r1⟩ := cell_sq s h1
      obtain ⟨_, rfl⟩ := r
      exact .lst a (dps_of (n := 59) o r1)
    | _ => cases h; exact dp_of o r
theorem eqA_dat {g : Sg} {x y : Arg} {b : Bool} {vx vy : V} (s : Sim X.K g) (h : eqA g.h x y = some b) (rx : ArgR X.K g x vx) (ry : ArgR X.K g y vy) :
    ∃ d e, Dp X.K g.H vx d ∧ Dp X.K g.H vy e ∧ d.plain = true ∧ e.plain = true ∧ d.depth ≤ 61 ∧ PyData.eqv d e = b := by
  obtain ⟨u, h1, h⟩ := Option.bind_eq_some_iff.mp h
  obtain ⟨w, h2, h⟩ := Option.bind_eq_some_iff.mp h
  unfold eqW at h
  split at h
  · rename_i o
    rw [Bool.and_eq_true] at o
    cases h
    exact ⟨_, _, nrm_dp s h1 o.1 rx, nrm_dp s h2 o.2 ry, plain_dat u, plain_dat w, Nat.le_trans (depth_dat o.1) (by decide), eqv_dat o.1 o.2⟩
  · cases h
theorem cmp_eq (hu : X.A.units + 64 < cLine) : CmpR X .eq (rEqP X.K true) := ⟨op_eqP hu, fun g x y b vx vy Q s h rx ry q => by
  obtain ⟨d, e, h1, h2, h3, h4, h5, h6⟩ := eqA_dat s (show eqA g.h x y = some b by cases x <;> cases y <;> exact h) rx ry
  exact ⟨d, e, h1, h2, h3, h4, h5, by rw [if_pos rfl, h6]; exact q⟩⟩
theorem cmp_ne (hu : X.A.units + 64 < cLine) : CmpR X .ne (rEqP X.K false) := ⟨op_neP hu, fun g x y b vx vy Q s h rx ry q => by
  have h : (eqA g.h x y).map (!·) = some b := by cases x <;> cases y <;> exact h
  obtain ⟨c, hc, rfl⟩ := Option.map_eq_some_iff.mp h
  obtain ⟨d, e, h1, h2, h3, h4, h5, h6⟩ := eqA_dat s hc rx ry
  exact ⟨d, e, h1, h2, h3, h4, h5, by rw [if_neg (by decide), h6]; exact q⟩⟩
theorem inA_dat {g : Sg} {x : W} {y : Arg} {ws : List W} {vx vy : V} (s : Sim X.K g) (ox : okW 60 x = true) (h : seqOf g.h y = some ws) (ow : okWs 60 ws = true) (rx : RW X.K g x vx) (ry : ArgR X.K g y vy) :
    Dp X.K g.H vx (datW x) ∧ (Dp X.K g.H vy (.list (datWs ws)) ∨ Dp X.K g.H vy (.tuple (datWs ws))) ∧ (datW x).depth ≤ 61 := by
  obtain ⟨p, xs, rfl, h1, h2⟩ := seqOf_sq s ry h
  refine ⟨dp_of ox rx, ?_, Nat.le_trans (depth_dat ox) (by decide)⟩
  rcases h1 with h1 | h1
  · exact .inl (.lst h1 (dps_of ow h2))
  · exact .inr (.tup h1 (dps_of ow h2))
theorem cmp_in (hu : X.A.units + 64 < cLine) : CmpR X .inn (rInP X.K true) := ⟨op_inP hu, fun g x y b vx vy Q s h rx ry q => by
  cases x with
  | fr us => cases y <;> cases h
  | w x =>
    have h : (if okW 60 x then (seqOf g.h y).bind fun ws => if okWs 60 ws then some (inW x ws) else none else none) = some b := by cases y <;> exact h
    split at h
    · rename_i ox
      obtain ⟨ws, h1, h2⟩ := Option.bind_eq_some_iff.mp h
      split at h2
      · rename_i ow
        cases h2
        obtain ⟨a1, a2, a3⟩ := inA_dat s ox h1 ow rx ry
        exact ⟨_, _, a1, a2, plain_dat x, plain_dats ws, a3, by rw [if_pos rfl, any_dat ox ow]; exact q⟩
      · cases h2
    · cases h⟩
theorem cmp_nin (hu : X.A.units + 64 < cLine) : CmpR X .nin (rInP X.K false) := ⟨op_ninP hu, fun g x y b vx vy Q s h rx ry q => by
  cases x with
  | fr us => cases y <;> cases h
  | w x =>
    have h : (if okW 60 x then (seqOf g.h y).bind fun ws => if okWs 60 ws then some (!inW x ws) else none else none) = some b := by cases y <;> exact h
    split at h
    · rename_i ox
      obtain ⟨ws, h1, h2⟩ := Option.bind_eq_some_iff.mp h
      split at h2
      · rename_i ow
        cases h2
        obtain ⟨a1, a2, a3⟩ := inA_dat s ox h1 ow rx ry
        exact ⟨_, _, a1, a2, plain_dat x, plain_dats ws, a3, by rw [if_neg (by decide), any_dat ox ow]; exact q⟩
      · cases h2
    · cases h⟩
/-- ints or texts -/
theorem cmp_lt : CmpR X .lt (fun x y H Q => (∃ i j, x = .int i ∧ y = .int j ∧ Q (.bl (decide (i < j))) H) ∨ ∃ i j, x = .str i ∧ y = .str j ∧ Q (.bl (decide (i.cps.toList < j.cps.toList))) H) := ⟨op_lt.or op_lt_str, fun g x y b vx vy Q s h rx ry q => by
  cases x with
  | fr us => cases y <;> cases h
  | w x => cases y with
    | fr us => cases x <;> cases h
    | w y =>
      cases x <;> cases y <;> cases h
      · cases rx; cases ry; exact .inl ⟨_, _, rfl, rfl, q⟩
      · cases rx; cases ry; exact .inr ⟨_, _, rfl, rfl, by rw [sv_list, sv_list, ← ltS_iff]; exact q⟩⟩
theorem cmp_le : CmpR X .le (fun x y H Q => (∃ i j, x = .int i ∧ y = .int j ∧ Q (.bl (decide (i ≤ j))) H) ∨ ∃ i j, x = .str i ∧ y = .str j ∧ Q (.bl (!decide (j.cps.toList < i.cps.toList))) H) := ⟨op_le.or op_le_str, fun g x y b vx vy Q s h rx ry q => by
  cases x with
  | fr us => cases y <;> cases h
  | w x => cases y with
    | fr us => cases x <;> cases h
    | w y =>
      cases x <;> cases y <;> cases h
      · cases rx; cases ry; exact .inl ⟨_, _, rfl, rfl, q⟩
      · cases rx; cases ry; exact .inr ⟨_, _, rfl, rfl, by rw [sv_list, sv_list, ← ltS_iff]; exact q⟩⟩
theorem cmp_gt : CmpR X .gt (fun x y H Q => (∃ i j, x = .int i ∧ y = .int j ∧ Q (.bl (decide (j < i))) H) ∨ ∃ i j, x = .str i ∧ y = .str j ∧ Q (.bl (decide (j.cps.toList < i.cps.toList))) H) := ⟨op_gt.or op_gt_str, fun g x y b vx vy Q s h rx ry q => by
  cases x with
  | fr us => cases y <;> cases h
  | w x => cases y with
    | fr us => cases x <;> cases h
    | w y =>
      cases x <;> cases y <;> cases h
      · cases rx; cases ry; exact .inl ⟨_, _, rfl, rfl, q⟩
      · cases rx; cases ry; exact .inr ⟨_, _, rfl, rfl, by rw [sv_list, sv_list, ← ltS_iff]; exact q⟩⟩
theorem cmp_ge : CmpR X .ge (fun x y H Q => (∃ i j, x = .int i ∧ y = .int j ∧ Q (.bl (decide (j ≤ i))) H) ∨ ∃ i j, x = .str i ∧ y = .str j ∧ Q (.bl (!decide (i.cps.toList < j.cps.toList))) H) := ⟨op_ge.or op_ge_str, fun g x y b vx vy Q s h rx ry q => by
  cases x with
  | fr us => cases y <;> cases h
  | w x => cases y with
    | fr us => cases x <;> cases h
    | w y =>
      cases x <;> cases y <;> cases h
      · cases rx; cases ry; exact .inl ⟨_, _, rfl, rfl, q⟩
      · cases rx; cases ry; exact .inr ⟨_, _, rfl, rfl, by rw [sv_list, sv_list, ← ltS_iff]; exact q⟩⟩
end
end VM


set_option Elab.async false
set_option linter.all false
set_option maxRecDepth 100000
set_option maxHeartbeats 2000000
namespace VM
open PySem L2

section
variable {X : Cx} {a b d e : Expr} {es : List Expr} {pos : Pos} {ma mb md : Env → VH → Res W} {va vb : Env → VH → Res Arg}

/-! ### is -/
theorem cmp_is : CmpR X .is (fun x y H Q => (y = .non ∧ Q (.bl (decide (x = .non))) H) ∨ rIsB x y H Q) := ⟨op_isN.or op_isBl, fun g x y b vx vy Q s h rx ry q => by
  cases x with
  | fr us => cases y <;> cases h
  | w x => cases y with
    | fr us => cases x <;> cases h
    | w y =>
      cases y with
      | non =>
        cases ry
        refine .inl ⟨rfl, ?_⟩
        cases x <;> cases h
        · cases rx; exact q
        · cases rx; exact q
        · cases rx; exact q
        · cases rx; exact q
        · obtain ⟨a, xs, rfl, _⟩ := rx; exact q
        · obtain ⟨a, xs, rfl, _⟩ := rx; exact q
        · obtain ⟨_, rfl⟩ := rx; exact q
      | bl c =>
        cases ry
        cases x <;> cases h
        cases rx
        exact .inr ⟨_, _, rfl, rfl, by rw [← Bool.beq_eq_decide_eq]; exact q⟩
      | _ => cases x <;> cases h⟩
theorem cmp_isn : CmpR X .isn (fun x y H Q => (y = .non ∧ Q (.bl (!decide (x = .non))) H) ∨ rNotB x y H Q) := ⟨op_notN.or op_notBl, fun g x y b vx vy Q s h rx ry q => by
  cases x with
  | fr us => cases y <;> cases h
  | w x => cases y with
    | fr us => cases x <;> cases h
    | w y =>
      cases y with
      | non =>
        cases ry
        refine .inl ⟨rfl, ?_⟩
        cases x <;> cases h
        · cases rx; exact q
        · cases rx; exact q
        · cases rx; exact q
        · cases rx; exact q
        · obtain ⟨a, xs, rfl, _⟩ := rx; exact q
        · obtain ⟨a, xs, rfl, _⟩ := rx; exact q
        · obtain ⟨_, rfl⟩ := rx; exact q
      | bl c =>
        cases ry
        cases x <;> cases h
        cases rx
        exact .inr ⟨_, _, rfl, rfl, by rw [← Bool.beq_eq_decide_eq]; exact q⟩
      | _ => cases x <;> cases h⟩
theorem cmpR (hu : X.A.units + 64 < cLine) : ∀ op : C2, ∃ r, CmpR X op r
  | .eq => ⟨_, cmp_eq hu⟩
  | .ne => ⟨_, cmp_ne hu⟩
  | .lt => ⟨_, cmp_lt⟩
  | .le => ⟨_, cmp_le⟩
  | .gt => ⟨_, cmp_gt⟩
  | .ge => ⟨_, cmp_ge⟩
  | .is => ⟨_, cmp_is⟩
  | .isn => ⟨_, cmp_isn⟩
  | .inn => ⟨_, cmp_in hu⟩
  | .nin => ⟨_, cmp_nin hu⟩
def cmpM (op : C2) (va vb : Env → VH → Res Arg) : Env → VH → Res W := fun r h => (va r h).bind fun x h1 => (vb r h1).bind fun y h2 => Res.of ((cmpA h2 op x y).map W.bl) h2
theorem se_cmp (hu : X.A.units + 64 < cLine) {op : C2} (ha : SV X a va) (hb : SV X b vb) (hm : behindInMarks op.op b = false) : SE X (.Compare a [op.op] [b] pos) (cmpM op va vb) := by
  obtain ⟨ta, pa, ia⟩ := ha
  obtain ⟨tb, pb, ib⟩ := hb
  obtain ⟨r, ho, hr⟩ := cmpR hu op
  refine ⟨_, pe_cmpR ho pa pb hm, fun g ρ σ w h' Q s re e k => ?_⟩
  obtain ⟨x, h1, e1, e⟩ := Res.bind_ok e
  obtain ⟨y, h2, e2, e⟩ := Res.bind_ok e
  obtain ⟨e, rfl⟩ := Res.of_ok e
  obtain ⟨c, hc, rfl⟩ := Option.map_eq_some_iff.mp e
  refine ia g ρ σ x h1 _ s re e1 fun g1 v1 t1 q1 r1 => ?_
  subst q1
  refine ib g1 ρ σ y _ _ t1.sim (re.kp (t1.kp s)) e2 fun g2 v2 t2 q2 r2 => ?_
  subst q2
  exact hr g2 x y c v1 v2 Q t2.sim hc (r1.stp t1.sim t2) r2 (k g2 _ (t1.trans t2) rfl rfl)
def tvM (m : Env → VH → Res W) : Env → VH → Res Bool := fun r h => (m r h).bind fun w h1 => match w with
  | .bl b => .ok b h1
  | _ => .bad
theorem tvM_ok {m : Env → VH → Res W} {r : Env} {h h' : VH} {b : Bool} (e : tvM m r h = .ok b h') : m r h = .ok (.bl b) h' := by
  obtain ⟨w, h1, e1, e2⟩ := Res.bind_ok e
  cases w <;> cases e2
  exact e1
/-- a value that is a truth value, as a test -/
theorem stt_of {t : TT} {m : Env → VH → Res W} (h : SE X e m) (hp : ∀ t : TE, PE X e t → PT X e (tB t)) : STt X e (tvM m) := by
  obtain ⟨t, p, i⟩ := h
  refine ⟨_, hp t p, fun g ρ σ b h' Q s re e k => ?_⟩
  exact i g ρ σ (.bl b) h' _ s re (tvM_ok e) fun g' v st eh rw => ⟨b, rw, k g' st eh⟩
theorem stt_cmp (hu : X.A.units + 64 < cLine) {op : C2} (ha : SV X a va) (hb : SV X b vb) (hm : behindInMarks op.op b = false) : STt X (.Compare a [op.op] [b] pos) (tvM (cmpM op va vb)) := by
  obtain ⟨ta, pa, ia⟩ := ha
  obtain ⟨tb, pb, ib⟩ := hb
  obtain ⟨r, ho, hr⟩ := cmpR hu op
  refine ⟨_, pt_cmpR ho pa pb hm, fun g ρ σ w h' Q s re e k => ?_⟩
  have e := tvM_ok e
  obtain ⟨x, h1, e1, e⟩ := Res.bind_ok e
  obtain ⟨y, h2, e2, e⟩ := Res.bind_ok e
  obtain ⟨e, rfl⟩ := Res.of_ok e
  obtain ⟨c, hc, ec⟩ := Option.map_eq_some_iff.mp e
  cases ec
  refine ia g ρ σ x h1 _ s re e1 fun g1 v1 t1 q1 r1 => ?_
  subst q1
  refine ib g1 ρ σ y _ _ t1.sim (re.kp (t1.kp s)) e2 fun g2 v2 t2 q2 r2 => ?_
  subst q2
  exact hr g2 x y _ v1 v2 _ t2.sim hc (r1.stp t1.sim t2) r2 ⟨_, rfl, k g2 (t1.trans t2) rfl⟩
def chnM (op op' : C2) (ma mb md : Env → VH → Res W) : Env → VH → Res W := fun r h => (ma r h).bind fun x h1 => (mb r h1).bind fun y h2 => match cmpA h2 op (.w x) (.w y) with
    | some true => (md r h2).bind fun z h3 => Res.of ((cmpA h3 op' (.w y) (.w z)).map W.bl) h3
    | some false => .ok (.bl false) h2
    | none => .bad
theorem chn_core {r r' : R2} {op op' : C2} {ta tb td : TE} (hr : ∀ (g : Sg) (x y : Arg) (b : Bool) (vx vy : V) (Q : VK), Sim X.K g → cmpA g.h op x y = some b → ArgR X.K g x vx → ArgR X.K g y vy → Q (.bl b) g.H → r vx vy g.H Q)
    (hr' : ∀ (g : Sg) (x y : Arg) (b : Bool) (vx vy : V) (Q : VK), Sim X.K g → cmpA g.h op' x y = some b → ArgR X.K g x vx → ArgR X.K g y vy → Q (.bl b) g.H → r' vx vy g.H Q)
    (ia : ∀ (g : Sg) (r : Env) (σ : L2.St) (w : W) (h' : VH) (Q : VK), Sim X.K g → RE X.K g r σ → ma r g.h = .ok w h' → (∀ g' v, Stp X.K g g' → g'.h = h' → RW X.K g' w v → Q v g'.H) → ta σ g.H Q)
    (ib : ∀ (g : Sg) (r : Env) (σ : L2.St) (w : W) (h' : VH) (Q : VK), Sim X.K g → RE X.K g r σ → mb r g.h = .ok w h' → (∀ g' v, Stp X.K g g' → g'.h = h' → RW X.K g' w v → Q v g'.H) → tb σ g.H Q)
    (id : ∀ (g : Sg) (r : Env) (σ : L2.St) (w : W) (h' : VH) (Q : VK), Sim X.K g → RE X.K g r σ → md r g.h = .ok w h' → (∀ g' v, Stp X.K g g' → g'.h = h' → RW X.K g' w v → Q v g'.H) → td σ g.H Q)
    (g : Sg) (ρ : Env) (σ : L2.St) (w : W) (h' : VH) (Q : VK) (s : Sim X.K g) (re : RE X.K g ρ σ) (e : chnM op op' ma mb md ρ g.h = .ok w h') (k : ∀ g' v, Stp X.K g g' → g'.h = h' → RW X.K g' w v → Q v g'.H) : tChain r r' ta tb td σ g.H Q := by
  obtain ⟨x, h1, e1, e⟩ := Res.bind_ok e
  obtain ⟨y, h2, e2, e⟩ := Res.bind_ok e
  refine ia g ρ σ x h1 _ s re e1 fun g1 v1 t1 q1 r1 => ?_
  subst q1
  refine ib g1 ρ σ y _ _ t1.sim (re.kp (t1.kp s)) e2 fun g2 v2 t2 q2 r2 => ?_
  subst q2
  have t12 := t1.trans t2
  have r1' := r1.kp (t2.kp t1.sim)
  cases hc : cmpA g2.h op (.w x) (.w y) with
  | none => simp only [hc] at e; cases e
  | some c =>
    simp only [hc] at e
    refine hr g2 (.w x) (.w y) c v1 v2 _ t2.sim hc r1' r2 ⟨c, rfl, ?_⟩
    cases c with
    | false =>
      cases e
      exact iteF (k g2 _ t12 rfl rfl)
    | true =>
      refine iteT ?_
      obtain ⟨z, h3, e3, e⟩ := Res.bind_ok e
      obtain ⟨e, rfl⟩ := Res.of_ok e
      obtain ⟨c, hc', rfl⟩ := Option.map_eq_some_iff.mp e
      refine id g2 ρ σ z _ _ t2.sim (re.kp (t12.kp s)) e3 fun g3 v3 t3 q3 r3 => ?_
      subst q3
      exact hr' g3 (.w y) (.w z) c v2 v3 Q t3.sim hc' (r2.kp (t3.kp t2.sim)) r3 (k g3 _ (t12.trans t3) rfl rfl)
theorem se_chn (hu : X.A.units + 64 < cLine) {op op' : C2} (ha : SE X a ma) (hb : SE X b mb) (hd : SE X d md) (hm : lastMarks [op.op, op'.op] [b, d] = false) : SE X (.Compare a [op.op, op'.op] [b, d] pos) (chnM op op' ma mb md) := by
  obtain ⟨ta, pa, ia⟩ := ha
  obtain ⟨tb, pb, ib⟩ := hb
  obtain ⟨td, pd, id⟩ := hd
  obtain ⟨r, ho, hr⟩ := cmpR hu op
  obtain ⟨r', ho', hr'⟩ := cmpR hu op'
  exact ⟨_, pe_chain ho ho' pa pb pd hm, fun g ρ σ w h' Q s re e k => chn_core hr hr' ia ib id g ρ σ w h' Q s re e k⟩
theorem stt_chn (hu : X.A.units + 64 < cLine) {op op' : C2} (ha : SE X a ma) (hb : SE X b mb) (hd : SE X d md) (hm : lastMarks [op.op, op'.op] [b, d] = false) : STt X (.Compare a [op.op, op'.op] [b, d] pos) (tvM (chnM op op' ma mb md)) := by
  obtain ⟨ta, pa, ia⟩ := ha
  obtain ⟨tb, pb, ib⟩ := hb
  obtain ⟨td, pd, id⟩ := hd
  obtain ⟨r, ho, hr⟩ := cmpR hu op
  obtain ⟨r', ho', hr'⟩ := cmpR hu op'
  exact ⟨_, pt_chain ho ho' pa pb pd hm, fun g ρ σ b h' Q s re e k => chn_core hr hr' ia ib id g ρ σ (.bl b) h' _ s re (tvM_ok e) fun g' v st eh rw => ⟨b, rw, k g' st eh⟩⟩

/-! ### arithmetic -/
def binM (op : B2) (ma mb : Env → VH → Res W) : Env → VH → Res W := fun r h => (ma r h).bind fun x h1 => (mb r h1).bind fun y h2 => Res.of (arith op x y) h2
def B2.op : B2 → Operator
  | .add => .Add | .sub => .Sub | .mul => .Mult | .fdiv => .FloorDiv | .mod => .Mod | .pow => .Pow
def BinR (X : Cx) (op : B2) (r : R2) : Prop := OpR X (binaryOp op.op) r ∧ ∀ (g : Sg) (x y z : W) (vx vy : V) (Q : VK), arith op x y = some z → RW X.K g x vx → RW X.K g y vy → (∀ v, RW X.K g z v → Q v g.H) → r vx vy g.H Q
theorem sizeLine_le {n : Nat} (h : n ≤ size) : n ≤ sizeLine := Nat.le_trans h (by decide)
theorem sizeLine_lt {n : Nat} (h : n < size) : n < sizeLine := Nat.lt_of_lt_of_le h (by decide)
theorem sv_append (a b : List Nat) : sv a ++ sv b = sv (a ++ b) := by
  show (⟨(sv a).cps ++ (sv b).cps⟩ : Str) = _
  simp [sv]
theorem bin_add : BinR X .add (fun x y H Q => (∃ i j, x = .int i ∧ y = .int j ∧ Q (.int (i + j)) H) ∨ ∃ i j, x = .str i ∧ y = .str j ∧ i.length + j.length ≤ sizeLine ∧ Q (.str (i ++ j)) H) := ⟨op_add.or op_add_str, fun g x y z vx vy Q h rx ry q => by
  cases x <;> cases y <;> first | (cases h; done) | skip
  · cases h; cases rx; cases ry; exact .inl ⟨_, _, rfl, rfl, q _ rfl⟩
  · simp only [arith] at h
    split at h
    · rename_i hl
      cases h
      cases rx
      cases ry
      refine .inr ⟨_, _, rfl, rfl, ?_, by rw [sv_append]; exact q _ rfl⟩
      rw [sv_len, sv_len]
      exact sizeLine_le (Nat.le_of_ble_eq_true hl)
    · cases h⟩
theorem bin_sub : BinR X .sub (rI0 fun i j => .int (i - j)) := ⟨op_sub, fun g x y z vx vy Q h rx ry q => by
  cases x <;> cases y <;> first | (cases h; done) | skip
  cases h; cases rx; cases ry; exact ⟨_, _, rfl, rfl, q _ rfl⟩⟩
theorem foldl_reps (z : Array Nat) : ∀ (n : Nat) (acc : List Nat), ((List.replicate n z).foldl (· ++ ·) acc.toArray) = (acc ++ reps z.toList n).toArray
  | 0, acc => by simp [reps]
  | n + 1, acc => by
    rw [List.replicate_succ, List.foldl_cons]
    have e : acc.toArray ++ z = (acc ++ z.toList).toArray := by simp
    rw [e, foldl_reps z n (acc ++ z.toList)]
    simp [reps]
theorem reps_nil {α : Type} : ∀ n : Nat, reps ([] : List α) n = []
  | 0 => rfl
  | n + 1 => by simp [reps, reps_nil n]
theorem mul_sv {a : List Nat} {j : Int} (h : 0 ≤ j) : Txt.mul (sv a) j = sv (reps a j.toNat) := by
  unfold Txt.mul
  by_cases h1 : j < 1
  · have : j = 0 := by omega
    subst this
    rfl
  · rw [if_neg h1]
    split
    · rename_i hc
      simp only [Bool.or_eq_true, beq_iff_eq, sv_len] at hc
      rcases hc with hc | hc
      · subst hc
        simp [reps, sv]
      · have : a = [] := List.length_eq_zero_iff.mp hc
        subst this
        rw [reps_nil]
    · have := foldl_reps (sv a).cps j.toNat []
      simp only [List.nil_append, sv_list] at this
      show (⟨_⟩ : Str) = ⟨_⟩
      rw [← this]
theorem op_mulS : OpR X (binaryOp .Mult) (fun x y H Q => ∃ i j, x = .str i ∧ y = .int j ∧ MulOk i j ∧ Q (.str (Txt.mul i j)) H) := by
  intro pins s σ H x y v u Q I rx ry h
  obtain ⟨i, j, rfl, rfl, hk, q⟩ := h
  obtain ⟨t, rfl⟩ := rx
  obtain ⟨t', rfl⟩ := ry
  exact SB.mul hk fun t' k => ⟨.str _, H, I.tok _, ⟨_, rfl⟩, q⟩
theorem bin_mul : BinR X .mul (fun x y H Q => (rI CMul (fun i j => .int (i * j)) x y H Q ∨ rI CMulW (fun i j => .int (i * j)) x y H Q) ∨ ∃ i j, x = .str i ∧ y = .int j ∧ MulOk i j ∧ Q (.str (Txt.mul i j)) H) := ⟨(op_mul.or op_mulW).or op_mulS, fun g x y z vx vy Q h rx ry q => by
  cases x <;> cases y <;> first | (cases h; done) | skip
  · rename_i i j
    simp only [arith] at h
    split at h
    · rename_i hm
      cases h
      cases rx
      cases ry
      simp only [mulOk, Bool.or_eq_true, Nat.blt_eq] at hm
      rcases hm with (hm | hm) | hm
      · exact .inl (.inr ⟨_, _, rfl, rfl, hm, q _ rfl⟩)
      · exact .inl (.inl ⟨_, _, rfl, rfl, .inl ⟨by omega, by omega⟩, q _ rfl⟩)
      · exact .inl (.inl ⟨_, _, rfl, rfl, .inr ⟨by omega, by omega⟩, q _ rfl⟩)
    · cases h
  · rename_i a j
    simp only [arith] at h
    split at h
    · rename_i hm
      cases h
      cases rx
      cases ry
      simp only [Bool.and_eq_true, decide_eq_true_eq] at hm
      obtain ⟨⟨h0, h1⟩, h2⟩ := hm
      have h1 : a.length * j.toNat ≤ 1000000 := Nat.le_of_ble_eq_true h1
      refine .inr ⟨_, _, rfl, rfl, ⟨?_, fun hj _ => ?_, fun hj _ => ?_⟩, by rw [mul_sv h0]; exact q _ rfl⟩
      · simp only [Bool.or_eq_false_iff, decide_eq_false_iff_not]
        omega
      · rw [sv_len]
        have hz : (a.length : Int) * j ≤ 1000000 := by
          have : ((a.length * j.toNat : Nat) : Int) ≤ 1000000 := by omega
          rw [Int.natCast_mul, Int.toNat_of_nonneg h0] at this
          exact this
        have : (a.length : Int) ≤ (2 ^ 63 - 1) / j := by
          rw [Int.le_ediv_iff_mul_le (by omega)]
          omega
        omega
      · rw [sv_len]
        unfold Builtin.Str.tooLong
        have : sizeLine = 16777216 := sizeLine_eq
        simp only [decide_eq_false_iff_not]
        omega
    · cases h⟩
theorem bin_fdiv : BinR X .fdiv (rI CDivW fun i j => .int (i / j)) := ⟨op_fdivW, fun g x y z vx vy Q h rx ry q => by
  cases x <;> cases y <;> first | (cases h; done) | skip
  simp only [arith] at h
  split at h
  · rename_i hm
    cases h
    cases rx
    cases ry
    simp only [Bool.and_eq_true, decide_eq_true_eq, Nat.blt_eq] at hm
    exact ⟨_, _, rfl, rfl, hm, q _ rfl⟩
  · cases h⟩
theorem bin_mod : BinR X .mod (rI (fun _ j => 0 < j) fun i j => .int (i % j)) := ⟨op_mod, fun g x y z vx vy Q h rx ry q => by
  cases x <;> cases y <;> first | (cases h; done) | skip
  simp only [arith] at h
  split at h
  · rename_i hm
    cases h
    cases rx
    cases ry
    exact ⟨_, _, rfl, rfl, of_decide_eq_true hm, q _ rfl⟩
  · cases h⟩
theorem bin_pow : BinR X .pow (rI CPow fun i j => .int (i ^ j.toNat)) := ⟨op_pow, fun g x y z vx vy Q h rx ry q => by
  cases x <;> cases y <;> first | (cases h; done) | skip
  simp only [arith] at h
  split at h
  · rename_i hm
    cases h
    cases rx
    cases ry
    simp only [Bool.and_eq_true, decide_eq_true_eq, Nat.blt_eq] at hm
    exact ⟨_, _, rfl, rfl, ⟨hm.1.1, by omega, hm.2⟩, q _ rfl⟩
  · cases h⟩
theorem binR : ∀ op : B2, ∃ r, BinR X op r
  | .add => ⟨_, bin_add⟩
  | .sub => ⟨_, bin_sub⟩
  | .mul => ⟨_, bin_mul⟩
  | .fdiv => ⟨_, bin_fdiv⟩
  | .mod => ⟨_, bin_mod⟩
  | .pow => ⟨_, bin_pow⟩
theorem se_bin {op : B2} (ha : SE X a ma) (hb : SE X b mb) : SE X (.BinOp a op.op b pos) (binM op ma mb) := by
  obtain ⟨ta, pa, ia⟩ := ha
  obtain ⟨tb, pb, ib⟩ := hb
  obtain ⟨r, ho, hr⟩ := binR (X := X) op
  refine ⟨_, pe_op ho pa pb, fun g ρ σ w h' Q s re e k => ?_⟩
  obtain ⟨x, h1, e1, e⟩ := Res.bind_ok e
  obtain ⟨y, h2, e2, e⟩ := Res.bind_ok e
  obtain ⟨ea, rfl⟩ := Res.of_ok e
  refine ia g ρ σ x h1 _ s re e1 fun g1 v1 t1 q1 r1 => ?_
  subst q1
  refine ib g1 ρ σ y _ _ t1.sim (re.kp (t1.kp s)) e2 fun g2 v2 t2 q2 r2 => ?_
  subst q2
  exact hr g2 x y w v1 v2 Q ea (r1.kp (t2.kp t1.sim)) r2 fun v rv => k g2 v (t1.trans t2) rfl rv
def negM (ma : Env → VH → Res W) : Env → VH → Res W := fun r h => (ma r h).bind fun x h1 => match x with
    | .int i => .ok (.int (-i)) h1
    | _ => .bad
theorem se_neg (ha : SE X a ma) : SE X (.UnaryOp .USub a pos) (negM ma) := by
  obtain ⟨ta, pa, ia⟩ := ha
  refine ⟨_, pe_un un_neg pa, fun g ρ σ w h' Q s re e k => ?_⟩
  obtain ⟨x, h1, e1, e⟩ := Res.bind_ok e
  refine ia g ρ σ x h1 _ s re e1 fun g1 v1 t1 q1 r1 => ?_
  cases x <;> cases e
  cases r1
  exact ⟨_, rfl, k g1 _ t1 q1 rfl⟩

/-! ### tuples, lists, arguments -/
def notStar : Expr → Bool
  | .Starred _ _ => false
  | _ => true
theorem star_ (h : notStar e = true) {env : PySem.Env} : starEach (e :: es) env = (false, eval e env) :: starEach es env := by
  cases e <;> first | rfl | cases h
theorem star_any {env : PySem.Env} {pos : Pos} : ∀ {es : List Expr}, es.all notStar = true → (backTo pos (starEach es env)).any (·.1) = false
  | [], _ => rfl
  | e :: es, h => by
    rw [List.all_cons, Bool.and_eq_true] at h
    rw [star_ h.1]
    have := star_any (env := env) (pos := pos) h.2
    simp only [backTo, List.map_cons, List.any_cons, Bool.false_or] at this ⊢
    exact this
def consM {α : Type} (m : Env → VH → Res α) (ms : Env → VH → Res (List α)) : Env → VH → Res (List α) := fun r h => (m r h).bind fun w h1 => (ms r h1).bind fun ws h2 => .ok (w :: ws) h2
def nilM {α : Type} : Env → VH → Res (List α) := fun _ h => .ok [] h
theorem sa_nil' : SA X [] nilM := ⟨_, pa_nil, fun g r σ w h' Q s re e k => by cases e; exact k g [] (.refl s) rfl rfl⟩
theorem sa_cons {m : Env → VH → Res W} {ms : Env → VH → Res (List W)} (hn : notStar e = true) (ha : SE X e m) (hr : SA X es ms) : SA X (e :: es) (consM m ms) := by
  obtain ⟨ta, pa, ia⟩ := ha
  obtain ⟨tb, pb, ib⟩ := hr
  refine ⟨_, pa_cons pa pb (star_ hn), fun g ρ σ w h' Q s re e k => ?_⟩
  obtain ⟨x, h1, e1, e⟩ := Res.bind_ok e
  obtain ⟨y, h2, e2, e⟩ := Res.bind_ok e
  cases e
  refine ia g ρ σ x h1 _ s re e1 fun g1 v1 t1 q1 r1 => ?_
  subst q1
  refine ib g1 ρ σ y _ _ t1.sim (re.kp (t1.kp s)) e2 fun g2 v2 t2 q2 r2 => ?_
  exact k g2 _ (t1.trans t2) q2 ⟨v1, v2, rfl, r1.kp (t2.kp t1.sim), r2⟩
theorem sav_nil : SAV X [] nilM := ⟨_, pa_nil, fun g r σ w h' Q s re e k => by cases e; exact k g [] (.refl s) rfl rfl⟩
theorem sav_cons {m : Env → VH → Res Arg} {ms : Env → VH → Res (List Arg)} (hn : notStar e = true) (ha : SV X e m) (hr : SAV X es ms) : SAV X (e :: es) (consM m ms) := by
  obtain ⟨ta, pa, ia⟩ := ha
  obtain ⟨tb, pb, ib⟩ := hr
  refine ⟨_, pa_cons pa pb (star_ hn), fun g ρ σ w h' Q s re e k => ?_⟩
  obtain ⟨x, h1, e1, e⟩ := Res.bind_ok e
  obtain ⟨y, h2, e2, e⟩ := Res.bind_ok e
  cases e
  refine ia g ρ σ x h1 _ s re e1 fun g1 v1 t1 q1 r1 => ?_
  subst q1
  refine ib g1 ρ σ y _ _ t1.sim (re.kp (t1.kp s)) e2 fun g2 v2 t2 q2 r2 => ?_
  exact k g2 _ (t1.trans t2) q2 ⟨v1, v2, rfl, r1.stp t1.sim t2, r2⟩
theorem se_tup {ms : Env → VH → Res (List W)} {x1} (h : SA X es ms) (hl : ∀ r h ws h', ms r h = .ok ws h' → ws.length ≤ size) : SE X (.Tuple es x1 pos) (fun r h => (ms r h).bind fun ws h1 => .ok (.tup ws) h1) := by
  obtain ⟨t, p, i⟩ := h
  refine ⟨_, pe_tup p, fun g ρ σ w h' Q s re e k => ?_⟩
  obtain ⟨ws, h1, e1, e⟩ := Res.bind_ok e
  cases e
  refine i g ρ σ ws _ _ s re e1 fun g1 vs t1 q1 r1 => ⟨?_, fun p hp => ?_⟩
  · rw [← r1.length]
    exact sizeLine_le (hl _ _ _ _ e1)
  · have t2 := Stp.lay (o := .tup vs) t1.sim hp
    refine k { g1 with H := upd g1.H p (.tup vs) } _ (t1.trans t2) q1 ⟨p, vs, rfl, .inl (.inl upd_same), r1.kp (t2.kp t1.sim)⟩
theorem sl_lst {ms : Env → VH → Res (List W)} (h : SA X es ms) (hl : ∀ r h ws h', ms r h = .ok ws h' → ws.length ≤ size) : SL X (.List es pos) ms := by
  obtain ⟨t, p, i⟩ := h
  refine ⟨_, pe_lst p, fun g ρ σ ws h' Q s re e k => ?_⟩
  refine i g ρ σ ws _ _ s re e fun g1 vs t1 q1 r1 => ⟨?_, fun p hp => ?_⟩
  · rw [← r1.length]
    exact sizeLine_le (hl _ _ _ _ e)
  · have t2 := Stp.lay (o := .lst vs) t1.sim hp
    exact k { g1 with H := upd g1.H p (.lst vs) } p vs (t1.trans t2) q1 (t1.bk _ hp) upd_same (t1.sim.outNone hp) (r1.kp (t2.kp t1.sim))

/-! ### and, or, not, if -/
theorem se_one {op : PySem.BoolOp} (h : SE X a ma) : SE X (.BoolOp op [a] pos) ma := by
  obtain ⟨t, p, i⟩ := h
  exact ⟨_, pe_one p, i⟩
def andM (ma mb : Env → VH → Res W) : Env → VH → Res W := fun r h => (ma r h).bind fun w h1 => match w with
    | .bl true => mb r h1
    | .bl false => .ok (.bl false) h1
    | _ => .bad
def orM (ma mb : Env → VH → Res W) : Env → VH → Res W := fun r h => (ma r h).bind fun w h1 => match w with
    | .bl true => .ok (.bl true) h1
    | .bl false => mb r h1
    | _ => .bad
theorem se_and (ha : SE X a ma) (hb : SE X (.BoolOp .And (b :: es) pos) mb) : SE X (.BoolOp .And (a :: b :: es) pos) (andM ma mb) := by
  obtain ⟨ta, pa, ia⟩ := ha
  obtain ⟨tb, pb, ib⟩ := hb
  refine ⟨_, pe_and pa pb, fun g ρ σ w h' Q s re e k => ?_⟩
  obtain ⟨x, h1, e1, e⟩ := Res.bind_ok e
  refine ia g ρ σ x h1 _ s re e1 fun g1 v1 t1 q1 r1 => ?_
  cases x with
  | bl c =>
    cases r1
    refine ⟨c, rfl, ?_⟩
    cases c with
    | false => cases e; exact iteF (k g1 _ t1 q1 rfl)
    | true =>
      subst q1
      exact iteT (ib g1 ρ σ w h' _ t1.sim (re.kp (t1.kp s)) e fun g2 v2 t2 q2 r2 => k g2 v2 (t1.trans t2) q2 r2)
  | _ => cases e
theorem se_or (ha : SE X a ma) (hb : SE X (.BoolOp .Or (b :: es) pos) mb) : SE X (.BoolOp .Or (a :: b :: es) pos) (orM ma mb) := by
  obtain ⟨ta, pa, ia⟩ := ha
  obtain ⟨tb, pb, ib⟩ := hb
  refine ⟨_, pe_or pa pb, fun g ρ σ w h' Q s re e k => ?_⟩
  obtain ⟨x, h1, e1, e⟩ := Res.bind_ok e
  refine ia g ρ σ x h1 _ s re e1 fun g1 v1 t1 q1 r1 => ?_
  cases x with
  | bl c =>
    cases r1
    refine ⟨c, rfl, ?_⟩
    cases c with
    | true => cases e; exact iteT (k g1 _ t1 q1 rfl)
    | false =>
      subst q1
      exact iteF (ib g1 ρ σ w h' _ t1.sim (re.kp (t1.kp s)) e fun g2 v2 t2 q2 r2 => k g2 v2 (t1.trans t2) q2 r2)
  | _ => cases e
def notM (ma : Env → VH → Res W) : Env → VH → Res W := fun r h => (ma r h).bind fun x h1 => match x with
    | .bl b => .ok (.bl (!b)) h1
    | _ => .bad
theorem se_not (ha : SE X a ma) : SE X (.UnaryOp .Not a pos) (notM ma) := by
  obtain ⟨ta, pa, ia⟩ := ha
  refine ⟨_, pe_not pa, fun g ρ σ w h' Q s re e k => ?_⟩
  obtain ⟨x, h1, e1, e⟩ := Res.bind_ok e
  refine ia g ρ σ x h1 _ s re e1 fun g1 v1 t1 q1 r1 => ?_
  cases x <;> cases e
  cases r1
  exact ⟨_, rfl, k g1 _ t1 q1 rfl⟩
variable {mt mu : Env → VH → Res Bool}
theorem se_ite (ht : STt X d mt) (ha : SE X a ma) (hb : SE X b mb) : SE X (.IfExp d a b pos) (fun r h => (mt r h).bind fun x h1 => if x then ma r h1 else mb r h1) := by
  obtain ⟨tt, pt, it⟩ := ht
  obtain ⟨ta, pa, ia⟩ := ha
  obtain ⟨tb, pb, ib⟩ := hb
  refine ⟨_, pe_ifExp pt pa pb, fun g ρ σ w h' Q s re e k => ?_⟩
  obtain ⟨x, h1, e1, e⟩ := Res.bind_ok e
  refine it g ρ σ x h1 _ s re e1 fun g1 t1 q1 => ?_
  subst q1
  cases x with
  | true => exact iteT (ia g1 ρ σ w h' _ t1.sim (re.kp (t1.kp s)) e fun g2 v2 t2 q2 r2 => k g2 v2 (t1.trans t2) q2 r2)
  | false => exact iteF (ib g1 ρ σ w h' _ t1.sim (re.kp (t1.kp s)) e fun g2 v2 t2 q2 r2 => k g2 v2 (t1.trans t2) q2 r2)
/-- tests -/
def SW (X : Cx) (e : Expr) (m : Env → VH → Res Bool) : Prop := ∃ t : TT, PW X e t ∧ ∀ (g : Sg) (r : Env) (σ : L2.St) (b : Bool) (h' : VH) (Q : Bool → Hp → Prop), Sim X.K g → RE X.K g r σ → m r g.h = .ok b h' →
  (∀ g', Stp X.K g g' → g'.h = h' → Q b g'.H) → t σ g.H Q
theorem SW.stt (h : SW X e mt) : STt X e mt := let ⟨t, p, i⟩ := h; ⟨t, p.pt, i⟩
theorem sw_and1 (h : STt X a mt) : SW X (.BoolOp .And [a] pos) mt := let ⟨t, p, i⟩ := h; ⟨t, pw_and1 p, i⟩
theorem sw_or1 (h : STt X a mt) : SW X (.BoolOp .Or [a] pos) mt := let ⟨t, p, i⟩ := h; ⟨t, pw_or1 p, i⟩
theorem sw_and (ha : STt X a mt) (hb : SW X (.BoolOp .And (b :: es) pos) mu) : SW X (.BoolOp .And (a :: b :: es) pos) (fun r h => (mt r h).bind fun b h1 => if b then mu r h1 else .ok false h1) := by
  obtain ⟨ta, pa, ia⟩ := ha
  obtain ⟨tb, pb, ib⟩ := hb
  refine ⟨_, pw_and pa pb, fun g ρ σ w h' Q s re e k => ?_⟩
  obtain ⟨x, h1, e1, e⟩ := Res.bind_ok e
  refine ia g ρ σ x h1 _ s re e1 fun g1 t1 q1 => ?_
  subst q1
  cases x with
  | true => exact iteT (ib g1 ρ σ w h' _ t1.sim (re.kp (t1.kp s)) e fun g2 t2 q2 => k g2 (t1.trans t2) q2)
  | false => cases e; exact iteF (k g1 t1 rfl)
theorem sw_or (ha : STt X a mt) (hb : SW X (.BoolOp .Or (b :: es) pos) mu) : SW X (.BoolOp .Or (a :: b :: es) pos) (fun r h => (mt r h).bind fun b h1 => if b then .ok true h1 else mu r h1) := by
  obtain ⟨ta, pa, ia⟩ := ha
  obtain ⟨tb, pb, ib⟩ := hb
  refine ⟨_, pw_or pa pb, fun g ρ σ w h' Q s re e k => ?_⟩
  obtain ⟨x, h1, e1, e⟩ := Res.bind_ok e
  refine ia g ρ σ x h1 _ s re e1 fun g1 t1 q1 => ?_
  subst q1
  cases x with
  | true => cases e; exact iteT (k g1 t1 rfl)
  | false => exact iteF (ib g1 ρ σ w h' _ t1.sim (re.kp (t1.kp s)) e fun g2 t2 q2 => k g2 (t1.trans t2) q2)
theorem stt_not (ha : STt X a mt) : STt X (.UnaryOp .Not a pos) (fun r h => (mt r h).bind fun b h1 => .ok (!b) h1) := by
  obtain ⟨ta, pa, ia⟩ := ha
  refine ⟨_, pt_not pa, fun g ρ σ w h' Q s re e k => ?_⟩
  obtain ⟨x, h1, e1, e⟩ := Res.bind_ok e
  cases e
  exact ia g ρ σ x _ _ s re e1 fun g1 t1 q1 => k g1 t1 q1
end
end VM


set_option Elab.async false
set_option linter.all false
set_option maxRecDepth 100000
set_option maxHeartbeats 2000000
namespace VM
open PySem L2

section
variable {X : Cx} {a b d e : Expr} {es : List Expr} {pos : Pos} {ma mb md : Env → VH → Res W} {va vb : Env → VH → Res Arg}
/-! ### a[i] -/
theorem ix_N {n : Nat} {i : Int} {j : Nat} (h : ix n i = some j) : ixN n i = some j ∧ j < n := by
  unfold ix at h
  unfold ixN
  cases i with
  | ofNat k =>
    simp only at h
    split at h
    · rename_i hk
      cases h
      have hk : j < n := by simpa [Nat.blt_eq] using hk
      rw [if_pos (by simp), if_pos (by simpa using hk)]
      exact ⟨by simp, hk⟩
    · cases h
  | negSucc k =>
    simp only at h
    split at h
    · rename_i hk
      cases h
      have hk : k < n := by simpa [Nat.blt_eq] using hk
      rw [if_neg (by omega), if_pos (by omega)]
      exact ⟨by congr 1; omega, by omega⟩
    · cases h
def plainIx : Expr → Bool
  | .Slice _ _ _ _ => false
  | _ => true
theorem plainIx_ok (h : plainIx b = true) : PlainIx b := by
  cases b <;> first | (exact fun _ _ => rfl) | cases h
theorem plainIx_no (h : plainIx b = true) : NoSl b := by
  cases b <;> first | (exact fun _ _ => rfl) | cases h
def idxM (va : Env → VH → Res Arg) (mb : Env → VH → Res W) : Env → VH → Res W := fun r h => (va r h).bind fun x h1 => (mb r h1).bind fun k h2 => Res.of (idxA h2 x k) h2
theorem se_idx (ha : SV X a va) (hb : SE X b mb) (hp : plainIx b = true) : SE X (.Subscript a b pos) (idxM va mb) := by
  obtain ⟨ta, pa, ia⟩ := ha
  obtain ⟨tb, pb, ib⟩ := hb
  refine ⟨_, pe_ix ix_seq pa pb (plainIx_ok hp), fun g ρ σ w h' Q s re e k => ?_⟩
  obtain ⟨x, h1, e1, e⟩ := Res.bind_ok e
  obtain ⟨y, h2, e2, e⟩ := Res.bind_ok e
  obtain ⟨ea, rfl⟩ := Res.of_ok e
  refine ia g ρ σ x h1 _ s re e1 fun g1 v1 t1 q1 r1 => ?_
  subst q1
  refine ib g1 ρ σ y _ _ t1.sim (re.kp (t1.kp s)) e2 fun g2 v2 t2 q2 r2 => ?_
  subst q2
  have r1' := r1.stp t1.sim t2
  have fin : ∀ v, RW X.K g2 w v → Q v g2.H := fun v rv => k g2 v (t1.trans t2) rfl rv
  cases y with
  | int i =>
    cases r2
    have seq : ∀ {ws : List W}, seqOf g2.h x = some ws → ((ix ws.length i).bind fun j => nth ws j) = some w → rIx X.K v1 (.int i) g2.H Q := by
      intro ws hs hb
      obtain ⟨j, hj, hn⟩ := Option.bind_eq_some_iff.mp hb
      obtain ⟨p, xs, rfl, hq, rw⟩ := seqOf_sq t2.sim r1' hs
      rw [nth_iff] at hn
      obtain ⟨v, hv, rv⟩ := rw.get hn
      have ha : atI xs i = some v := by
        unfold atI
        rw [← rw.length, (ix_N hj).1]
        exact hv
      rcases hq with hq | hq
      · exact .inl ⟨p, xs, i, v, rfl, rfl, hq, ha, fin v rv⟩
      · exact .inr (.inl ⟨p, xs, i, v, rfl, rfl, hq, ha, fin v rv⟩)
    cases x with
    | fr us => exact seq rfl ea
    | w x =>
      cases x with
      | str z =>
        have ea : (if Nat.ble z.length size then (ix z.length i).bind fun j => (nth z j).map fun c => W.str [c] else none) = some w := ea
        split at ea
        · rename_i hz
          obtain ⟨j, hj, hn⟩ := Option.bind_eq_some_iff.mp ea
          obtain ⟨c, hc, rfl⟩ := Option.map_eq_some_iff.mp hn
          rw [nth_iff] at hc
          cases r1'
          refine .inr (.inr ⟨_, i, c, rfl, rfl, ?_, ?_, fin _ rfl⟩)
          · rw [sv_len]
            exact sizeLine_le (Nat.le_of_ble_eq_true hz)
          · rw [sv_list]
            unfold atI
            rw [(ix_N hj).1]
            exact hc
        · cases ea
      | tup us => exact seq rfl ea
      | lis us => exact seq rfl ea
      | ref p =>
        obtain ⟨ws, hs, hb⟩ := Option.bind_eq_some_iff.mp (show ((seqOf g2.h (.w (.ref p))).bind fun ws => (ix ws.length i).bind fun j => nth ws j) = some w from ea)
        exact seq hs hb
      | _ => cases ea
  | _ => cases ea

/-! ### new lists out of others -/
theorem bnd_eq (n d : Nat) : ∀ o : Option Int, bnd n d o = HT.sIx n d o
  | none => rfl
  | some (.ofNat k) => (HT.sIx_nat n d k).symm
  | some (.negSucc k) => by
    have e : HT.sIx n d (some (Int.negSucc k)) = (Int.negSucc k + (n : Int)).toNat := if_pos (by omega)
    rw [e]
    show n - (k + 1) = _
    omega
theorem RWs.cut {K : PySem.W.Frag} {g : Sg} {ws : List W} {xs : List V} (h : RWs K g ws xs) (lo hi : Option Int) : RWs K g (VM.cut ws lo hi) (cutV xs lo hi) := by
  unfold VM.cut cutV
  rw [bnd_eq, bnd_eq, h.length]
  exact (h.drop _).take _
/-- a new list is laid -/
theorem lay_lst {g0 g : Sg} {Q : VK} {ws : List W} {xs : List V} {p : Addr} (t : Stp X.K g0 g) (r : RWs X.K g ws xs) (hp : g.H p = none)
    (k : ∀ g' p xs, Stp X.K g0 g' → g'.h = g.h → g0.H p = none → g'.H p = some (.lst xs) → Out g' p → RWs X.K g' ws xs → Q (.ref p) g'.H) : Q (.ref p) (upd g.H p (.lst xs)) := by
  have t2 := Stp.lay (o := .lst xs) t.sim hp
  exact k { g with H := upd g.H p (.lst xs) } p xs (t.trans t2) rfl (t.bk _ hp) upd_same (t.sim.outNone hp) (r.kp (t2.kp t.sim))
theorem ownOf_sq {K : PySem.W.Frag} {g : Sg} (s : Sim K g) {a : Arg} {v : V} {ws : List W} (r : ArgR K g a v) (h : ownOf g.h a = some ws) : ∃ p xs, v = .ref p ∧ g.H p = some (.lst xs) ∧ RWs K g ws xs := by
  cases a with
  | fr us => cases h; obtain ⟨p, xs, e, h1, _, h3⟩ := r; exact ⟨p, xs, e, h1, h3⟩
  | w w =>
    cases w with
    | ref p =>
      obtain ⟨_, rfl⟩ := r
      have h : (match g.h.get p with | some (.lst ws) => some ws | _ => none) = some ws := h
      cases e : g.h.get p with
      | none => rw [e] at h; cases h
      | some o =>
        rw [e] at h
        cases o <;> cases h
        obtain ⟨xs, a, b⟩ := s.ob p _ e
        exact ⟨_, xs, rfl, a, b⟩
    | lis us => cases h; obtain ⟨p, xs, e, _, h1, h3⟩ := r; exact ⟨p, xs, e, h1, h3⟩
    | _ => cases h
def catM (va vb : Env → VH → Res Arg) : Env → VH → Res (List W) := fun r h => (va r h).bind fun x h1 => (vb r h1).bind fun y h2 => Res.of ((ownOf h2 x).bind fun us => (ownOf h2 y).bind fun ws => if Nat.ble (us.length + ws.length) size then some (us ++ ws) else none) h2
theorem sl_cat (ha : SV X a va) (hb : SV X b vb) : SL X (.BinOp a .Add b pos) (catM va vb) := by
  obtain ⟨ta, pa, ia⟩ := ha
  obtain ⟨tb, pb, ib⟩ := hb
  refine ⟨_, pe_op op_cat pa pb, fun g ρ σ w h' Q s re e k => ?_⟩
  obtain ⟨x, h1, e1, e⟩ := Res.bind_ok e
  obtain ⟨y, h2, e2, e⟩ := Res.bind_ok e
  obtain ⟨ea, rfl⟩ := Res.of_ok e
  refine ia g ρ σ x h1 _ s re e1 fun g1 v1 t1 q1 r1 => ?_
  subst q1
  refine ib g1 ρ σ y _ _ t1.sim (re.kp (t1.kp s)) e2 fun g2 v2 t2 q2 r2 => ?_
  subst q2
  have r1' := r1.stp t1.sim t2
  obtain ⟨us, hu, ea⟩ := Option.bind_eq_some_iff.mp ea
  obtain ⟨ws, hw, ea⟩ := Option.bind_eq_some_iff.mp ea
  split at ea
  · rename_i hl
    cases ea
    obtain ⟨p, xs, rfl, h3, h4⟩ := ownOf_sq t2.sim r1' hu
    obtain ⟨q, ys, rfl, h5, h6⟩ := ownOf_sq t2.sim r2 hw
    refine ⟨p, q, xs, ys, rfl, rfl, h3, h5, ?_, fun n hn => lay_lst (t1.trans t2) (h4.append h6) hn k⟩
    rw [← h4.length, ← h6.length]
    exact sizeLine_le (Nat.le_of_ble_eq_true hl)
  · cases ea
/-- an optional bound -/
def SO (X : Cx) (e : Option Expr) (m : Env → VH → Res (Option Int)) : Prop := ∃ t : TO, PO X e t ∧ ∀ (g : Sg) (r : Env) (σ : L2.St) (o : Option Int) (h' : VH) (Q : Option Int → Hp → Prop), Sim X.K g → RE X.K g r σ → m r g.h = .ok o h' →
  (∀ g', Stp X.K g g' → g'.h = h' → Q o g'.H) → t σ g.H Q
theorem so_none : SO X none (fun _ h => .ok none h) := ⟨_, po_none, fun g r σ o h' Q s re e k => by cases e; exact k g (.refl s) rfl⟩
theorem so_some (h : SE X e ma) : SO X (some e) (fun r h => (ma r h).bind fun x h1 => match x with
    | .int i => .ok (some i) h1
    | _ => .bad) := by
  obtain ⟨t, p, i⟩ := h
  refine ⟨_, po_some p, fun g ρ σ o h' Q s re e k => ?_⟩
  obtain ⟨x, h1, e1, e⟩ := Res.bind_ok e
  refine i g ρ σ x h1 _ s re e1 fun g1 v1 t1 q1 r1 => ?_
  cases x <;> cases e
  cases r1
  exact ⟨_, rfl, k g1 t1 q1⟩
variable {mlo mhi : Env → VH → Res (Option Int)} {lo hi : Option Expr} {p2 : Pos}
def slcM (va : Env → VH → Res Arg) (mlo mhi : Env → VH → Res (Option Int)) : Env → VH → Res (List W) := fun r h => (va r h).bind fun x h1 => (mlo r h1).bind fun l h2 => (mhi r h2).bind fun u h3 => Res.of ((lstOf h3 x).map fun ws => VM.cut ws l u) h3
theorem sl_slc (ha : SV X a va) (hl : SO X lo mlo) (hh : SO X hi mhi) : SL X (.Subscript a (.Slice lo hi none p2) pos) (slcM va mlo mhi) := by
  obtain ⟨ta, pa, ia⟩ := ha
  obtain ⟨tl, pl, il⟩ := hl
  obtain ⟨th, ph, ih⟩ := hh
  refine ⟨_, pe_slice sl_list pa pl ph, fun g ρ σ w h' Q s re e k => ?_⟩
  obtain ⟨x, h1, e1, e⟩ := Res.bind_ok e
  obtain ⟨l, h2, e2, e⟩ := Res.bind_ok e
  obtain ⟨u, h3, e3, e⟩ := Res.bind_ok e
  obtain ⟨ea, rfl⟩ := Res.of_ok e
  refine ia g ρ σ x h1 _ s re e1 fun g1 v1 t1 q1 r1 => ?_
  subst q1
  refine il g1 ρ σ l _ _ t1.sim (re.kp (t1.kp s)) e2 fun g2 t2 q2 => ?_
  subst q2
  have t12 := t1.trans t2
  refine ih g2 ρ σ u _ _ t2.sim (re.kp (t12.kp s)) e3 fun g3 t3 q3 => ?_
  subst q3
  obtain ⟨ws, hw, rfl⟩ := Option.map_eq_some_iff.mp ea
  obtain ⟨p, xs, rfl, h3, h4⟩ := lstOf_sq t3.sim (r1.stp t1.sim (t2.trans t3)) hw
  exact ⟨p, xs, rfl, h3, fun n hn => lay_lst (t12.trans t3) (h4.cut l u) hn k⟩

/-! ### calls of built-ins -/
/-- a built-in's rule by operands, giving a new list; a value -/
theorem pe_blt {x : Str} {p : Pos} {u : Value} {r : List V → Hp → VK → Prop} {t : TA} (hu : (∃ id, u = .builtin id) ∨ ∃ T, u = .type T) (hc : CallR X u r) (hg : Gl X x) (hm : X.mg x = none) (hv : bootBuiltins x = some u) (ha : PA X (e :: es) t) (hn : x ≠ "__name__") (hdb : (x == ("__debug__" : Str)) = false)
    (hst : (e :: es).all notStar = true) : PE X (.Call (.Name x p) (e :: es) [] pos) (tCB r t) := by
  rw [List.all_cons, Bool.and_eq_true] at hst
  rcases hu with ⟨id, rfl⟩ | ⟨T, rfl⟩
  · exact pe_callB hc hg hm hv ha hn hdb (star_ hst.1) (star_any hst.2)
  · exact pe_callTy hc hg hm hv ha hn hdb (star_ hst.1) (star_any hst.2)
def BltR (X : Cx) (f : Bt) (r : List V → Hp → VK → Prop) : Prop := ∀ (g : Sg) (as : List Arg) (w : W) (vs : List V) (Q : VK), Sim X.K g → bltF g.h f as = some w → ArgsR X.K g as vs → (∀ g' v, Stp X.K g g' → g'.h = g.h → RW X.K g' w v → Q v g'.H) → r vs g.H Q
def Bt.val : Bt → Value
  | .len => .builtin "len" | .abs => .builtin "abs" | .int => .type "int" | .max => .builtin "max" | .min => .builtin "min" | .all => .builtin "all" | .any => .builtin "any" | .sum => .builtin "sum" | .tuple => .type "tuple"
def Bt.name : Bt → Str
  | .len => "len" | .abs => "abs" | .int => "int" | .max => "max" | .min => "min" | .all => "all" | .any => "any" | .sum => "sum" | .tuple => "tuple"
theorem Bt.boot : ∀ f : Bt, bootBuiltins f.name = some f.val
  | .len => by decide +kernel
  | .abs => by decide +kernel
  | .int => by decide +kernel
  | .max => by decide +kernel
  | .min => by decide +kernel
  | .all => by decide +kernel
  | .any => by decide +kernel
  | .sum => by decide +kernel
  | .tuple => by decide +kernel
theorem Bt.plain : ∀ f : Bt, f.name ≠ "__name__" ∧ (f.name == ("__debug__" : Str)) = false
  | .len => by decide +kernel
  | .abs => by decide +kernel
  | .int => by decide +kernel
  | .max => by decide +kernel
  | .min => by decide +kernel
  | .all => by decide +kernel
  | .any => by decide +kernel
  | .sum => by decide +kernel
  | .tuple => by decide +kernel
theorem Bt.kind : ∀ f : Bt, (∃ id, f.val = .builtin id) ∨ ∃ T, f.val = .type T
  | .len => .inl ⟨_, rfl⟩
  | .abs => .inl ⟨_, rfl⟩
  | .int => .inr ⟨_, rfl⟩
  | .max => .inl ⟨_, rfl⟩
  | .min => .inl ⟨_, rfl⟩
  | .all => .inl ⟨_, rfl⟩
  | .any => .inl ⟨_, rfl⟩
  | .sum => .inl ⟨_, rfl⟩
  | .tuple => .inr ⟨_, rfl⟩
theorem CallR.or {u : Value} {r r' : List V → Hp → VK → Prop} (h : CallR X u r) (h' : CallR X u r') : CallR X u (fun x H Q => r x H Q ∨ r' x H Q) := by
  intro pins s σ H xs us Q I rs q
  rcases q with q | q
  · exact h pins s σ H xs us Q I rs q
  · exact h' pins s σ H xs us Q I rs q
theorem args1 {K : PySem.W.Frag} {g : Sg} {a : Arg} {vs : List V} (h : ArgsR K g [a] vs) : ∃ v, vs = [v] ∧ ArgR K g a v := by
  obtain ⟨v, r, rfl, h1, h2⟩ := h
  cases h2
  exact ⟨v, rfl, h1⟩
theorem args2 {K : PySem.W.Frag} {g : Sg} {a b : Arg} {vs : List V} (h : ArgsR K g [a, b] vs) : ∃ v u, vs = [v, u] ∧ ArgR K g a v ∧ ArgR K g b u := by
  obtain ⟨v, r, rfl, h1, h2⟩ := h
  obtain ⟨u, rfl, h3⟩ := args1 h2
  exact ⟨v, u, rfl, h1, h3⟩
theorem bls_map {K : PySem.W.Frag} {g : Sg} : ∀ {ws : List W} {bs : List Bool} {xs : List V}, bls ws = some bs → RWs K g ws xs → xs = bs.map V.bl
  | [], _, _, h, r => by cases h; cases r; rfl
  | w :: ws, bs, _, h, r => by
    obtain ⟨x, t, rfl, r1, r2⟩ := r
    cases w <;> first | (cases h; done) | skip
    obtain ⟨cs, hc, rfl⟩ := Option.map_eq_some_iff.mp h
    cases r1
    rw [bls_map hc r2]
    rfl
theorem nums_map {K : PySem.W.Frag} {g : Sg} : ∀ {ws : List W} {bs : List Int} {xs : List V}, nums ws = some bs → RWs K g ws xs → xs = bs.map V.int
  | [], _, _, h, r => by cases h; cases r; rfl
  | w :: ws, bs, _, h, r => by
    obtain ⟨x, t, rfl, r1, r2⟩ := r
    cases w <;> first | (cases h; done) | skip
    obtain ⟨cs, hc, rfl⟩ := Option.map_eq_some_iff.mp h
    cases r1
    rw [nums_map hc r2]
    rfl
theorem txts_map {K : PySem.W.Frag} {g : Sg} : ∀ {ws : List W} {bs : List (List Nat)} {xs : List V}, txts ws = some bs → RWs K g ws xs → xs = (bs.map sv).map V.str
  | [], _, _, h, r => by cases h; cases r; rfl
  | w :: ws, bs, _, h, r => by
    obtain ⟨x, t, rfl, r1, r2⟩ := r
    cases w <;> first | (cases h; done) | skip
    obtain ⟨cs, hc, rfl⟩ := Option.map_eq_some_iff.mp h
    cases r1
    rw [txts_map hc r2]
    rfl
theorem RKs.length {K : PySem.W.Frag} {g : Sg} : ∀ {ws : List (W × W)} {vs : List (Key × V)}, RKs K g ws vs → ws.length = vs.length
  | [], _, h => by cases h; rfl
  | w :: ws, _, h => by
    obtain ⟨_, _, r, rfl, _, _, h2⟩ := h
    simp [RKs.length h2]
theorem blt_len : ∃ r, CallR X (Bt.val .len) r ∧ BltR X .len r := by
  refine ⟨_, call_len.or call_lenD, fun g as w vs Q s h ra k => ?_⟩
  have seq : ∀ {a : Arg} {ws : List W}, as = [a] → seqOf g.h a = some ws → w = .int ws.length → (∃ x n, vs = [x] ∧ LenV X.K x g.H n ∧ Q (.int n) g.H) := by
    rintro a ws rfl h1 rfl
    obtain ⟨v, rfl, rb⟩ := args1 ra
    obtain ⟨p, xs, rfl, hq, rw⟩ := seqOf_sq s rb h1
    refine ⟨_, xs.length, rfl, ?_, k g _ (.refl s) rfl (by rw [rw.length]; rfl)⟩
    rcases hq with hq | hq
    · exact .inl ⟨xs, hq, rfl⟩
    · exact .inr ⟨xs, hq, rfl⟩
  cases as with
  | nil => cases h
  | cons a r =>
    cases r with
    | cons b r => cases a <;> first | (cases h; done) | (rename_i w; cases w <;> cases h)
    | nil =>
      cases a with
      | fr us => cases h; exact .inl (seq rfl rfl rfl)
      | w x =>
        cases x with
        | str z =>
          have h : (if Nat.ble z.length size then some (W.int z.length) else none) = some w := h
          split at h
          · rename_i hz
            cases h
            obtain ⟨v, rfl, rb⟩ := args1 ra
            cases rb
            exact .inl ⟨_, _, rfl, ⟨by rw [sv_len]; exact sizeLine_le (Nat.le_of_ble_eq_true hz), rfl⟩, k g _ (.refl s) rfl (by rw [sv_len]; rfl)⟩
          · cases h
        | tup us => cases h; exact .inl (seq rfl rfl rfl)
        | lis us => cases h; exact .inl (seq rfl rfl rfl)
        | ref p =>
          have h : (match g.h.get p with
            | some (.lst ws) => some (W.int ws.length)
            | some (.frz _ ws) => some (.int ws.length)
            | some (.dic kvs) => some (.int kvs.length)
            | none => none) = some w := h
          cases e : g.h.get p with
          | none => rw [e] at h; cases h
          | some o =>
            rw [e] at h
            cases o with
            | lst us => cases h; exact .inl (seq (a := .w (.ref p)) (ws := us) rfl (by show cell g.h p = some us; unfold cell; rw [e]) rfl)
            | frz c us => cases h; exact .inl (seq (a := .w (.ref p)) (ws := us) rfl (by show cell g.h p = some us; unfold cell; rw [e]) rfl)
            | dic kvs =>
              cases h
              obtain ⟨v, rfl, rb⟩ := args1 ra
              obtain ⟨_, rfl⟩ := rb
              obtain ⟨ys, hy, rk⟩ := s.ob p _ e
              exact .inr ⟨_, ys, rfl, hy, k g _ (.refl s) rfl (by rw [rk.length]; rfl)⟩
        | _ => cases h
theorem blt_one {u : Value} {f : Bt} {r : List V → Hp → VK → Prop} (h : CallR X u r) (hr : BltR X f r) (e : f.val = u) : ∃ r, CallR X (Bt.val f) r ∧ BltR X f r := ⟨r, e ▸ h, hr⟩
theorem lst1 {K : PySem.W.Frag} {g : Sg} (s : Sim K g) {as : List Arg} {vs : List V} {a : Arg} {ws : List W} (ha : as = [a]) (ra : ArgsR K g as vs) (h : lstOf g.h a = some ws) : ∃ p xs, vs = [.ref p] ∧ SqL K g.H p xs ∧ RWs K g ws xs := by
  subst ha
  obtain ⟨v, rfl, rb⟩ := args1 ra
  obtain ⟨p, xs, rfl, h1, h2⟩ := lstOf_sq s rb h
  exact ⟨p, xs, rfl, h1, h2⟩
theorem blt_any (hc : X.calm = true) : ∀ f : Bt, ∃ r, CallR X (Bt.val f) r ∧ BltR X f r
  | .len => blt_len
  | .abs => ⟨_, call_abs, fun g as w vs Q s h ra k => by
    match as, h with
    | [.w (.int i)], h =>
      cases h
      obtain ⟨v, rfl, rb⟩ := args1 ra
      cases rb
      exact ⟨i, rfl, k g _ (.refl s) rfl rfl⟩⟩
  | .int => ⟨_, CallR.or call_int1 call_int_str, fun g as w vs Q s h ra k => by
    match as, h with
    | [.w (.int i)], h =>
      cases h
      obtain ⟨v, rfl, rb⟩ := args1 ra
      cases rb
      exact .inl (.inl ⟨i, rfl, k g _ (.refl s) rfl rfl⟩)
    | [.w (.bl i)], h =>
      cases h
      obtain ⟨v, rfl, rb⟩ := args1 ra
      cases rb
      exact .inl (.inr ⟨i, rfl, k g _ (.refl s) rfl rfl⟩)
    | [.w (.str z)], h =>
      obtain ⟨v, rfl, rb⟩ := args1 ra
      cases rb
      have h : (if digs z && Nat.blt 0 z.length && Nat.ble z.length 640 then some (W.int (dval z : Nat)) else none) = some w := h
      split at h
      · rename_i hz
        cases h
        rw [Bool.and_eq_true, Bool.and_eq_true, Nat.ble_eq, Nat.blt_eq] at hz
        obtain ⟨⟨h1, h2⟩, h3⟩ := hz
        have hd : PySem.NumText.AllDigits (sv z).cps.toList := by
          rw [sv_list]
          intro c hc
          have := List.all_eq_true.mp h1 c hc
          rw [Bool.and_eq_true, Nat.ble_eq, Nat.ble_eq] at this
          exact this
        have hl : (sv z).length ≤ 640 := by rw [sv_len]; exact h3
        have e := PySem.intText_digits hd (by rw [sv_list]; intro e; rw [e] at h2; exact absurd h2 (by decide)) (Nat.le_trans hl (by decide))
        rw [sv_list] at e
        exact .inr ⟨sv z, _, rfl, e, hl, k g _ (.refl s) rfl rfl⟩
      · cases h⟩
  | .max => ⟨_, call_max2 hc, fun g as w vs Q s h ra k => by
    match as, h with
    | [.w (.int i), .w (.int j)], h =>
      cases h
      obtain ⟨v, u, rfl, rc, rd⟩ := args2 ra
      cases rc
      cases rd
      exact ⟨i, j, rfl, k g _ (.refl s) rfl rfl⟩⟩
  | .min => ⟨_, call_min2 hc, fun g as w vs Q s h ra k => by
    match as, h with
    | [.w (.int i), .w (.int j)], h =>
      cases h
      obtain ⟨v, u, rfl, rc, rd⟩ := args2 ra
      cases rc
      cases rd
      exact ⟨i, j, rfl, k g _ (.refl s) rfl rfl⟩⟩
  | .all => ⟨_, cr_all hc, fun g as w vs Q s h ra k => by
    match as, h with
    | [a], h =>
      obtain ⟨ws, h1, h2⟩ := Option.bind_eq_some_iff.mp (show ((lstOf g.h a).bind fun ws => (bls ws).map fun bs => W.bl (bs.all id)) = some w from h)
      obtain ⟨bs, h3, rfl⟩ := Option.map_eq_some_iff.mp h2
      obtain ⟨p, xs, rfl, hq, rw⟩ := lst1 s rfl ra h1
      have e := bls_map h3 rw
      subst e
      exact ⟨p, bs, rfl, hq, k g _ (.refl s) rfl rfl⟩⟩
  | .any => ⟨_, cr_any hc, fun g as w vs Q s h ra k => by
    match as, h with
    | [a], h =>
      obtain ⟨ws, h1, h2⟩ := Option.bind_eq_some_iff.mp (show ((lstOf g.h a).bind fun ws => (bls ws).map fun bs => W.bl (bs.any id)) = some w from h)
      obtain ⟨bs, h3, rfl⟩ := Option.map_eq_some_iff.mp h2
      obtain ⟨p, xs, rfl, hq, rw⟩ := lst1 s rfl ra h1
      have e := bls_map h3 rw
      subst e
      exact ⟨p, bs, rfl, hq, k g _ (.refl s) rfl rfl⟩⟩
  | .sum => ⟨_, cr_sum hc, fun g as w vs Q s h ra k => by
    match as, h with
    | [a], h =>
      obtain ⟨ws, h1, h2⟩ := Option.bind_eq_some_iff.mp (show ((lstOf g.h a).bind fun ws => (nums ws).map fun bs => W.int bs.sum) = some w from h)
      obtain ⟨bs, h3, rfl⟩ := Option.map_eq_some_iff.mp h2
      obtain ⟨p, xs, rfl, hq, rw⟩ := lst1 s rfl ra h1
      have e := nums_map h3 rw
      subst e
      exact ⟨p, bs, rfl, hq, k g _ (.refl s) rfl rfl⟩⟩
  | .tuple => ⟨_, call_tuple_of, fun g as w vs Q s h ra k => by
    match as, h with
    | [a], h =>
      obtain ⟨ws, h1, rfl⟩ := Option.map_eq_some_iff.mp (show ((seqOf g.h a).map fun ws => W.tup ws) = some w from h)
      obtain ⟨v, rfl, rb⟩ := args1 ra
      obtain ⟨p, xs, rfl, hq, rw⟩ := seqOf_sq s rb h1
      refine ⟨p, xs, rfl, ?_⟩
      rcases hq with hq | hq
      · refine .inl ⟨hq, fun l hl => ?_⟩
        have t2 := Stp.lay (o := .tup xs) s hl
        exact k { g with H := upd g.H l (.tup xs) } _ t2 rfl ⟨l, xs, rfl, .inl (.inl upd_same), rw.kp (t2.kp s)⟩
      · exact .inr ⟨hq, k g _ (.refl s) rfl ⟨p, xs, rfl, hq, rw⟩⟩⟩
theorem se_blt {f : Bt} {p : Pos} {ms : Env → VH → Res (List Arg)} (hc : X.calm = true) (hg : Gl X f.name) (hm : X.mg f.name = none) (hst : (e :: es).all notStar = true) (ha : SAV X (e :: es) ms) :
    SE X (.Call (.Name f.name p) (e :: es) [] pos) (fun r h => (ms r h).bind fun xs h1 => Res.of (bltF h1 f xs) h1) := by
  obtain ⟨t, pa, i⟩ := ha
  obtain ⟨r, hr, hb⟩ := blt_any hc f
  refine ⟨_, pe_blt f.kind hr hg hm f.boot pa f.plain.1 f.plain.2 hst, fun g ρ σ w h' Q s re e k => ?_⟩
  obtain ⟨xs, h1, e1, e⟩ := Res.bind_ok e
  obtain ⟨ea, rfl⟩ := Res.of_ok e
  refine i g ρ σ xs _ _ s re e1 fun g1 vs t1 q1 r1 => ?_
  subst q1
  exact hb g1 xs w vs Q t1.sim ea r1 fun g2 v t2 q2 r2 => k g2 v (t1.trans t2) q2 r2
end
end VM


set_option Elab.async false
set_option linter.all false
set_option maxRecDepth 100000
set_option maxHeartbeats 2000000
namespace VM
open PySem L2

/-! ### sorted texts -/
theorem ltS_trans {a b c : List Nat} (h1 : ltS a b = true) (h2 : ltS b c = true) : ltS a c = true := by
  rw [ltS_iff, decide_eq_true_eq] at *
  exact List.lt_trans h1 h2
theorem ltS_irrefl (a : List Nat) : ltS a a = false := by
  rw [ltS_iff, decide_eq_false_iff_not]
  exact List.lt_irrefl a
theorem ltS_total {a b : List Nat} (h1 : ltS a b = false) (h2 : ltS b a = false) : a = b := by
  rw [ltS_iff, decide_eq_false_iff_not] at *
  exact List.le_antisymm (List.not_lt.mp h2) (List.not_lt.mp h1)
theorem insS_perm (a : List Nat) : ∀ l : List (List Nat), (insS a l).Perm (a :: l)
  | [] => .refl _
  | b :: r => by
    unfold insS
    split
    · exact ((insS_perm a r).cons b).trans (.swap a b r)
    · exact .refl _
theorem sortS_perm : ∀ l : List (List Nat), (sortS l).Perm l
  | [] => .refl _
  | a :: r => (insS_perm a (sortS r)).trans ((sortS_perm r).cons a)
theorem insS_sorted (a : List Nat) : ∀ {l : List (List Nat)}, l.Pairwise (fun x y => ltS y x = false) → (insS a l).Pairwise (fun x y => ltS y x = false)
  | [], _ => List.pairwise_singleton _ _
  | b :: r, h => by
    unfold insS
    rw [List.pairwise_cons] at h
    split
    · rename_i hb
      refine List.pairwise_cons.mpr ⟨fun y hy => ?_, insS_sorted a h.2⟩
      rcases List.mem_cons.mp ((insS_perm a r).mem_iff.mp hy) with rfl | hy
      · cases e : ltS y b with
        | false => rfl
        | true => exact absurd (ltS_trans hb e) (by rw [ltS_irrefl]; decide)
      · exact h.1 y hy
    · rename_i hb
      have hb : ltS b a = false := by simpa using hb
      refine List.pairwise_cons.mpr ⟨fun y hy => ?_, List.pairwise_cons.mpr h⟩
      rcases List.mem_cons.mp hy with rfl | hy
      · exact hb
      · cases e : ltS y a with
        | false => rfl
        | true =>
          have h3 := h.1 y hy
          by_cases hab : ltS a b = true
          · rw [ltS_trans e hab] at h3; cases h3
          · have : a = b := ltS_total (by simpa using hab) hb
            rw [this] at e
            rw [e] at h3; cases h3
theorem sortS_sorted : ∀ l : List (List Nat), (sortS l).Pairwise (fun x y => ltS y x = false)
  | [] => .nil
  | a :: r => insS_sorted a (sortS_sorted r)
theorem sorted_unique : ∀ {l m : List (List Nat)}, l.Perm m → l.Pairwise (fun x y => ltS y x = false) → m.Pairwise (fun x y => ltS y x = false) → l = m
  | [], m, p, _, _ => (List.nil_perm.mp p).symm
  | a :: r, [], p, _, _ => (List.not_perm_nil_cons _ _ p.symm).elim
  | a :: r, b :: t, p, h1, h2 => by
    rw [List.pairwise_cons] at h1 h2
    have e : a = b := by
      have ma : a ∈ b :: t := p.mem_iff.mp List.mem_cons_self
      have mb : b ∈ a :: r := p.mem_iff.mpr List.mem_cons_self
      rcases List.mem_cons.mp ma with h | h
      · exact h
      · rcases List.mem_cons.mp mb with h' | h'
        · exact h'.symm
        · exact ltS_total (h2.1 a h) (h1.1 b h')
    subst e
    rw [sorted_unique (List.Perm.cons_inv p) h1.2 h2.2]

theorem ltCps_eq : ∀ (a b : List Nat), PySem.Spec.ltCps a b = ltS a b
  | [], [] => rfl
  | [], _ :: _ => rfl
  | _ :: _, [] => rfl
  | a :: r, b :: t => by
    simp only [PySem.Spec.ltCps, ltS]
    rw [ltCps_eq r t]
    by_cases h : a < b
    · simp [h, Nat.blt_eq]
    · by_cases e : a = b
      · subst e
        simp
      · have e2 : Nat.beq a b = false := by rw [← Bool.not_eq_true, Nat.beq_eq]; exact e
        simp [h, e, e2, Nat.blt_eq]
theorem le_trans {a b c : List Nat} (h1 : ltS b a = false) (h2 : ltS c b = false) : ltS c a = false := by
  cases e : ltS c a with
  | false => rfl
  | true =>
    by_cases h : ltS a b = true
    · rw [ltS_trans e h] at h2; cases h2
    · have : a = b := ltS_total (by simpa using h) h1
      rw [this] at e
      rw [e] at h2; cases h2
theorem rising_pair : ∀ {l : List Str} {p : Str}, PyProof.Rows.risingS p l = true → (p.cps.toList :: l.map fun x => x.cps.toList).Pairwise (fun x y => ltS y x = false)
  | [], p, _ => List.pairwise_singleton _ _
  | x :: r, p, h => by
    simp only [PyProof.Rows.risingS, Bool.and_eq_true, Bool.not_eq_true', ltCps_eq] at h
    have ih := rising_pair h.2
    refine List.pairwise_cons.mpr ⟨fun y hy => ?_, ih⟩
    rw [List.map_cons] at hy
    rcases List.mem_cons.mp hy with rfl | hy
    · exact h.1
    · exact le_trans h.1 ((List.pairwise_cons.mp ih).1 y hy)
theorem sorted_eq {ss : List (List Nat)} {ys : List Str} (p : ys.Perm (ss.map sv)) (h : PyProof.Rows.sortedS ys = true) : ys = (sortS ss).map sv := by
  have h1 : (ys.map fun x => x.cps.toList).Perm ss := by
    have q := p.map (fun x : Str => x.cps.toList)
    rw [List.map_map] at q
    have e : ss.map ((fun x : Str => x.cps.toList) ∘ sv) = ss := by
      conv => rhs; rw [← List.map_id ss]
      exact List.map_congr_left fun x _ => sv_list x
    rw [e] at q
    exact q
  have h2 : (ys.map fun x => x.cps.toList).Pairwise (fun x y => ltS y x = false) := by
    cases ys with
    | nil => exact .nil
    | cons y r => exact rising_pair h
  have h3 := sorted_unique (h1.trans (sortS_perm ss).symm) h2 (sortS_sorted ss)
  rw [← h3, List.map_map]
  conv => lhs; rw [← List.map_id ys]
  exact List.map_congr_left fun x _ => sv_of x
theorem rws_txts {K : PySem.W.Frag} {g : Sg} : ∀ l : List (List Nat), RWs K g (l.map W.str) ((l.map sv).map V.str)
  | [] => rfl
  | a :: r => ⟨_, _, rfl, rfl, rws_txts r⟩

section
variable {X : Cx} {a b d e : Expr} {es : List Expr} {pos : Pos} {ma mb md : Env → VH → Res W} {va vb : Env → VH → Res Arg}
theorem RKs.keys {K : PySem.W.Frag} {g : Sg} : ∀ {kvs : List (W × W)} {ys : List (Key × V)} {ss : List (List Nat)}, RKs K g kvs ys → txts (kvs.map (·.1)) = some ss → ys.map (·.1) = (ss.map sv).map Sum.inr
  | [], _, _, h, e => by cases h; cases e; rfl
  | kv :: r, _, _, h, e => by
    obtain ⟨k, v, t, rfl, h1, _, h2⟩ := h
    rw [List.map_cons] at e
    cases hk : kv.1 with
    | str s =>
      rw [hk] at e h1
      obtain ⟨cs, hc, rfl⟩ := Option.map_eq_some_iff.mp e
      cases h1
      simp only [List.map_cons]
      rw [RKs.keys h2 hc]
    | _ => rw [hk] at e; cases e
def srtM (va : Env → VH → Res Arg) : Env → VH → Res (List W) := fun r h => (va r h).bind fun x h1 => Res.of (sortF h1 x) h1
theorem sl_srt {p : Pos} (hc : X.calm = true) (hg : Gl X "sorted") (hm : X.mg "sorted" = none) (hn : notStar a = true) (ha : SV X a va) : SL X (.Call (.Name "sorted" p) [a] [] pos) (srtM va) := by
  obtain ⟨t, pa, i⟩ := ha
  refine ⟨_, pe_blt (.inl ⟨_, rfl⟩) (CallR.or cr_sortedS (call_sortedD hc)) hg hm (by decide +kernel) (pa_cons pa pa_nil (star_ hn)) (by decide +kernel) (by decide +kernel) (by simp [hn]), fun g ρ σ w h' Q s re e k => ?_⟩
  obtain ⟨x, h1, e1, e⟩ := Res.bind_ok e
  obtain ⟨ea, rfl⟩ := Res.of_ok e
  refine i g ρ σ x _ _ s re e1 fun g1 v t1 q1 r1 => ?_
  subst q1
  have list : ∀ {ws : List W}, lstOf g1.h x = some ws → ((txts ws).bind fun ss => if Nat.blt ss.length 64 then some ((sortS ss).map W.str) else none) = some w → rSortedS X.K [v] g1.H Q := by
    intro ws hl hb
    obtain ⟨ss, hs, hb⟩ := Option.bind_eq_some_iff.mp hb
    split at hb
    · rename_i h64
      cases hb
      obtain ⟨p, xs, rfl, hq, rw⟩ := lstOf_sq t1.sim r1 hl
      have exs := txts_map hs rw
      subst exs
      refine ⟨p, ss.map sv, rfl, hq, by simpa [Nat.blt_eq] using h64, fun ys q hp hsd hn => ?_⟩
      rw [sorted_eq hp hsd]
      exact lay_lst t1 (rws_txts _) hn k
    · cases hb
  show rSortedS X.K [v] g1.H Q ∨ _
  cases x with
  | fr us => exact .inl (list rfl ea)
  | w u =>
    cases u with
    | ref p =>
      have ea : (match g1.h.get p with
        | some (.dic kvs) => (txts (kvs.map (·.1))).bind fun ss => if Nat.blt ss.length 64 then some ((sortS ss).map W.str) else none
        | _ => (cell g1.h p).bind fun ws => (txts ws).bind fun ss => if Nat.blt ss.length 64 then some ((sortS ss).map W.str) else none) = some w := ea
      cases eg : g1.h.get p with
      | none =>
        rw [eg] at ea
        obtain ⟨ws, h1, h2⟩ := Option.bind_eq_some_iff.mp ea
        exact .inl (list h1 h2)
      | some o =>
        rw [eg] at ea
        cases o with
        | lst us =>
          obtain ⟨ws, h1, h2⟩ := Option.bind_eq_some_iff.mp ea
          exact .inl (list h1 h2)
        | frz c us =>
          obtain ⟨ws, h1, h2⟩ := Option.bind_eq_some_iff.mp ea
          exact .inl (list h1 h2)
        | dic kvs =>
          refine .inr ?_
          obtain ⟨ss, hs, hb⟩ := Option.bind_eq_some_iff.mp (show ((txts (kvs.map (·.1))).bind fun ss => if Nat.blt ss.length 64 then some ((sortS ss).map W.str) else none) = some w from ea)
          split at hb
          · rename_i h64
            cases hb
            obtain ⟨_, rfl⟩ := r1
            obtain ⟨ys, hy, rk⟩ := t1.sim.ob p _ eg
            refine ⟨_, ys, ss.map sv, rfl, .inl hy, rk.keys hs, by simpa [Nat.blt_eq] using h64, fun zs q hp hsd hn => ?_⟩
            rw [sorted_eq hp hsd]
            exact lay_lst t1 (rws_txts _) hn k
          · cases hb
    | lis us => exact .inl (list rfl ea)
    | _ => cases ea
def lofM (va : Env → VH → Res Arg) : Env → VH → Res (List W) := fun r h => (va r h).bind fun x h1 => Res.of (seqOf h1 x) h1
theorem sl_lof {p : Pos} (hg : Gl X "list") (hm : X.mg "list" = none) (hn : notStar a = true) (ha : SV X a va) : SL X (.Call (.Name "list" p) [a] [] pos) (lofM va) := by
  obtain ⟨t, pa, i⟩ := ha
  refine ⟨_, pe_blt (.inr ⟨_, rfl⟩) call_list_of hg hm (by decide +kernel) (pa_cons pa pa_nil (star_ hn)) (by decide +kernel) (by decide +kernel) (by simp [hn]), fun g ρ σ w h' Q s re e k => ?_⟩
  obtain ⟨x, h1, e1, e⟩ := Res.bind_ok e
  obtain ⟨ea, rfl⟩ := Res.of_ok e
  refine i g ρ σ x _ _ s re e1 fun g1 v t1 q1 r1 => ?_
  subst q1
  obtain ⟨p, xs, rfl, hq, rw⟩ := seqOf_sq t1.sim r1 ea
  exact ⟨p, xs, rfl, hq, fun l hl => lay_lst t1 rw hl k⟩

/-! ### isinstance -/
def Ty.nm : Ty → String
  | .int => "int" | .bool => "bool" | .str => "str" | .tuple => "tuple" | .list => "list" | .dict => "dict"
def Ty.name : Ty → Str
  | .int => "int" | .bool => "bool" | .str => "str" | .tuple => "tuple" | .list => "list" | .dict => "dict"
theorem Ty.boot : ∀ f : Ty, bootBuiltins f.name = some (.type f.nm) ∧ f.name ≠ "__name__" ∧ (f.name == ("__debug__" : Str)) = false
  | .int => by decide +kernel
  | .bool => by decide +kernel
  | .str => by decide +kernel
  | .tuple => by decide +kernel
  | .list => by decide +kernel
  | .dict => by decide +kernel
theorem tyX_of {K : PySem.W.Frag} {g : Sg} (s : Sim K g) {t : Ty} {w : W} {v : V} {b : Bool} (r : RW K g w v) (h : tyIs g.h t w = some b) : ∃ T, TyX K g.H v (.type T) ∧ kitB T t.nm = some b := by
  cases w with
  | non => cases r; exact ⟨_, .base .non, by cases t <;> cases h <;> decide +kernel⟩
  | bl c => cases r; exact ⟨_, .base (.bl c), by cases t <;> cases h <;> decide +kernel⟩
  | int c => cases r; exact ⟨_, .base (.int c), by cases t <;> cases h <;> decide +kernel⟩
  | str c => cases r; exact ⟨_, .base (.str _), by cases t <;> cases h <;> decide +kernel⟩
  | tup ws =>
    obtain ⟨a, xs, rfl, hq, _⟩ := r
    refine ⟨"tuple", ?_, by cases t <;> cases h <;> decide +kernel⟩
    rcases hq with (hq | ⟨o, hq⟩) | ⟨o, its, n, h1, h2, _⟩
    · exact .base (.tup hq)
    · exact .fTuple hq
    · exact .kTuple h1 h2
  | lis us =>
    obtain ⟨a, xs, rfl, _, e, _⟩ := r
    exact ⟨"list", .base (.lst e), by cases t <;> cases h <;> decide +kernel⟩
  | ref p =>
    obtain ⟨⟨o, ho⟩, rfl⟩ := r
    have ob := s.ob p o ho
    cases o with
    | lst us =>
      obtain ⟨xs, e, _⟩ := ob
      exact ⟨"list", .base (.lst e), by cases t <;> (simp only [tyIs, ho] at h; cases h; decide +kernel)⟩
    | frz c us =>
      refine ⟨"list", ?_, by cases t <;> (simp only [tyIs, ho] at h; cases h; decide +kernel)⟩
      cases c with
      | false => obtain ⟨o, xs, e, _⟩ := ob; exact .base (.frz e)
      | true => obtain ⟨xs, ⟨o, its, n, h1, h2, _⟩, _⟩ := ob; exact .kList h1 h2
    | dic kvs =>
      obtain ⟨xs, e, _⟩ := ob
      exact ⟨"dict", .base (.dK e), by cases t <;> (simp only [tyIs, ho] at h; cases h; decide +kernel)⟩
def isiM (t : Ty) (ma : Env → VH → Res W) : Env → VH → Res W := fun r h => (ma r h).bind fun x h1 => Res.of ((tyIs h1 t x).map W.bl) h1
theorem se_isi {p p' : Pos} {t : Ty} (hg : Gl X "isinstance") (hm : X.mg "isinstance" = none) (hg' : Gl X t.name) (hm' : X.mg t.name = none) (hn : notStar a = true) (ha : SE X a ma) :
    SE X (.Call (.Name "isinstance" p) [a, .Name t.name p'] [] pos) (isiM t ma) := by
  obtain ⟨ta, pa, i⟩ := ha
  refine ⟨_, pe_blt (.inl ⟨_, rfl⟩) call_isi hg hm (by decide +kernel) (pa_cons pa (pa_cons (pe_bltn (v := .ty t.nm) hg' hm' t.boot.1 rfl t.boot.2.1 t.boot.2.2) pa_nil rfl) (star_ hn)) (by decide +kernel) (by decide +kernel) (by rw [List.all_cons, hn]; rfl), fun g ρ σ w h' Q s re e k => ?_⟩
  obtain ⟨x, h1, e1, e⟩ := Res.bind_ok e
  obtain ⟨ea, rfl⟩ := Res.of_ok e
  obtain ⟨c, hc, rfl⟩ := Option.map_eq_some_iff.mp ea
  refine i g ρ σ x _ _ s re e1 fun g1 v t1 q1 r1 => ?_
  subst q1
  obtain ⟨T, hT, hk⟩ := tyX_of t1.sim r1 hc
  exact ⟨v, .ty t.nm, _, _, c, rfl, .ty _, hT, kit_ty hk, k g1 _ t1 rfl rfl⟩

/-! ### dicts -/
def SIM_d : Unit := ()
theorem dicOf_get {K : PySem.W.Frag} {g : Sg} (s : Sim K g) {w : W} {v : V} {p : Ad} {kvs : List (W × W)} (r : RW K g w v) (h : dicOf g.h w = some (p, kvs)) : w = .ref p ∧ g.h.get p = some (.dic kvs) ∧ v = .ref (g.mu p) ∧ ∃ ys, g.H (g.mu p) = some (.dK ys) ∧ RKs K g kvs ys := by
  cases w with
  | ref q =>
    have h : (match g.h.get q with | some (.dic kvs) => some (q, kvs) | _ => none) = some (p, kvs) := h
    cases e : g.h.get q with
    | none => rw [e] at h; cases h
    | some o =>
      rw [e] at h
      cases o <;> cases h
      obtain ⟨_, rfl⟩ := r
      exact ⟨rfl, e, rfl, s.ob p _ e⟩
  | _ => cases h
theorem key_of {K : PySem.W.Frag} {g : Sg} {w : W} {v : V} (hk : keyOk w = true) (r : RW K g w v) : ∃ k : Key, v = kV k ∧ keyR w k := by
  cases w <;> cases hk
  · cases r; exact ⟨.inl _, rfl, rfl⟩
  · cases r; exact ⟨.inr _, rfl, rfl⟩
theorem keyR_beq {u w : W} {k l : Key} (h1 : keyR u k) (h2 : keyR w l) : beqW u w = decide (k = l) := by
  cases u <;> cases w <;> first | (cases h1; done) | (cases h2; done) | skip
  · cases h1; cases h2
    simp [beqW]
  · cases h1; cases h2
    simp [beqW]
  · cases h1; cases h2
    simp [beqW]
  · cases h1; cases h2
    rw [Bool.eq_iff_iff]
    simp only [beqW, eqS_iff, decide_eq_true_eq]
    exact ⟨fun h => by rw [h], fun h => sv_inj (Sum.inr.inj h)⟩
theorem dfind_val {K : PySem.W.Frag} {g : Sg} {w : W} {k : Key} (hk : keyR w k) : ∀ {kvs : List (W × W)} {ys : List (Key × V)}, RKs K g kvs ys → (∀ u, dfind w kvs = some u → ∃ v, valV ys k = some v ∧ RW K g u v) ∧ (dfind w kvs = none → valV ys k = none)
  | [], _, h => by cases h; exact ⟨fun u e => (by cases e), fun _ => rfl⟩
  | kv :: r, _, h => by
    obtain ⟨l, v, t, rfl, h1, h2, h3⟩ := h
    have ih := dfind_val hk h3
    have e := keyR_beq h1 hk
    unfold dfind valV
    rw [e]
    by_cases hl : l = k
    · subst hl
      simp only [decide_true, if_true, List.find?_cons, Option.map_some]
      exact ⟨fun u e => (by cases e; exact ⟨v, rfl, h2⟩), fun e => (by cases e)⟩
    · simp only [decide_eq_false hl, List.find?_cons, Bool.false_eq_true, if_false]
      exact ih
theorem RKs.append {K : PySem.W.Frag} {g : Sg} : ∀ {a b : List (W × W)} {x y : List (Key × V)}, RKs K g a x → RKs K g b y → RKs K g (a ++ b) (x ++ y)
  | [], _, _, _, h, h' => by cases h; exact h'
  | _ :: _, _, _, _, h, h' => by
    obtain ⟨k, v, t, rfl, h1, h2, h3⟩ := h
    exact ⟨k, v, _, rfl, h1, h2, RKs.append h3 h'⟩
theorem dmap_map {K : PySem.W.Frag} {g : Sg} {w u : W} {k : Key} {v : V} (hk : keyR w k) (hu : RW K g u v) : ∀ {kvs : List (W × W)} {ys : List (Key × V)}, RKs K g kvs ys → RKs K g (dmap w u kvs) (ys.map fun kv => if kv.1 = k then (kv.1, v) else kv)
  | [], _, h => by cases h; rfl
  | kv :: r, _, h => by
    obtain ⟨l, z, t, rfl, h1, h2, h3⟩ := h
    have e := keyR_beq h1 hk
    have ih := dmap_map hk hu h3
    unfold dmap
    rw [e, List.map_cons]
    by_cases hl : l = k
    · rw [if_pos (by simp [hl]), if_pos hl]
      exact ⟨l, v, _, rfl, h1, hu, ih⟩
    · rw [if_neg (by simp [hl]), if_neg hl]
      exact ⟨l, z, _, rfl, h1, h2, ih⟩
theorem dput_put {K : PySem.W.Frag} {g : Sg} {w u : W} {k : Key} {v : V} (hk : keyR w k) (hu : RW K g u v) {kvs : List (W × W)} {ys : List (Key × V)} (h : RKs K g kvs ys) : RKs K g (dput w u kvs) (putK ys k v) := by
  have f := dfind_val hk h
  unfold dput putK
  rw [valV_any]
  cases e : dfind w kvs with
  | some z =>
    obtain ⟨y, hy, _⟩ := f.1 z e
    rw [hy, if_pos (show (some y).isSome = true from rfl)]
    exact dmap_map hk hu h
  | none =>
    rw [f.2 e, if_neg (by simp)]
    exact h.append ⟨k, v, [], rfl, hk, hu, rfl⟩
def didxM (ma mb : Env → VH → Res W) : Env → VH → Res W := fun r h => (ma r h).bind fun x h1 => (mb r h1).bind fun k h2 => Res.of ((dicOf h2 x).bind fun d => if keyOk k then dfind k d.2 else none) h2
theorem se_didx (hu : X.A.units + 1 < cLine) (ha : SE X a ma) (hb : SE X b mb) (hp : plainIx b = true) : SE X (.Subscript a b pos) (didxM ma mb) := by
  obtain ⟨ta, pa, ia⟩ := ha
  obtain ⟨tb, pb, ib⟩ := hb
  refine ⟨_, pe_dget hu pa pb (plainIx_no hp), fun g ρ σ w h' Q s re e k => ?_⟩
  obtain ⟨x, h1, e1, e⟩ := Res.bind_ok e
  obtain ⟨y, h2, e2, e⟩ := Res.bind_ok e
  obtain ⟨ea, rfl⟩ := Res.of_ok e
  refine ia g ρ σ x h1 _ s re e1 fun g1 v1 t1 q1 r1 => ?_
  subst q1
  refine ib g1 ρ σ y _ _ t1.sim (re.kp (t1.kp s)) e2 fun g2 v2 t2 q2 r2 => ?_
  subst q2
  obtain ⟨⟨p, kvs⟩, hd, ea⟩ := Option.bind_eq_some_iff.mp ea
  obtain ⟨_, _, rfl, ys, hy, rk⟩ := dicOf_get t2.sim (r1.kp (t2.kp t1.sim)) hd
  split at ea
  · rename_i hk
    obtain ⟨k', rfl, kr⟩ := key_of hk r2
    obtain ⟨v, hv, rv⟩ := (dfind_val kr rk).1 w ea
    exact ⟨_, v, rfl, by rw [← hv]; exact DGet.k hy, k g2 v (t1.trans t2) rfl rv⟩
  · cases ea
/-- what stands ahead of the dot -/
def notSuper : Expr → Bool
  | .Call (.Name _ _) [] [] _ => false
  | _ => true
theorem base_of {o : Expr} {m : Str} {env : PySem.Env} (h : notSuper o = true) {t : Sem Value} : attributeBase o m env t = t := by
  unfold attributeBase
  split
  · cases h
  · rfl
def dgetM (ma mb md : Env → VH → Res W) : Env → VH → Res W := fun r h => (ma r h).bind fun d h1 => match dicOf h1 d with
    | none => .bad
    | some _ => (mb r h1).bind fun k h2 => (md r h2).bind fun x h3 => Res.of ((dicOf h3 d).bind fun d => if keyOk k then some ((dfind k d.2).getD x) else none) h3
theorem m2_of {o e f : Expr} {m : Str} {apos cpos : Pos} (ho : notSuper o = true) (he : notStar e = true) (hf : notStar f = true) (hl : (apos.endLine == cpos.line) = true) : M2 X o m apos e f cpos := by
  have h1 : starEach [e, f] X.env = [(false, eval e X.env), (false, eval f X.env)] := by rw [star_ he, star_ hf]; rfl
  refine ⟨base_of ho, ?_, hl, ?_⟩
  · rw [h1]; rfl
  · rw [h1]; rfl
theorem se_dget {apos : Pos} (hu : X.A.units + 1 < cLine) (ha : SE X a ma) (hb : SE X b mb) (hd : SE X d md) (ho : notSuper a = true) (he : notStar b = true) (hf : notStar d = true) (hl : (apos.endLine == pos.line) = true) :
    SE X (.Call (.Attribute a "get" apos) [b, d] [] pos) (dgetM ma mb md) := by
  obtain ⟨ta, pa, ia⟩ := ha
  obtain ⟨tb, pb, ib⟩ := hb
  obtain ⟨td, pd, id⟩ := hd
  refine ⟨_, pe_dget2 hu pa pb pd (m2_of ho he hf hl), fun g ρ σ w h' Q s re e k => ?_⟩
  obtain ⟨x, h1, e1, e⟩ := Res.bind_ok e
  refine ia g ρ σ x h1 _ s re e1 fun g1 v1 t1 q1 r1 => ?_
  subst q1
  cases hd1 : dicOf g1.h x with
  | none => rw [hd1] at e; cases e
  | some pk =>
    rw [hd1] at e
    obtain ⟨p, kvs⟩ := pk
    obtain ⟨rfl, _, rfl, ys, hy, _⟩ := dicOf_get t1.sim r1 hd1
    obtain ⟨y, h2, e2, e⟩ := Res.bind_ok e
    obtain ⟨z, h3, e3, e⟩ := Res.bind_ok e
    obtain ⟨ea, rfl⟩ := Res.of_ok e
    refine ⟨_, rfl, .inl ⟨ys, .inl hy⟩, ?_⟩
    refine ib g1 ρ σ y _ _ t1.sim (re.kp (t1.kp s)) e2 fun g2 v2 t2 q2 r2 => ?_
    subst q2
    have t12 := t1.trans t2
    refine id g2 ρ σ z _ _ t2.sim (re.kp (t12.kp s)) e3 fun g3 v3 t3 q3 r3 => ?_
    subst q3
    obtain ⟨⟨p', kvs'⟩, hd3, ea⟩ := Option.bind_eq_some_iff.mp ea
    have r1' := (r1.kp (t2.kp t1.sim)).kp (t3.kp t2.sim)
    obtain ⟨ep, _, ev, ys', hy', rk⟩ := dicOf_get t3.sim r1' hd3
    cases ep
    have em : g1.mu p = g3.mu p := V.ref.inj ev
    split at ea
    · rename_i hk
      cases ea
      obtain ⟨k', rfl, kr⟩ := key_of hk (r2.kp (t3.kp t2.sim))
      have f := dfind_val kr rk
      refine ⟨_, DGet.k (by rw [em]; exact hy'), k g3 _ (t12.trans t3) rfl ?_⟩
      cases e : dfind y kvs' with
      | none => rw [f.2 e]; exact r3
      | some u =>
        obtain ⟨v, hv, rv⟩ := f.1 u e
        rw [hv]
        exact rv
    · cases ea
/-- {} -/
theorem se_ndic : SE X (.Dict [] [] pos) (fun _ h => .ok (.ref h.nx) (h.push (.dic []))) := by
  refine ⟨_, pe_dnewK, fun g ρ σ w h' Q s re e k => ?_⟩
  cases e
  intro p hp
  have t1 := Stp.lay (o := .dK []) s hp
  have t2 := t1.add (o := .dic []) hp upd_same (s.outNone hp) ⟨[], upd_same, rfl⟩ rfl
  exact k ⟨fun q => if q = g.h.nx then p else g.mu q, g.h.push (.dic []), upd g.H p (.dK []), g.L⟩ _ t2 rfl ⟨⟨_, VH.get_push_same _ _⟩, by show V.ref p = V.ref (if g.h.nx = g.h.nx then p else _); rw [if_pos rfl]⟩

/-! ### xs.append(e) -/
def appM (ma mb : Env → VH → Res W) : Env → VH → Res W := fun r h => (ma r h).bind fun x h1 => match lstOf h1 (.w x) with
    | none => .bad
    | some _ => (mb r h1).bind fun y h2 => match x with
      | .ref p => (match h2.get p with
        | some (.lst ws) => if Nat.blt ws.length size then .ok .non (h2.set p (.lst (ws ++ [y]))) else .bad
        | _ => .bad)
      | _ => .bad
theorem se_app {apos : Pos} (ha : SE X a ma) (hb : SE X b mb) (ho : notSuper a = true) (he : notStar b = true) (hl : (apos.endLine == pos.line) = true) : SE X (.Call (.Attribute a "append" apos) [b] [] pos) (appM ma mb) := by
  obtain ⟨ta, pa, ia⟩ := ha
  obtain ⟨tb, pb, ib⟩ := hb
  have h1 : starEach [b] X.env = [(false, eval b X.env)] := by rw [star_ he]; rfl
  refine ⟨_, pe_bm PySem.F.plainAttrs_list PySem.F.slot_list_append PySem.F.type_list_append mt_append pa (pa_cons pb pa_nil (star_ he)) (base_of ho) (by rw [h1]; rfl) hl (star_ he) rfl, fun g ρ σ w h' Q s re e k => ?_⟩
  obtain ⟨x, h1, e1, e⟩ := Res.bind_ok e
  refine ia g ρ σ x h1 _ s re e1 fun g1 v1 t1 q1 r1 => ?_
  subst q1
  cases hx : lstOf g1.h (.w x) with
  | none => rw [hx] at e; cases e
  | some us =>
    rw [hx] at e
    obtain ⟨p0, xs0, rfl, hq0, _⟩ := lstOf_sq (a := .w x) t1.sim r1 hx
    refine ⟨.inl ⟨rfl, xs0, hq0⟩, ?_⟩
    obtain ⟨y, h2, e2, e⟩ := Res.bind_ok e
    refine ib g1 ρ σ y _ _ t1.sim (re.kp (t1.kp s)) e2 fun g2 v2 t2 q2 r2 => ?_
    subst q2
    have r1' := r1.kp (t2.kp t1.sim)
    cases x with
    | ref p =>
      obtain ⟨_, ev⟩ := r1'
      have e : (match g2.h.get p with
        | some (.lst ws) => if Nat.blt ws.length size then Res.ok W.non (g2.h.set p (.lst (ws ++ [y]))) else .bad
        | _ => .bad) = .ok w h' := e
      cases eg : g2.h.get p with
      | none => rw [eg] at e; cases e
      | some o =>
        rw [eg] at e
        cases o with
        | lst ws =>
          have e : (if Nat.blt ws.length size then Res.ok W.non (g2.h.set p (.lst (ws ++ [y]))) else .bad) = .ok w h' := e
          split at e
          · rename_i hz
            cases e
            obtain ⟨xs, hx2, rw⟩ := t2.sim.ob p _ eg
            cases ev
            refine ⟨_, xs, v2, rfl, rfl, hx2, ?_, ?_⟩
            · rw [← rw.length]
              exact sizeLine_lt (by simpa [Nat.blt_eq] using hz)
            · have t3 := Stp.put (u := .lst (xs ++ [v2])) (o' := .lst (ws ++ [y])) t2.sim eg rfl rfl (by rw [hx2]; intro xs z; cases z) (fun g' kp hg => ⟨xs ++ [v2], hg, (rw.kp kp).append ⟨v2, [], rfl, r2.kp kp, rfl⟩⟩)
              exact k { g2 with h := g2.h.set p (.lst (ws ++ [y])), H := upd g2.H (g2.mu p) (.lst (xs ++ [v2])) } _ ((t1.trans t2).trans t3) rfl rfl
          · cases e
        | _ => cases e
    | _ => cases e
end
end VM


set_option Elab.async false
set_option linter.all false
set_option maxRecDepth 100000
set_option maxHeartbeats 2000000
namespace VM
open PySem L2

/-! ### calls of defs -/
/-- what the def f promises by the evaluator's call c -/
def spOf (K : PySem.W.Frag) (c : CF) (f n : Nat) : Sp := fun vs H Q _ => ∃ (g : Sg) (ws : List W) (w : W) (h' : VH), g.H = H ∧ Sim K g ∧ RWs K g ws vs ∧ ws.length = n ∧ c f ws g.h = .ok w h' ∧
  ∀ g' v, Stp K g g' → g'.h = h' → RW K g' w v → Q v g'.H
section
variable {X : Cx} {a b d e : Expr} {es : List Expr} {pos : Pos} {ma mb md : Env → VH → Res W} {va vb : Env → VH → Res Arg} {ms : Env → VH → Res (List W)}
theorem se_call {c : CF} {f k : Nat} {x : Str} {p : Pos} {fa : Addr} {fd : FuncData} {ps : List Str} (F : FnOk X.prog X.w X.K X.mg X.base CX0 k fa fd ps (spOf X.K c f ps.length)) (hr : Room k X.A) (hg : Gl X x) (hm : X.mg x = some (.ref fa)) (hk : PySem.W.keepIn X.K (.ref fa) = true) (hb : Binds X.K fd ps [])
    (hdb : (x == ("__debug__" : Str)) = false) (hst : (e :: es).all notStar = true) (hlen : (e :: es).length = ps.length) (hl : ∀ r h ws h', ms r h = .ok ws h' → ws.length = (e :: es).length) (ha : SA X (e :: es) ms) : SE X (.Call (.Name x p) (e :: es) [] pos) (fun r h => (ms r h).bind fun ws h1 => c f ws h1) := by
  obtain ⟨t, pa, i⟩ := ha
  rw [List.all_cons, Bool.and_eq_true] at hst
  refine ⟨_, pe_call F hr hg hm hk hb .nil pass0 pa hdb (star_ hst.1) (star_any hst.2), fun g ρ σ w h' Q s re e k => ?_⟩
  obtain ⟨ws, h1, e1, e⟩ := Res.bind_ok e
  refine i g ρ σ ws _ _ s re e1 fun g1 vs t1 q1 r1 => ?_
  subst q1
  exact ⟨g1, ws, w, h', rfl, t1.sim, by rw [List.append_nil]; exact r1, (hl _ _ _ _ e1).trans hlen, e, fun g2 v t2 q2 r2 => k g2 v (t1.trans t2) q2 r2⟩
theorem se_call0 {c : CF} {f k : Nat} {x : Str} {p : Pos} {fa : Addr} {fd : FuncData} {ps : List Str} (F : FnOk X.prog X.w X.K X.mg X.base CX0 k fa fd ps (spOf X.K c f ps.length)) (hr : Room k X.A) (hg : Gl X x) (hm : X.mg x = some (.ref fa)) (hk : PySem.W.keepIn X.K (.ref fa) = true) (hb : Binds X.K fd ps [])
    (hdb : (x == ("__debug__" : Str)) = false) (hlen : 0 = ps.length) : SE X (.Call (.Name x p) [] [] pos) (fun r h => c f [] h) := by
  refine ⟨_, pe_call0 F hr hg hm hk hb .nil pass0 hdb, fun g ρ σ w h' Q s re e k => ?_⟩
  exact ⟨g, [], w, h', rfl, s, rfl, hlen, e, k⟩
/-- keywords alone, in the parameters' order -/
def SK (X : Cx) (kws : List Keyword) (m : Env → VH → Res (List W)) : Prop := ∃ t : TA, PK X kws t ∧ ∀ (g : Sg) (r : Env) (σ : L2.St) (ws : List W) (h' : VH) (Q : List V → Hp → Prop), Sim X.K g → RE X.K g r σ → m r g.h = .ok ws h' →
  (∀ g' vs, Stp X.K g g' → g'.h = h' → RWs X.K g' ws vs → Q vs g'.H) → t σ g.H Q
theorem sk_nil : SK X [] nilM := ⟨_, pk_nil, fun g r σ w h' Q s re e k => by cases e; exact k g [] (.refl s) rfl rfl⟩
theorem sk_cons {kws : List Keyword} {nm : Option Str} {kpos : Pos} {m : Env → VH → Res W} (ha : SE X e m) (hr : SK X kws ms) : SK X (⟨nm, e, kpos⟩ :: kws) (consM m ms) := by
  obtain ⟨ta, pa, ia⟩ := ha
  obtain ⟨tb, pb, ib⟩ := hr
  refine ⟨_, pk_cons pa pb, fun g ρ σ w h' Q s re e k => ?_⟩
  obtain ⟨x, h1, e1, e⟩ := Res.bind_ok e
  obtain ⟨y, h2, e2, e⟩ := Res.bind_ok e
  cases e
  refine ia g ρ σ x h1 _ s re e1 fun g1 v1 t1 q1 r1 => ?_
  subst q1
  refine ib g1 ρ σ y _ _ t1.sim (re.kp (t1.kp s)) e2 fun g2 v2 t2 q2 r2 => ?_
  exact k g2 _ (t1.trans t2) q2 ⟨v1, v2, rfl, r1.kp (t2.kp t1.sim), r2⟩
def kwOk : List Keyword → List Str → Bool
  | [], [] => true
  | ⟨some n, _, _⟩ :: r, p :: ps => decide (n = p) && kwOk r ps
  | _, _ => false
theorem kwOk_names {env : PySem.Env} {pos : Pos} : ∀ {kws : List Keyword} {ps : List Str}, kwOk kws ps = true → (backToKw pos (keywordEach kws env)).all (·.1.isSome) = true ∧ (backToKw pos (keywordEach kws env)).filterMap (·.1) = ps ∧ (backToKw pos (keywordEach kws env)).any (·.1.isNone) = false
  | [], [], _ => ⟨rfl, rfl, rfl⟩
  | [], _ :: _, h => by cases h
  | ⟨none, _, _⟩ :: _, _, h => by cases h
  | ⟨some n, _, _⟩ :: r, [], h => by cases h
  | ⟨some n, v, q⟩ :: r, p :: ps, h => by
    have h : (decide (n = p) && kwOk r ps) = true := h
    rw [Bool.and_eq_true, decide_eq_true_eq] at h
    obtain ⟨h1, h2, h3⟩ := kwOk_names (env := env) (pos := pos) h.2
    obtain ⟨rfl, _⟩ := h
    simp only [keywordEach, backToKw, List.map_cons, List.all_cons, List.any_cons, List.filterMap_cons, Option.isSome_some, Option.isNone_some, Bool.true_and, Bool.false_or] at h1 h2 h3 ⊢
    exact ⟨h1, by rw [h2], h3⟩
theorem se_callK {c : CF} {f k : Nat} {x : Str} {p : Pos} {fa : Addr} {fd : FuncData} {ps : List Str} {kws : List Keyword} (F : FnOk X.prog X.w X.K X.mg X.base CX0 k fa fd ps (spOf X.K c f ps.length)) (hr : Room k X.A) (hg : Gl X x) (hm : X.mg x = some (.ref fa)) (hk : PySem.W.keepIn X.K (.ref fa) = true)
    (hb : ∀ (s : Shared) (us : List Value), us.length = ps.length → BindsTo s fd ⟨[], ps.zip us⟩ (ps.zip us)) (hdb : (x == ("__debug__" : Str)) = false) (hkw : kwOk kws ps = true) (hl : ∀ r h ws h', ms r h = .ok ws h' → ws.length = ps.length) (ha : SK X kws ms) :
    SE X (.Call (.Name x p) [] kws pos) (fun r h => (ms r h).bind fun ws h1 => c f ws h1) := by
  obtain ⟨t, pa, i⟩ := ha
  obtain ⟨n1, n2, n3⟩ := kwOk_names (env := X.env) (pos := pos) hkw
  have P : PE X (.Call (.Name x p) [] kws pos) (fun σ H Q => t σ H fun vs H1 => spOf X.K c f ps.length vs H1 Q E0) := by
    refine ⟨fun pins s σ H Q I h => ?_⟩
    refine wpAny_Call_Name_kw (ld_glob I hg hm ?_ hdb)
    refine PySem.W.callWith_KW0 (h₀ := X.base) I.ok.mod.kin hk n1 (thn (pa.run pos pins s σ H _ I h) fun us s1 ⟨vs, H1, I1, r, q⟩ => ⟨I1.kIn, ?_⟩) (by rw [n3]; rfl)
    rw [n2]
    have hlen : us.length = ps.length := by
      obtain ⟨_, ws, _, _, _, _, r1, l1, _⟩ := q
      rw [← r.length, ← r1.length, l1]
    refine wpAny_call (codeAny_mono (F.run X.A X.stack s1 H1 ⟨[], ps.zip us⟩ us vs Q E0 hr I1.env0 (hb s1 us hlen) r q) fun r s' hq => ?_)
    cases r with
    | error e => exact False.elim hq
    | ok fl =>
      cases fl with
      | ret u => exact I1.after hq
      | next => exact False.elim hq
      | brk => exact False.elim hq
      | cont => exact False.elim hq
  refine ⟨_, P, fun g ρ σ w h' Q s re e k => ?_⟩
  obtain ⟨ws, h1, e1, e⟩ := Res.bind_ok e
  refine i g ρ σ ws _ _ s re e1 fun g1 vs t1 q1 r1 => ?_
  subst q1
  exact ⟨g1, ws, w, h', rfl, t1.sim, r1, hl _ _ _ _ e1, e, fun g2 v t2 q2 r2 => k g2 v (t1.trans t2) q2 r2⟩

/-! ### what is walked -/
def WalkR (K : PySem.W.Frag) (g1 : Sg) (k : Wk) (J : It) : Prop := ∀ (g : Sg) (i : Nat), Stp K g1 g → k.still g.h = true →
  (∀ w, k.ws[i]? = some w → J.go i g.H ∧ ∀ x H', J.yld i g.H x H' → ∃ g', Stp K g g' ∧ g'.h = g.h ∧ g'.H = H' ∧ RW K g' w x) ∧ (i = k.ws.length → J.stop i g.H)
/-- an iterable under a target -/
def SI (X : Cx) (tg e : Expr) (m : Env → VH → Res Wk) : Prop := ∃ t : TI, PI X tg e t ∧ ∀ (g : Sg) (r : Env) (σ : L2.St) (k : Wk) (h' : VH) (R : It → Hp → Prop), Sim X.K g → RE X.K g r σ → m r g.h = .ok k h' →
  (∀ g' J, Stp X.K g g' → g'.h = h' → WalkR X.K g' k J → R J g'.H) → t σ g.H R
theorem still_keep {h : VH} {a : Arg} {ws : List W} : (⟨ws, keep a ws⟩ : Wk).still h = true → ∀ p, a = .w (.ref p) → cell h p = some ws := by
  rintro hs p rfl
  simp only [Wk.still, keep, List.all_cons, List.all_nil, Bool.and_true, still] at hs
  cases e : cell h p with
  | none => rw [e] at hs; cases hs
  | some us => rw [e] at hs; rw [beqWs_iff hs]
/-- what an operand reads as a list, later on -/
theorem lst_later {K : PySem.W.Frag} {g1 g : Sg} {a : Arg} {v : V} {ws : List W} (s : Sim K g1) (r : ArgR K g1 a v) (h : lstOf g1.h a = some ws) (t : Stp K g1 g) (hs : ∀ p, a = .w (.ref p) → cell g.h p = some ws) : ∃ p xs, v = .ref p ∧ SqL K g.H p xs ∧ RWs K g ws xs := by
  have r' := r.stp s t
  refine lstOf_sq t.sim r' ?_
  cases a with
  | fr us => exact h
  | w w =>
    cases w with
    | ref p => exact hs p rfl
    | lis us => exact h
    | _ => cases h
theorem walk_list {K : PySem.W.Frag} {g1 : Sg} {a : Arg} {p : Addr} {ws : List W} (s : Sim K g1) (r : ArgR K g1 a (.ref p)) (h : lstOf g1.h a = some ws) : WalkR K g1 ⟨ws, keep a ws⟩ (Itl K p) := by
  intro g i t hs
  obtain ⟨q, xs, e, hq, rw⟩ := lst_later s r h t (still_keep hs)
  cases e
  refine ⟨fun w hw => ?_, fun hi => ?_⟩
  · obtain ⟨x, hx, rx⟩ := rw.get hw
    refine ⟨⟨xs, x, hq, hx⟩, fun y H' hy => ?_⟩
    obtain ⟨rfl, hy⟩ := hy
    have := hy xs hq
    rw [hx] at this
    cases this
    exact ⟨g, .refl t.sim, rfl, rfl, rx⟩
  · exact ⟨xs, hq, by rw [hi, ← rw.length]; exact Nat.le_refl _⟩
theorem walk_tup {K : PySem.W.Frag} {g1 : Sg} {p : Addr} {ws : List W} {xs : List V} (s : Sim K g1) (hq : SqT K g1.H p xs) (rw : RWs K g1 ws xs) (ks : List (W × List W)) : WalkR K g1 ⟨ws, ks⟩ (Itt K p) := by
  intro g i t hs
  have hq := (t.kp s).tup hq
  have rw := rw.kp (t.kp s)
  refine ⟨fun w hw => ?_, fun hi => ?_⟩
  · obtain ⟨x, hx, rx⟩ := rw.get hw
    refine ⟨⟨xs, x, hq, hx⟩, fun y H' hy => ?_⟩
    obtain ⟨rfl, hy⟩ := hy
    have := hy xs hq
    rw [hx] at this
    cases this
    exact ⟨g, .refl t.sim, rfl, rfl, rx⟩
  · exact ⟨xs, hq, by rw [hi, ← rw.length]; exact Nat.le_refl _⟩
theorem PI.or {tg : Expr} {t u : TI} (a : PI X tg e t) (b : PI X tg e u) : PI X tg e (fun σ H R => t σ H R ∨ u σ H R) := ⟨fun pins s σ H R I h => by
  rcases h with h | h
  · exact a.run pins s σ H R I h
  · exact b.run pins s σ H R I h⟩
def itvM (va : Env → VH → Res Arg) : Env → VH → Res Wk := fun r h => (va r h).bind fun x h1 => Res.of (walkA h1 x) h1
theorem str_ws (z : List Nat) (i : Nat) : (z.map fun c => W.str [c])[i]? = (z[i]?).map fun c => W.str [c] := List.getElem?_map
theorem si_v {tg : Expr} (ha : SV X a va) : SI X tg a (itvM va) := by
  obtain ⟨t, p, i⟩ := ha
  refine ⟨_, PI.or (PI.or (pi_list p) (pi_tup p)) (pi_str p), fun g ρ σ k h' R s re e kk => ?_⟩
  obtain ⟨x, h1, e1, e⟩ := Res.bind_ok e
  obtain ⟨ea, eh⟩ := Res.of_ok e
  subst eh
  have lst : ∀ {ws : List W}, lstOf h' x = some ws → k = ⟨ws, keep x ws⟩ → iList X.K t σ g.H R := fun {ws} hl hk => by
    refine i g ρ σ x h' _ s re e1 fun g1 v t1 q1 r1 => ?_
    subst q1
    obtain ⟨p, xs, rfl, hq, rw⟩ := lstOf_sq t1.sim r1 hl
    exact ⟨p, rfl, ⟨xs, hq⟩, kk g1 _ t1 rfl (by rw [hk]; exact walk_list t1.sim r1 hl)⟩
  cases x with
  | fr us => cases ea; exact .inl (.inl (lst rfl rfl))
  | w w =>
    cases w with
    | str z =>
      cases ea
      refine .inr (i g ρ σ _ h' _ s re e1 fun g1 v t1 q1 r1 => ?_)
      cases r1
      refine ⟨_, rfl, kk g1 _ t1 q1 ?_⟩
      intro g2 j t2 _
      have hsz : (sv z).cps.size = z.length := by simp [sv]
      refine ⟨fun w hw => ?_, fun hj => ?_⟩
      · simp only [str_ws] at hw
        obtain ⟨c, hc, rfl⟩ := Option.map_eq_some_iff.mp hw
        have hlt : j < z.length := (List.getElem?_eq_some_iff.mp hc).1
        refine ⟨by show j < (sv z).cps.size; rw [hsz]; exact hlt, fun y H' hy => ?_⟩
        obtain ⟨rfl, c', hc', rfl⟩ := hy
        have : c' = c := by
          have h2 : (sv z).cps[j]? = z[j]? := by simp [sv]
          rw [h2, hc] at hc'
          exact (Option.some.inj hc').symm
        subst this
        exact ⟨g2, .refl t2.sim, rfl, rfl, rfl⟩
      · show (sv z).cps.size ≤ j
        rw [hsz, hj]
        simp
    | tup us =>
      cases ea
      refine .inl (.inr (i g ρ σ _ h' _ s re e1 fun g1 v t1 q1 r1 => ?_))
      obtain ⟨a, xs, rfl, hq, rw⟩ := r1
      exact ⟨a, rfl, ⟨xs, hq⟩, kk g1 _ t1 q1 (walk_tup t1.sim hq rw _)⟩
    | ref p =>
      obtain ⟨ws, hw, rfl⟩ := Option.map_eq_some_iff.mp (show ((seqOf h' (.w (.ref p))).map fun ws => (⟨ws, keep (.w (.ref p)) ws⟩ : Wk)) = some k from ea)
      exact .inl (.inl (lst hw rfl))
    | lis us => cases ea; exact .inl (.inl (lst rfl rfl))
    | _ => cases ea
theorem iota_len (lo : Int) : ∀ n : Nat, (iota lo n).length = n
  | 0 => rfl
  | n + 1 => by simp [iota, iota_len (lo + 1) n]
theorem iota_get (lo : Int) : ∀ (n i : Nat), i < n → (iota lo n)[i]? = some (.int (lo + i))
  | 0, _, h => absurd h (Nat.not_lt_zero _)
  | n + 1, 0, _ => by simp [iota]
  | n + 1, i + 1, h => by
    simp only [iota, List.getElem?_cons_succ]
    rw [iota_get (lo + 1) n i (by omega)]
    congr 2
    omega
theorem walk_rng {K : PySem.W.Frag} {g1 : Sg} (lo : Int) (n : Nat) : WalkR K g1 ⟨iota lo n, []⟩ (Itr lo n) := by
  intro g i t _
  refine ⟨fun w hw => ?_, fun hi => ?_⟩
  · have hlt : i < n := by
      have := (List.getElem?_eq_some_iff.mp hw).1
      rw [iota_len] at this
      exact this
    simp only [iota_get lo n i hlt] at hw
    cases hw
    refine ⟨hlt, fun y H' hy => ?_⟩
    obtain ⟨rfl, rfl⟩ := hy
    exact ⟨g, .refl t.sim, rfl, rfl, rfl⟩
  · show n ≤ i
    rw [hi, iota_len]
    exact Nat.le_refl _
def rngM (ma : Env → VH → Res W) : Env → VH → Res Wk := fun r h => (ma r h).bind fun x h1 => match x with
    | .int n => if decide (n ≤ 1000000) && decide (-1000000 ≤ n) then .ok ⟨iota 0 n.toNat, []⟩ h1 else .bad
    | _ => .bad
theorem si_rng {tg : Expr} {p : Pos} (hg : Gl X "range") (hm : X.mg "range" = none) (hn : notStar a = true) (ha : SE X a ma) : SI X tg (.Call (.Name "range" p) [a] [] pos) (rngM ma) := by
  obtain ⟨t, pa, i⟩ := ha
  refine ⟨_, pi_range1 hg hm (pa_cons pa pa_nil (star_ hn)) (by rw [star_ hn]; rfl), fun g ρ σ k h' R s re e kk => ?_⟩
  obtain ⟨x, h1, e1, e⟩ := Res.bind_ok e
  refine i g ρ σ x h1 _ s re e1 fun g1 v t1 q1 r1 => ?_
  cases x with
  | int n =>
    have e : (if decide (n ≤ 1000000) && decide (-1000000 ≤ n) then Res.ok (⟨iota 0 n.toNat, []⟩ : Wk) h1 else .bad) = .ok k h' := e
    split at e
    · rename_i hb
      cases e
      cases r1
      simp only [Bool.and_eq_true, decide_eq_true_eq] at hb
      exact ⟨n, rfl, by omega, by omega, kk g1 _ t1 q1 (walk_rng 0 n.toNat)⟩
    · cases e
  | _ => cases e
def rng2M (ma mb : Env → VH → Res W) : Env → VH → Res Wk := fun r h => (ma r h).bind fun x h1 => (mb r h1).bind fun y h2 => match x, y with
    | .int m, .int n => if decide (n ≤ 1000000) && decide (-1000000 ≤ n) && decide (m ≤ 1000000) && decide (-1000000 ≤ m) then .ok ⟨iota m (n - m).toNat, []⟩ h2 else .bad
    | _, _ => .bad
theorem si_rng2 {tg : Expr} {p : Pos} (hg : Gl X "range") (hm : X.mg "range" = none) (hn : notStar a = true) (hn2 : notStar b = true) (ha : SE X a ma) (hb : SE X b mb) : SI X tg (.Call (.Name "range" p) [a, b] [] pos) (rng2M ma mb) := by
  obtain ⟨t, pa, i⟩ := ha
  obtain ⟨t2, pb, i2⟩ := hb
  refine ⟨_, pi_range2 hg hm (pa_cons pa (pa_cons pb pa_nil (star_ hn2)) (star_ hn)) (by rw [star_ hn, star_ hn2]; rfl) (by rw [star_ hn2]; rfl), fun g ρ σ k h' R s re e kk => ?_⟩
  obtain ⟨x, h1, e1, e⟩ := Res.bind_ok e
  obtain ⟨y, h2, e2, e3⟩ := Res.bind_ok e
  refine i g ρ σ x h1 _ s re e1 fun g1 v t1 q1 r1 => ?_
  subst q1
  refine i2 g1 ρ σ y h2 _ t1.sim (re.kp (t1.kp s)) e2 fun g2 v2 t2 q2 r2 => ?_
  cases x with
  | int m =>
    cases y with
    | int n =>
      have e : (if decide (n ≤ 1000000) && decide (-1000000 ≤ n) && decide (m ≤ 1000000) && decide (-1000000 ≤ m) then Res.ok (⟨iota m (n - m).toNat, []⟩ : Wk) h2 else .bad) = .ok k h' := e3
      split at e
      · rename_i hb
        cases e
        cases r1
        cases r2
        simp only [Bool.and_eq_true, decide_eq_true_eq] at hb
        exact ⟨m, n, rfl, ⟨by omega, by omega, by omega, by omega⟩, kk g2 _ (t1.trans t2) q2 (walk_rng m _)⟩
      · cases e
    | _ => cases e3
  | _ => cases e3
theorem zip_get : ∀ {us ws : List W} {i : Nat} {w : W}, (zipW us ws)[i]? = some w → ∃ u v, us[i]? = some u ∧ ws[i]? = some v ∧ w = .tup [u, v]
  | [], _, _, _, h => by simp [zipW] at h
  | _ :: _, [], _, _, h => by simp [zipW] at h
  | u :: us, v :: ws, 0, _, h => by simp [zipW] at h; exact ⟨u, v, rfl, rfl, h.symm⟩
  | u :: us, v :: ws, i + 1, _, h => by
    simp only [zipW, List.getElem?_cons_succ] at h ⊢
    exact zip_get h
theorem zip_len : ∀ us ws : List W, (zipW us ws).length = min us.length ws.length
  | [], _ => by simp [zipW]
  | _ :: _, [] => by simp [zipW]
  | u :: us, v :: ws => by simp only [zipW, List.length_cons, zip_len us ws]; omega
theorem rw_pair {K : PySem.W.Frag} {g : Sg} {u v : W} {x y : V} {T : Addr} (s : Sim K g) (hT : g.H T = none) (r1 : RW K g u x) (r2 : RW K g v y) :
    Stp K g { g with H := upd g.H T (.tup [x, y]) } ∧ RW K { g with H := upd g.H T (.tup [x, y]) } (.tup [u, v]) (.ref T) := by
  have t := Stp.lay (o := .tup [x, y]) s hT
  exact ⟨t, T, [x, y], rfl, .inl (.inl upd_same), x, [y], rfl, r1.kp (t.kp s), y, [], rfl, r2.kp (t.kp s), rfl⟩
def zipM (va vb : Env → VH → Res Arg) : Env → VH → Res Wk := fun r h => (va r h).bind fun x h1 => (vb r h1).bind fun y h2 => Res.of ((lstOf h2 x).bind fun us => (lstOf h2 y).map fun ws => ⟨zipW us ws, keep x us ++ keep y ws⟩) h2
theorem si_zip {p tpos : Pos} {elts : List Expr} {kk : Nat} (hg : Gl X "zip") (hm : X.mg "zip" = none) (hn : notStar a = true) (hn2 : notStar b = true) (ha : SV X a va) (hb : SV X b vb) : SI X (.Tuple elts kk tpos) (.Call (.Name "zip" p) [a, b] [] pos) (zipM va vb) := by
  obtain ⟨t, pa, i⟩ := ha
  obtain ⟨t2, pb, i2⟩ := hb
  refine ⟨_, pi_zip hg hm (pa_cons pa (pa_cons pb pa_nil (star_ hn2)) (star_ hn)) (star_ hn) (star_any (es := [b]) (by rw [List.all_cons, hn2]; rfl)), fun g ρ σ k h' R s re e kk => ?_⟩
  obtain ⟨x, h1, e1, e⟩ := Res.bind_ok e
  obtain ⟨y, h2, e2, e⟩ := Res.bind_ok e
  obtain ⟨ea, rfl⟩ := Res.of_ok e
  obtain ⟨us, hu, ea⟩ := Option.bind_eq_some_iff.mp ea
  obtain ⟨ws, hw, rfl⟩ := Option.map_eq_some_iff.mp ea
  refine i g ρ σ x h1 _ s re e1 fun g1 v1 t1 q1 r1 => ?_
  subst q1
  refine i2 g1 ρ σ y _ _ t1.sim (re.kp (t1.kp s)) e2 fun g2 v2 t2 q2 r2 => ?_
  subst q2
  have r1 := r1.stp t1.sim t2
  obtain ⟨p, xs, rfl, hq, rw⟩ := lstOf_sq t2.sim r1 hu
  obtain ⟨q, ys, rfl, hq2, rw2⟩ := lstOf_sq t2.sim r2 hw
  refine ⟨p, q, xs, ys, rfl, hq, hq2, kk g2 _ (t1.trans t2) rfl ?_⟩
  intro g3 j t3 hs
  have hs1 : (⟨us, keep x us⟩ : Wk).still g3.h = true ∧ (⟨ws, keep y ws⟩ : Wk).still g3.h = true := by
    simp only [Wk.still, List.all_append, Bool.and_eq_true] at hs ⊢
    exact hs
  obtain ⟨p', xs', ep, hp, rwp⟩ := lst_later t2.sim r1 hu t3 (still_keep hs1.1)
  obtain ⟨q', ys', eq, hq', rwq⟩ := lst_later t2.sim r2 hw t3 (still_keep hs1.2)
  cases ep
  cases eq
  refine ⟨fun w hw => ?_, fun hj => ?_⟩
  · obtain ⟨u, v, hu', hv', rfl⟩ := zip_get hw
    obtain ⟨x1, hx1, rx1⟩ := rwp.get hu'
    obtain ⟨y1, hy1, ry1⟩ := rwq.get hv'
    refine ⟨⟨xs', ys', x1, y1, hp, hq', hx1, hy1⟩, fun z H' hz => ?_⟩
    obtain ⟨T, a1, b1, rfl, hT, rfl, h3, h4⟩ := hz
    have h3 := h3 xs' hp
    have h4 := h4 ys' hq'
    rw [hx1] at h3
    rw [hy1] at h4
    cases h3
    cases h4
    obtain ⟨t4, r4⟩ := rw_pair t3.sim hT rx1 ry1
    exact ⟨_, t4, rfl, rfl, r4⟩
  · refine ⟨xs', ys', hp, hq', ?_⟩
    have hl := zip_len us ws
    have : j = min us.length ws.length := by rw [hj]; exact hl
    rw [← rwp.length, ← rwq.length]
    omega
theorem enm_get : ∀ {ws : List W} {k : Int} {i : Nat} {w : W}, (enmW k ws)[i]? = some w → ∃ v, ws[i]? = some v ∧ w = .tup [.int (k + i), v]
  | [], _, _, _, h => by simp [enmW] at h
  | v :: ws, k, 0, _, h => by simp [enmW] at h; exact ⟨v, rfl, by rw [← h]; simp⟩
  | v :: ws, k, i + 1, _, h => by
    simp only [enmW, List.getElem?_cons_succ] at h ⊢
    obtain ⟨u, h1, h2⟩ := enm_get h
    refine ⟨u, h1, ?_⟩
    rw [h2]
    congr 3
    omega
theorem enm_len (k : Int) : ∀ ws : List W, (enmW k ws).length = ws.length
  | [] => rfl
  | _ :: ws => by simp [enmW, enm_len (k + 1) ws]
def enmM (va : Env → VH → Res Arg) : Env → VH → Res Wk := fun r h => (va r h).bind fun x h1 => Res.of ((lstOf h1 x).map fun ws => ⟨enmW 0 ws, keep x ws⟩) h1
theorem si_enm {p tpos : Pos} {elts : List Expr} {kk : Nat} (hg : Gl X "enumerate") (hm : X.mg "enumerate" = none) (hn : notStar a = true) (ha : SV X a va) : SI X (.Tuple elts kk tpos) (.Call (.Name "enumerate" p) [a] [] pos) (enmM va) := by
  obtain ⟨t, pa, i⟩ := ha
  refine ⟨_, pi_enum hg hm (pa_cons pa pa_nil (star_ hn)) (by rw [star_ hn]; rfl), fun g ρ σ k h' R s re e kk => ?_⟩
  obtain ⟨x, h1, e1, e⟩ := Res.bind_ok e
  obtain ⟨ea, rfl⟩ := Res.of_ok e
  obtain ⟨ws, hw, rfl⟩ := Option.map_eq_some_iff.mp ea
  refine i g ρ σ x _ _ s re e1 fun g1 v1 t1 q1 r1 => ?_
  subst q1
  obtain ⟨p, xs, rfl, hq, rw⟩ := lstOf_sq t1.sim r1 hw
  refine ⟨p, xs, rfl, hq, kk g1 _ t1 rfl ?_⟩
  intro g3 j t3 hs
  obtain ⟨p', xs', ep, hp, rwp⟩ := lst_later t1.sim r1 hw t3 (still_keep hs)
  cases ep
  refine ⟨fun w hw => ?_, fun hj => ?_⟩
  · obtain ⟨v, hv', rfl⟩ := enm_get hw
    obtain ⟨y1, hy1, ry1⟩ := rwp.get hv'
    refine ⟨⟨xs', y1, hp, hy1⟩, fun z H' hz => ?_⟩
    obtain ⟨T, b1, rfl, hT, rfl, h4⟩ := hz
    have h4 := h4 xs' hp
    rw [hy1] at h4
    cases h4
    obtain ⟨t4, r4⟩ := rw_pair (u := .int (0 + j)) (x := .int (j : Nat)) t3.sim hT (by show V.int _ = V.int _; simp) ry1
    exact ⟨_, t4, rfl, rfl, r4⟩
  · refine ⟨xs', hp, ?_⟩
    have hl := enm_len 0 ws
    rw [← rwp.length]
    show ws.length ≤ j
    rw [hj]
    exact Nat.le_of_eq hl.symm
end
end VM


set_option Elab.async false
set_option linter.all false
set_option maxRecDepth 100000
set_option maxHeartbeats 2000000
namespace VM
open PySem L2

/-! ### targets -/
mutual
def slotsG : IG → List Nat
  | .nm i => [i]
  | .tp gs => slotsGs gs
def slotsGs : List IG → List Nat
  | [] => []
  | g :: gs => slotsG g ++ slotsGs gs
end
theorem wipe_at (σ : L2.St) : ∀ (vs : List Nat) (j : Nat), (L2.wipe σ vs)[j]? = if j ∈ vs then (σ[j]?).map (fun _ => none) else σ[j]?
  | [], j => by simp [L2.wipe]
  | v :: vs, j => by
    unfold L2.wipe
    by_cases h : v = j
    · subst h
      by_cases hl : v < (L2.wipe σ vs).length
      · rw [List.getElem?_set_self hl, if_pos List.mem_cons_self]
        rw [L2.wipe_length] at hl
        simp [hl]
      · rw [List.getElem?_eq_none (by simpa using hl), if_pos List.mem_cons_self]
        rw [L2.wipe_length] at hl
        simp [Nat.not_lt.mp hl]
    · rw [List.getElem?_set_ne h, wipe_at σ vs j]
      by_cases hj : j ∈ vs
      · rw [if_pos hj, if_pos (List.mem_cons_of_mem _ hj)]
      · rw [if_neg hj, if_neg (by simp only [List.mem_cons, not_or]; exact ⟨fun e => h e.symm, hj⟩)]
theorem wipe_set (σ : L2.St) (x : Option V) {i : Nat} {vs : List Nat} (h : i ∈ vs) : L2.wipe (σ.set i x) vs = L2.wipe σ vs := by
  apply List.ext_getElem?
  intro j
  rw [wipe_at, wipe_at]
  by_cases hj : j ∈ vs
  · rw [if_pos hj, if_pos hj]
    by_cases e : i = j
    · subst e
      by_cases hl : i < σ.length
      · rw [List.getElem?_set_self hl]
        simp [hl]
      · rw [List.getElem?_eq_none (by simpa using hl), List.getElem?_eq_none (by simpa using hl)]
    · rw [List.getElem?_set_ne e]
  · have ne : i ≠ j := fun e => hj (e ▸ h)
    rw [if_neg hj, if_neg hj, List.getElem?_set_ne ne]
theorem wipe_wipe (σ : L2.St) (vs : List Nat) : L2.wipe (L2.wipe σ vs) vs = L2.wipe σ vs := by
  apply List.ext_getElem?
  intro j
  rw [wipe_at, wipe_at]
  by_cases hj : j ∈ vs
  · rw [if_pos hj, if_pos hj]
    cases σ[j]? <;> rfl
  · rw [if_neg hj, if_neg hj]
section
variable {X : Cx} {a b d e : Expr} {es : List Expr} {pos : Pos} {ma mb md : Env → VH → Res W} {va vb : Env → VH → Res Arg} {ms : Env → VH → Res (List W)}
def SG (X : Cx) (tg : Expr) (ig : IG) : Prop := ∃ t : TG, PG X tg t ∧ ∀ (g : Sg) (w : W) (v : V) (r r' : Env) (σ : L2.St) (Q : L2.St → Hp → Prop), Sim X.K g → RE X.K g r σ → RW X.K g w v → bindG ig w r = some r' →
  (∀ σ', RE X.K g r' σ' → (∀ vs, (∀ i ∈ slotsG ig, i ∈ vs) → L2.wipe σ' vs = L2.wipe σ vs) → Q σ' g.H) → t v σ g.H Q
def SGs (X : Cx) (tgs : List Expr) (igs : List IG) : Prop := ∃ t : TGs, PGs X tgs t ∧ ∀ (g : Sg) (ws : List W) (vs : List V) (r r' : Env) (σ : L2.St) (Q : L2.St → Hp → Prop), Sim X.K g → RE X.K g r σ → RWs X.K g ws vs → bindGs igs ws r = some r' →
  (∀ σ', RE X.K g r' σ' → (∀ vs, (∀ i ∈ slotsGs igs, i ∈ vs) → L2.wipe σ' vs = L2.wipe σ vs) → Q σ' g.H) → t vs σ g.H Q
theorem sg_nm {i : Nat} {x : Str} (hN : X.N.Nodup) (hi : X.N[i]? = some x) (hx : Loc X.env.scope x) (hf : X.fn x = true ∨ X.env.scope.names.lookup x = some .local) : SG X (.Name x pos) (.nm i) := by
  refine ⟨_, pg_name hN hi hx hf, fun g w v r r' σ Q s re rw hb k => ?_⟩
  cases hb
  exact k _ (re.set rw) fun vs hv => wipe_set σ _ (hv i (by simp [slotsG]))
theorem sgs_nil : SGs X [] [] := by
  refine ⟨_, pgs_nil, fun g ws vs r r' σ Q s re rw hb k => ?_⟩
  cases ws with
  | nil => cases hb; cases rw; exact ⟨rfl, k σ re fun _ _ => rfl⟩
  | cons _ _ => cases hb
theorem asg_star (h : notStar e = true) {env : PySem.Env} : assignEach (e :: es) env = (false, assign e env) :: assignEach es env := by
  cases e <;> first | rfl | cases h
theorem sgs_cons {ig : IG} {igs : List IG} (hn : notStar e = true) (h1 : SG X e ig) (h2 : SGs X es igs) : SGs X (e :: es) (ig :: igs) := by
  obtain ⟨t, p, i⟩ := h1
  obtain ⟨ts, ps, is⟩ := h2
  refine ⟨_, pgs_cons p ps (by rw [asg_star hn]; rfl), fun g ws vs r r' σ Q s re rw hb k => ?_⟩
  cases ws with
  | nil => cases hb
  | cons w ws =>
    obtain ⟨v, vr, rfl, r1, r2⟩ := rw
    obtain ⟨r1', h1, h2⟩ := Option.bind_eq_some_iff.mp (show ((bindG ig w r).bind fun r1 => bindGs igs ws r1) = some r' from hb)
    refine ⟨v, vr, rfl, i g w v r r1' σ _ s re r1 h1 fun σ1 re1 w1 => ?_⟩
    refine is g ws vr r1' r' σ1 Q s re1 r2 h2 fun σ2 re2 w2 => k σ2 re2 fun vs hv => ?_
    rw [w2 vs (fun i hi => hv i (by simp only [slotsGs, List.mem_append]; exact .inr hi)), w1 vs (fun i hi => hv i (by simp only [slotsGs, List.mem_append]; exact .inl hi))]
theorem asg_len {env : PySem.Env} : ∀ {es : List Expr}, es.all notStar = true → (assignEach es env).length = es.length ∧ (assignEach es env).findIdx? (·.1) = none
  | [], _ => ⟨rfl, rfl⟩
  | e :: es, h => by
    rw [List.all_cons, Bool.and_eq_true] at h
    obtain ⟨h1, h2⟩ := asg_len (env := env) h.2
    rw [asg_star h.1]
    refine ⟨by simp [h1], ?_⟩
    rw [List.findIdx?_cons]
    simp [h2]
theorem bindGs_len : ∀ {gs : List IG} {ws : List W} {r r' : Env}, bindGs gs ws r = some r' → gs.length = ws.length
  | [], [], _, _, _ => rfl
  | [], _ :: _, _, _, h => by cases h
  | _ :: _, [], _, _, h => by cases h
  | g :: gs, w :: ws, r, r', h => by
    obtain ⟨r1, _, h2⟩ := Option.bind_eq_some_iff.mp (show ((bindG g w r).bind fun r1 => bindGs gs ws r1) = some r' from h)
    simp [bindGs_len h2]
theorem sg_tp {igs : List IG} {k : Nat} (hc : X.calm = true) (hst : es.all notStar = true) (hl : es.length = igs.length) (h : SGs X es igs) : SG X (.Tuple es k pos) (.tp igs) := by
  obtain ⟨t, p, i⟩ := h
  obtain ⟨h1, h2⟩ := asg_len (env := X.env) hst
  refine ⟨_, pg_tup hc p h1 h2, fun g w v r r' σ Q s re rw hb k => ?_⟩
  cases w with
  | tup ws =>
    obtain ⟨a, xs, rfl, hq, rws⟩ := rw
    refine ⟨a, xs, rfl, hq, ?_, i g ws xs r r' σ Q s re rws hb fun σ' re' hw => k σ' re' hw⟩
    rw [← rws.length, ← bindGs_len (show bindGs igs ws r = some r' from hb), hl]
  | _ => cases hb

end

/-! ### comprehensions -/
/-- the layer's heap without D -/
def Sg.del (g : Sg) (D : Addr) : Sg := { g with H := fun b => if b = D then none else g.H b }
def Sg.put (g : Sg) (D : Addr) (o : HO) : Sg := { g with H := upd g.H D o }
theorem del_ne {g : Sg} {D b : Addr} (h : b ≠ D) : (g.del D).H b = g.H b := if_neg h
theorem del_same {g : Sg} {D : Addr} : (g.del D).H D = none := if_pos rfl
theorem del_put {g : Sg} {D : Addr} {o : HO} : ((g.del D).put D o).H = upd g.H D o := by
  funext b
  show upd (g.del D).H D o b = upd g.H D o b
  by_cases h : b = D
  · rw [h, upd_same, upd_same]
  · rw [upd_ne h, upd_ne h, del_ne h]
theorem Kp.del {K : PySem.W.Frag} {g : Sg} {D : Addr} {xs : List V} (hD : g.H D = some (.lst xs)) (hx : Out g D) : Kp K g (g.del D) where
  tup := fun {a ys} h => by
    rcases h with (h | ⟨ob, h⟩) | h
    · exact .inl (.inl (by rw [del_ne (fun z => by rw [z, hD] at h; cases h)]; exact h))
    · exact .inl (.inr ⟨ob, by rw [del_ne (fun z => by rw [z, hD] at h; cases h)]; exact h⟩)
    · exact .inr h
  al := fun p o e => ⟨o, e⟩
  ag := fun _ _ _ => rfl
  li := fun a xs l e => ⟨l, by rw [del_ne (fun (z : a = D) => hx.2 (by rw [← z]; exact l))]; exact e⟩
theorem Sim.del {K : PySem.W.Frag} {g : Sg} {D : Addr} {xs : List V} (s : Sim K g) (hD : g.H D = some (.lst xs)) (hx : Out g D) : Sim K (g.del D) := by
  refine ⟨fun p o e => ?_, s.inj, s.nx, fun a l => let ⟨⟨xs, e⟩, z⟩ := s.lo a l; ⟨⟨xs, by rw [del_ne (fun (z : a = D) => hx.2 (by rw [← z]; exact l))]; exact e⟩, z⟩⟩
  have e : g.h.get p = some o := e
  by_cases t : trk o = true
  · exact (s.ob p o e).kp (Kp.del hD hx) fun u hu => by
      show (g.del D).H (g.mu p) = some u
      rw [del_ne (hx.1 p o e t)]
      exact hu
  · cases o with
    | frz b ws =>
      cases b with
      | true =>
        obtain ⟨ys, h1, h2⟩ := s.ob p _ e
        exact ⟨ys, h1, h2.kp (Kp.del hD hx)⟩
      | false => exact absurd rfl t
    | lst _ => exact absurd rfl t
    | dic _ => exact absurd rfl t
theorem Stp.hide {K : PySem.W.Frag} {g gE : Sg} {D : Addr} {o : HO} {xs : List V} (n : g.H D = none) (t : Stp K (g.put D o) gE) (hD : gE.H D = some (.lst xs)) (hx : Out gE D) : Stp K g (gE.del D) := by
  refine ⟨t.sim.del hD hx, t.al, t.ag, fun p u e q k => ?_, fun b u e x => ?_, fun a e => ?_, fun a u l e => ?_, fun a l => ?_⟩
  · have z : (g.put D o).H (gE.mu p) = none := t.nw p u e q k
    have ne : gE.mu p ≠ D := fun w => by rw [w] at z; rw [show (g.put D o).H D = some o from upd_same] at z; cases z
    show g.H (gE.mu p) = none
    rw [show (g.put D o).H (gE.mu p) = g.H (gE.mu p) from upd_ne ne] at z
    exact z
  · have ne : b ≠ D := fun w => by rw [w, n] at e; cases e
    rw [del_ne ne]
    exact t.fr b u (by show upd g.H D o b = some u; rw [upd_ne ne]; exact e) x
  · by_cases h : a = D
    · rw [h]; exact n
    · rw [del_ne h] at e
      have z := t.bk a e
      rw [show (g.put D o).H a = g.H a from upd_ne h] at z
      exact z
  · have ne : a ≠ D := fun w => by rw [w, n] at e; cases e
    obtain ⟨l1, e1⟩ := t.ll a u l (by show upd g.H D o a = some u; rw [upd_ne ne]; exact e)
    exact ⟨l1, by rw [del_ne ne]; exact e1⟩
  · rcases t.ln a l with l | e
    · exact .inl l
    · have ne : a ≠ D := fun w => by rw [w, show (g.put D o).H D = some o from upd_same] at e; cases e
      rw [show (g.put D o).H a = g.H a from upd_ne ne] at e
      exact .inr e

section
variable {X : Cx} {a b d e : Expr} {es : List Expr} {pos : Pos} {ma mb md : Env → VH → Res W} {va vb : Env → VH → Res Arg} {ms : Env → VH → Res (List W)}
abbrev Blk (X : Cx) (scope : Scope) (s : Shared) (H : Hp) (C : Addr) (cl : List (Str × Addr)) (fp : List Addr) : Cx := X.blk s H scope (compEnvC scope cl C X.env) fp
/-- one reading for all blocks -/
theorem blk_e {scope : Scope} {m : Env → VH → Res W} (h : ∀ s H C cl fp, SE (Blk X scope s H C cl fp) e m) : ∃ t : TE, (∀ s H C cl fp, PE (Blk X scope s H C cl fp) e t) ∧ ∀ (g : Sg) (r : Env) (σ : L2.St) (w : W) (h' : VH) (Q : VK), Sim X.K g → RE X.K g r σ → m r g.h = .ok w h' →
    (∀ g' v, Stp X.K g g' → g'.h = h' → RW X.K g' w v → Q v g'.H) → t σ g.H Q := by
  refine ⟨fun σ H Q => ∀ s H0 C cl fp, (h s H0 C cl fp).choose σ H Q, fun s H C cl fp => ⟨fun pins s1 σ H1 Q I q => ?_⟩, fun g r σ w h' Q sm re e k s H C cl fp => ?_⟩
  · exact (h s H C cl fp).choose_spec.1.run pins s1 σ H1 Q I (q s H C cl fp)
  · exact (h s H C cl fp).choose_spec.2 g r σ w h' Q sm re e k
theorem blk_t {scope : Scope} {m : Env → VH → Res Bool} (h : ∀ s H C cl fp, STt (Blk X scope s H C cl fp) e m) : ∃ t : TT, (∀ s H C cl fp, PT (Blk X scope s H C cl fp) e t) ∧ ∀ (g : Sg) (r : Env) (σ : L2.St) (b : Bool) (h' : VH) (Q : Bool → Hp → Prop), Sim X.K g → RE X.K g r σ → m r g.h = .ok b h' →
    (∀ g', Stp X.K g g' → g'.h = h' → Q b g'.H) → t σ g.H Q := by
  refine ⟨fun σ H Q => ∀ s H0 C cl fp, (h s H0 C cl fp).choose σ H Q, fun s H C cl fp => ⟨fun pins s1 σ H1 Q I q => ?_⟩, fun g r σ w h' Q sm re e k s H C cl fp => ?_⟩
  · exact (h s H C cl fp).choose_spec.1.run pins s1 σ H1 Q I (q s H C cl fp)
  · exact (h s H C cl fp).choose_spec.2 g r σ w h' Q sm re e k
theorem blk_g {scope : Scope} {ig : IG} (h : ∀ s H C cl fp, SG (Blk X scope s H C cl fp) e ig) : ∃ t : TG, (∀ s H C cl fp, PG (Blk X scope s H C cl fp) e t) ∧ ∀ (g : Sg) (w : W) (v : V) (r r' : Env) (σ : L2.St) (Q : L2.St → Hp → Prop), Sim X.K g → RE X.K g r σ → RW X.K g w v → bindG ig w r = some r' →
    (∀ σ', RE X.K g r' σ' → (∀ vs, (∀ i ∈ slotsG ig, i ∈ vs) → L2.wipe σ' vs = L2.wipe σ vs) → Q σ' g.H) → t v σ g.H Q := by
  refine ⟨fun v σ H Q => ∀ s H0 C cl fp, (h s H0 C cl fp).choose v σ H Q, fun s H C cl fp => ⟨fun pins s1 σ H1 v u Q I r q => ?_⟩, fun g w v r r' σ Q sm re rw e k s H C cl fp => ?_⟩
  · exact (h s H C cl fp).choose_spec.1.run pins s1 σ H1 v u Q I r (q s H C cl fp)
  · exact (h s H C cl fp).choose_spec.2 g w v r r' σ Q sm re rw e k

/-- one turn: the test and the element -/
def turnM (elt : Env → VH → Res W) (ig : IG) (t : Option (Env → VH → Res Bool)) (r : Env) (w : W) (h : VH) : Res (Option W) := match bindG ig w r with
  | none => .bad
  | some r1 => match t with
    | none => (elt r1 h).bind fun u h1 => .ok (some u) h1
    | some t => (t r1 h).bind fun b h1 => if b then (elt r1 h1).bind fun u h2 => .ok (some u) h2 else .ok none h1
def compM (elt : Env → VH → Res W) (ig : IG) (own : List Nat) (mi : Env → VH → Res Wk) (t : Option (Env → VH → Res Bool)) : Env → VH → Res (List W) := fun r h => (mi r h).bind fun k h1 => if Nat.ble k.ws.length size then compL k (turnM elt ig t (VM.wipe r own)) k.ws h1 else .bad
/-- a clause's tests -/
def TestOk (X : Cx) (scope : Scope) (ifs : List Expr) (mt : Option (Env → VH → Res Bool)) : Prop := match ifs, mt with
  | [], none => True
  | [c], some m => ∀ s H C cl fp, STt (Blk X scope s H C cl fp) c m
  | _, _ => False
theorem blk_ts {scope : Scope} {ifs : List Expr} {mt : Option (Env → VH → Res Bool)} (h : TestOk X scope ifs mt) : ∃ t : TT, (∀ s H C cl fp, PTs (Blk X scope s H C cl fp) ifs t) ∧ ∀ (g : Sg) (r : Env) (σ : L2.St) (b : Bool) (h' : VH) (Q : Bool → Hp → Prop), Sim X.K g → RE X.K g r σ →
    (match mt with | none => Res.ok true g.h | some m => m r g.h) = .ok b h' → (∀ g', Stp X.K g g' → g'.h = h' → Q b g'.H) → t σ g.H Q := by
  cases ifs with
  | nil =>
    cases mt with
    | some _ => cases h
    | none => exact ⟨tYes, fun _ _ _ _ _ => pts_nil, fun g r σ b h' Q s re e k => by cases e; exact k g (.refl s) rfl⟩
  | cons c ifs =>
    cases ifs with
    | cons _ _ => cases mt <;> cases h
    | nil =>
      cases mt with
      | none => cases h
      | some m =>
        obtain ⟨t, p, i⟩ := blk_t (X := X) (scope := scope) (e := c) (m := m) h
        exact ⟨t, fun s H C cl fp => pts_one (p s H C cl fp), i⟩
theorem turn_ok {elt : Env → VH → Res W} {ig : IG} {t : Option (Env → VH → Res Bool)} {r : Env} {w : W} {h h' : VH} {o : Option W} (e : turnM elt ig t r w h = .ok o h') :
    ∃ r1 b h1, bindG ig w r = some r1 ∧ (match t with | none => Res.ok true h | some m => m r1 h) = .ok b h1 ∧ ((b = true ∧ ∃ u, elt r1 h1 = .ok u h' ∧ o = some u) ∨ (b = false ∧ o = none ∧ h' = h1)) := by
  unfold turnM at e
  cases hb : bindG ig w r with
  | none => rw [hb] at e; cases e
  | some r1 =>
    rw [hb] at e
    cases t with
    | none =>
      obtain ⟨u, h1, e1, e2⟩ := Res.bind_ok e
      cases e2
      exact ⟨r1, true, h, rfl, rfl, .inl ⟨rfl, u, e1, rfl⟩⟩
    | some m =>
      obtain ⟨b, h1, e1, e2⟩ := Res.bind_ok e
      cases b with
      | true =>
        obtain ⟨u, h2, e3, e4⟩ := Res.bind_ok (show ((elt r1 h1).bind fun u h2 => .ok (some u) h2) = .ok o h' from e2)
        cases e4
        exact ⟨r1, true, h1, rfl, e1, .inl ⟨rfl, u, e3, rfl⟩⟩
      | false =>
        cases e2
        exact ⟨r1, false, _, rfl, e1, .inr ⟨rfl, rfl, rfl⟩⟩
theorem lc_imp {wi : TI} {tg : TG} {tt : TT} {te : TE} {ig : IG} {own : List Nat} {mi : Env → VH → Res Wk} {mt : Option (Env → VH → Res Bool)} {elt : Env → VH → Res W}
    (ii : ∀ (g : Sg) (r : Env) (σ : L2.St) (k : Wk) (h' : VH) (R : It → Hp → Prop), Sim X.K g → RE X.K g r σ → mi r g.h = .ok k h' → (∀ g' J, Stp X.K g g' → g'.h = h' → WalkR X.K g' k J → R J g'.H) → wi σ g.H R)
    (ig_ : ∀ (g : Sg) (w : W) (v : V) (r r' : Env) (σ : L2.St) (Q : L2.St → Hp → Prop), Sim X.K g → RE X.K g r σ → RW X.K g w v → bindG ig w r = some r' → (∀ σ', RE X.K g r' σ' → (∀ vs, (∀ i ∈ slotsG ig, i ∈ vs) → L2.wipe σ' vs = L2.wipe σ vs) → Q σ' g.H) → tg v σ g.H Q)
    (it : ∀ (g : Sg) (r : Env) (σ : L2.St) (b : Bool) (h' : VH) (Q : Bool → Hp → Prop), Sim X.K g → RE X.K g r σ → (match mt with | none => Res.ok true g.h | some m => m r g.h) = .ok b h' → (∀ g', Stp X.K g g' → g'.h = h' → Q b g'.H) → tt σ g.H Q)
    (ie : ∀ (g : Sg) (r : Env) (σ : L2.St) (w : W) (h' : VH) (Q : VK), Sim X.K g → RE X.K g r σ → elt r g.h = .ok w h' → (∀ g' v, Stp X.K g g' → g'.h = h' → RW X.K g' w v → Q v g'.H) → te σ g.H Q)
    (ho : ∀ i ∈ slotsG ig, i ∈ own) (g : Sg) (r : Env) (σ : L2.St) (ws : List W) (h' : VH) (Q : VK) (s : Sim X.K g) (re : RE X.K g r σ) (e : compM elt ig own mi mt r g.h = .ok ws h')
    (k : ∀ g' p xs, Stp X.K g g' → g'.h = h' → g.H p = none → g'.H p = some (.lst xs) → Out g' p → RWs X.K g' ws xs → Q (.ref p) g'.H) : tLc wi tg tt te own σ g.H Q := by
  obtain ⟨kw, h1, e1, e⟩ := Res.bind_ok e
  refine ii g r σ kw h1 _ s re e1 fun g1 J t1 q1 wk => ?_
  subst q1
  have e : (if Nat.ble kw.ws.length size then compL kw (turnM elt ig mt (VM.wipe r own)) kw.ws g1.h else .bad) = .ok ws h' := e
  split at e
  · rename_i hz
    have hz : kw.ws.length ≤ size := Nat.le_of_ble_eq_true hz
    intro D hD
    refine ⟨fun i m H => ∃ (g' : Sg) (xs : List V) (acc rest : List W), H = upd g'.H D (.lst xs) ∧ Stp X.K g1 g' ∧ g'.H D = none ∧ RWs X.K g' acc xs ∧ acc.length ≤ i ∧ m = kw.ws.length - i ∧ i ≤ kw.ws.length ∧ compL kw (turnM elt ig mt (VM.wipe r own)) (kw.ws.drop i) g'.h = .ok rest h' ∧ acc ++ rest = ws,
      ⟨_, g1, [], [], ws, rfl, .refl t1.sim, hD, rfl, Nat.le_refl _, rfl, Nat.zero_le _, e, rfl⟩, ?_⟩
    rintro i m H ⟨g', xs, acc, rest, rfl, t', n', rw, hacc, rfl, hi, ec, hws⟩
    have tI : Stp X.K g1 (g'.put D (.lst xs)) := t'.trans (Stp.lay t'.sim n')
    have hDI : (g'.put D (.lst xs)).H D = some (.lst xs) := upd_same
    have oI : Out (g'.put D (.lst xs)) D := t'.sim.outNone n'
    by_cases hlt : i < kw.ws.length
    · -- a turn
      have ed : kw.ws.drop i = kw.ws[i] :: kw.ws.drop (i + 1) := List.drop_eq_getElem_cons hlt
      rw [ed] at ec
      simp only [compL] at ec
      split at ec
      · rename_i hst
        obtain ⟨o, h2, e2, ec⟩ := Res.bind_ok ec
        obtain ⟨us, h3, e3, ec2⟩ := Res.bind_ok ec
        obtain ⟨wy, _⟩ := wk (g'.put D (.lst xs)) i tI hst
        obtain ⟨hgo, hy⟩ := wy kw.ws[i] (by simp [hlt])
        refine .inr ⟨hgo, _, fun H' hN => ⟨kw.ws.length - (i + 1), by omega, hN⟩, fun x H' hx => ?_⟩
        obtain ⟨g2, t2, q2, rfl, r2⟩ := hy x H' hx
        obtain ⟨r1, b, h4, hb, ht, hcase⟩ := turn_ok e2
        have tg2 := (t1.trans tI).trans t2
        have re2 : RE X.K g2 (VM.wipe r own) (L2.wipe σ own) := (re.kp (tg2.kp s)).wipe own
        refine ig_ g2 kw.ws[i] x _ r1 _ _ t2.sim re2 r2 hb fun σ2 re3 hw => ⟨?_, ?_⟩
        · rw [hw own ho]
          exact wipe_wipe σ own
        · have ht' : (match mt with | none => Res.ok true g2.h | some m => m r1 g2.h) = .ok b h4 := by rw [q2]; exact ht
          refine it g2 r1 σ2 b h4 _ t2.sim re3 ht' fun g3 t3 q3 => ?_
          have tI3 := t2.trans t3
          rcases hcase with ⟨rfl, u, he, rfl⟩ | ⟨rfl, rfl, rfl⟩
          · refine iteT ?_
            subst q3
            refine ie g3 r1 σ2 u h2 _ t3.sim (re3.kp (t3.kp t2.sim)) he fun g4 v t4 q4 r4 => ?_
            have tI4 := tI3.trans t4
            have hD4 : g4.H D = some (.lst xs) := tI4.fr D _ hDI oI
            have o4 : Out g4 D := tI4.out hDI oI
            have th : Stp X.K g' (g4.del D) := Stp.hide n' tI4 hD4 o4
            refine ⟨xs, hD4, ?_, g4.del D, xs ++ [v], acc ++ [u], us, ?_, t'.trans th, del_same, ?_, ?_, rfl, hlt, ?_, ?_⟩
            · rw [← rw.length]
              exact sizeLine_lt (by omega)
            · exact del_put.symm
            · exact (rw.kp (th.kp t'.sim)).append ⟨v, [], rfl, r4.kp (Kp.del hD4 o4), rfl⟩
            · simp
              omega
            · show compL kw _ _ g4.h = _
              rw [q4]
              cases ec2
              exact e3
            · cases ec2
              rw [List.append_assoc]
              exact hws
          · refine iteF ?_
            subst q3
            have hD4 : g3.H D = some (.lst xs) := tI3.fr D _ hDI oI
            have o4 : Out g3 D := tI3.out hDI oI
            have th : Stp X.K g' (g3.del D) := Stp.hide n' tI3 hD4 o4
            refine ⟨g3.del D, xs, acc, us, ?_, t'.trans th, del_same, rw.kp (th.kp t'.sim), Nat.le_succ_of_le hacc, rfl, hlt, ?_, ?_⟩
            · rw [show upd (g3.del D).H D (.lst xs) = upd g3.H D (.lst xs) from del_put]
              funext c
              by_cases hc : c = D
              · rw [hc, upd_same, hD4]
              · rw [upd_ne hc]
            · cases ec2
              exact e3
            · cases ec2
              exact hws
      · cases ec
    · have hie : i = kw.ws.length := by omega
      subst hie
      rw [List.drop_eq_nil_of_le (Nat.le_refl _)] at ec
      simp only [compL] at ec
      split at ec
      · rename_i hst
        cases ec
        obtain ⟨_, wst⟩ := wk (g'.put D (.lst xs)) kw.ws.length tI hst
        refine .inl ⟨wst rfl, ?_⟩
        rw [List.append_nil] at hws
        subst hws
        exact k (g'.put D (.lst xs)) D xs (t1.trans tI) rfl (t1.bk _ hD) hDI oI (rw.kp ((Stp.lay (o := .lst xs) t'.sim n').kp t'.sim))
      · cases ec
  · cases e
theorem noSet : ∀ {iter : Expr} {env : PySem.Env}, (match iter with | .Set _ _ _ => false | _ => true) = true → ∀ x, foldedSetIterable iter env x = pure x := by
  intro iter env h x
  cases iter <;> first | rfl | cases h
theorem sl_comp {elt tg iter : Expr} {ifs : List Expr} {scope : Scope} {own : List (Str × Nat)} {ig : IG} {mi : Env → VH → Res Wk} {mt : Option (Env → VH → Res Bool)} {me : Env → VH → Res W} (hc : X.calm = true) (hN : X.N.Nodup) (hi : SI X tg iter mi) (ok : BlkOk X.N X.env.scope scope own)
    (hg : ∀ s H C cl fp, SG (Blk X scope s H C cl fp) tg ig) (ht : TestOk X scope ifs mt) (he : ∀ s H C cl fp, SE (Blk X scope s H C cl fp) elt me) (hs : ∀ x, foldedSetIterable iter X.env x = pure x) (ho : ∀ i ∈ slotsG ig, i ∈ own.map (·.2)) :
    SL X (.ListComp elt [⟨tg, iter, ifs, 0⟩] scope pos) (compM me ig (own.map (·.2)) mi mt) := by
  obtain ⟨ti, pi, ii⟩ := hi
  obtain ⟨tg_, pg, ig_⟩ := blk_g hg
  obtain ⟨tt, pt, it⟩ := blk_ts ht
  obtain ⟨te, pe, ie⟩ := blk_e he
  exact ⟨_, pe_lc hc hN pi ok pg pt pe hs, fun g r σ ws h' Q s re e k => lc_imp ii ig_ it ie ho g r σ ws h' Q s re e k⟩
/-- name = [..] on one line -/
theorem ss_lc {i : Nat} {y : Str} {py spos : Pos} {elt tg iter : Expr} {ifs : List Expr} {scope : Scope} {own : List (Str × Nat)} {ig : IG} {mi : Env → VH → Res Wk} {mt : Option (Env → VH → Res Bool)} {me : Env → VH → Res W} (hc : X.calm = true) (hN : X.N.Nodup) (hy : X.N[i]? = some y) (hyl : X.env.scope.names.lookup y = some .local)
    (hsw : swapsWith (.ListComp elt [⟨tg, iter, ifs, 0⟩] scope pos) (some (.Name y py)) spos.line X.env = pure true) (hi : SI X tg iter mi) (ok : BlkOk X.N X.env.scope scope own)
    (hg : ∀ s H C cl fp, SG (Blk X scope s H C cl fp) tg ig) (ht : TestOk X scope ifs mt) (he : ∀ s H C cl fp, SE (Blk X scope s H C cl fp) elt me) (hs : ∀ x, foldedSetIterable iter X.env x = pure x) (ho : ∀ i ∈ slotsG ig, i ∈ own.map (·.2)) :
    SS X (.Assign [.Name y py] (.ListComp elt [⟨tg, iter, ifs, 0⟩] scope pos) spos) (fun r h => (((compM me ig (own.map (·.2)) mi mt) r h).bind fun ws h1 => .ok (W.ref h1.nx) (h1.push (.lst ws))).toS fun w h1 => .nx (r.set i (some w)) h1) := by
  obtain ⟨ti, pi, ii⟩ := hi
  obtain ⟨tg_, pg, ig_⟩ := blk_g hg
  obtain ⟨tt, pt, it⟩ := blk_ts ht
  obtain ⟨te, pe, ie⟩ := blk_e he
  refine ⟨_, ps_setLc hc hN hy hyl hsw pi ok pg pt pe hs, fun g r σ D s re dk => ?_⟩
  dsimp only at dk
  cases ec : compM me ig (own.map (·.2)) mi mt r g.h with
  | bad => rw [ec] at dk; cases dk
  | ok ws h1 =>
    rw [ec] at dk
    refine lc_imp ii ig_ it ie ho g r σ ws h1 _ s re ec fun g' p xs st eh n hp ho rw => ?_
    have st2 := st.add (o := .lst ws) n hp ho ⟨xs, hp, rw⟩ rfl
    subst eh
    have rr : RW X.K ⟨fun q => if q = g'.h.nx then p else g'.mu q, g'.h.push (.lst ws), g'.H, g'.L⟩ (.ref g'.h.nx) (.ref p) := ⟨⟨_, VH.get_push_same _ _⟩, by show V.ref p = V.ref (if g'.h.nx = g'.h.nx then p else _); rw [if_pos rfl]⟩
    exact dk ⟨fun q => if q = g'.h.nx then p else g'.mu q, g'.h.push (.lst ws), g'.H, g'.L⟩ _ st2 rfl ((re.kp (st2.kp s)).set rr)
/-- the same, a list that nobody changes -/
theorem ss_lcp {i : Nat} {y : Str} {py spos : Pos} {elt tg iter : Expr} {ifs : List Expr} {scope : Scope} {own : List (Str × Nat)} {ig : IG} {mi : Env → VH → Res Wk} {mt : Option (Env → VH → Res Bool)} {me : Env → VH → Res W} (hc : X.calm = true) (hN : X.N.Nodup) (hy : X.N[i]? = some y) (hyl : X.env.scope.names.lookup y = some .local)
    (hsw : swapsWith (.ListComp elt [⟨tg, iter, ifs, 0⟩] scope pos) (some (.Name y py)) spos.line X.env = pure true) (hi : SI X tg iter mi) (ok : BlkOk X.N X.env.scope scope own)
    (hg : ∀ s H C cl fp, SG (Blk X scope s H C cl fp) tg ig) (ht : TestOk X scope ifs mt) (he : ∀ s H C cl fp, SE (Blk X scope s H C cl fp) elt me) (hs : ∀ x, foldedSetIterable iter X.env x = pure x) (ho : ∀ i ∈ slotsG ig, i ∈ own.map (·.2)) :
    SS X (.Assign [.Name y py] (.ListComp elt [⟨tg, iter, ifs, 0⟩] scope pos) spos) (fun r h => (((compM me ig (own.map (·.2)) mi mt) r h).bind fun ws h1 => .ok (W.lis ws) h1).toS fun w h1 => .nx (r.set i (some w)) h1) := by
  obtain ⟨ti, pi, ii⟩ := hi
  obtain ⟨tg_, pg, ig_⟩ := blk_g hg
  obtain ⟨tt, pt, it⟩ := blk_ts ht
  obtain ⟨te, pe, ie⟩ := blk_e he
  refine ⟨_, ps_setLc hc hN hy hyl hsw pi ok pg pt pe hs, fun g r σ D s re dk => ?_⟩
  dsimp only at dk
  cases ec : compM me ig (own.map (·.2)) mi mt r g.h with
  | bad => rw [ec] at dk; cases dk
  | ok ws h1 =>
    rw [ec] at dk
    refine lc_imp ii ig_ it ie ho g r σ ws h1 _ s re ec fun g' p xs st eh n hp ho rw => ?_
    obtain ⟨st2, k2⟩ := st.pur n hp ho
    exact dk { g' with L := fun a => g'.L a ∨ a = p } _ st2 eh ((re.kp (st2.kp s)).set ⟨p, xs, rfl, .inr rfl, hp, rw.kp k2⟩)
end
end VM


set_option Elab.async false
set_option linter.all false
set_option maxRecDepth 100000
set_option maxHeartbeats 2000000
namespace VM
open PySem L2
section
variable {X : Cx} {a b d e : Expr} {es : List Expr} {pos : Pos} {ma mb md : Env → VH → Res W} {va vb : Env → VH → Res Arg} {ms : Env → VH → Res (List W)} {mt : Env → VH → Res Bool}
theorem DOk.mono {D : Ends} {g g' : Sg} (t : Stp X.K g g') : ∀ {r : SRes}, DOk X D g r → DOk X D g' r
  | .nx _ _, h => fun g2 σ t2 => h g2 σ (t.trans t2)
  | .rt _ _, h => fun g2 σ t2 => h g2 σ (t.trans t2)
  | .bk _ _, h => fun g2 σ t2 => h g2 σ (t.trans t2)
  | .ct _ _, h => fun g2 σ t2 => h g2 σ (t.trans t2)
  | .bad, h => h
theorem toS_ok {D : Ends} {g : Sg} {r : Res W} {f : W → VH → SRes} (h : DOk X D g (r.toS f)) : ∃ w h1, r = .ok w h1 ∧ DOk X D g (f w h1) := by
  cases r with
  | ok w h1 => exact ⟨w, h1, rfl, h⟩
  | bad => exact False.elim h
/-- a value that is no comprehension -/
def notComp : Expr → Bool
  | .ListComp _ _ _ _ => false
  | .SetComp _ _ _ _ => false
  | .DictComp _ _ _ _ _ => false
  | _ => true
theorem sw_no {tg : Option Expr} {l : Nat} {env : PySem.Env} (h : notComp e = true) : swapsWith e tg l env = pure false := by
  cases e <;> first | rfl | cases h
theorem ss_exp (h : SE X e ma) (hn : notComp e = true) : SS X (.Expr e pos) (fun r h => (ma r h).toS fun _ h1 => .nx r h1) := by
  obtain ⟨t, p, i⟩ := h
  refine ⟨_, ps_expr p (sw_no hn), fun g r σ D s re dk => ?_⟩
  obtain ⟨w, h1, e1, dk⟩ := toS_ok dk
  exact i g r σ w h1 _ s re e1 fun g' v st eh rw => dk g' σ st eh (re.kp (st.kp s))
theorem ss_ret (h : SE X e ma) : SS X (.Return (some e) pos) (fun r h => (ma r h).toS fun w h1 => .rt w h1) := by
  obtain ⟨t, p, i⟩ := h
  refine ⟨_, ps_ret p, fun g r σ D s re dk => ?_⟩
  obtain ⟨w, h1, e1, dk⟩ := toS_ok dk
  exact i g r σ w h1 _ s re e1 fun g' v st eh rw => dk g' v st eh rw
def asgM (ig : IG) (ma : Env → VH → Res W) : Env → VH → SRes := fun r h => (ma r h).toS fun w h1 => match bindG ig w r with
    | some r1 => .nx r1 h1
    | none => .bad
theorem ss_asg {tg : Expr} {ig : IG} (h : SE X e ma) (hg : SG X tg ig) (hst : notStar tg = true) (hs : swapsWithSole [tg] e pos.line X.env = pure false) (hw : swappedStores [tg] e X.env = pure none) : SS X (.Assign [tg] e pos) (asgM ig ma) := by
  obtain ⟨t, p, i⟩ := h
  obtain ⟨tg_, pg, ig_⟩ := hg
  refine ⟨_, ps_asg p pg hs hw (by rw [asg_star hst]; rfl), fun g r σ D s re dk => ?_⟩
  obtain ⟨w, h1, e1, dk⟩ := toS_ok dk
  refine i g r σ w h1 _ s re e1 fun g' v st eh rw => ?_
  cases hb : bindG ig w r with
  | none => simp only [hb] at dk; exact False.elim dk
  | some r1 =>
    simp only [hb] at dk
    exact ig_ g' w v r r1 σ _ st.sim (re.kp (st.kp s)) rw hb fun σ' re' _ => dk g' σ' st eh re'
theorem ss_par {i j : Nat} {x y : Str} {px py pt : Pos} {kt k2 pt2} (hc : X.calm = true) (hN : X.N.Nodup) (hi : X.N[i]? = some x) (hj : X.N[j]? = some y) (hij : i ≠ j) (hx : X.env.scope.names.lookup x = some .local) (hy : X.env.scope.names.lookup y = some .local)
    (hw : swappedStores [.Tuple [.Name x px, .Name y py] kt pt] (.Tuple [a, b] k2 pt2) X.env = pure (some [x, y])) (hsa : notStar a = true) (hsb : notStar b = true) (ha : SE X a ma) (hb : SE X b mb) :
    SS X (.Assign [.Tuple [.Name x px, .Name y py] kt pt] (.Tuple [a, b] k2 pt2) pos) (fun r h => (ma r h).toS fun x h1 => (mb r h1).toS fun y h2 => .nx ((r.set i (some x)).set j (some y)) h2) := by
  obtain ⟨ta, pa, ia⟩ := ha
  obtain ⟨tb, pb, ib⟩ := hb
  refine ⟨_, ps_par hc hN hi hj hij hx hy (pa_cons pa (pa_cons pb pa_nil (star_ hsb)) (star_ hsa)) hw, fun g r σ D s re dk => ?_⟩
  obtain ⟨w, h1, e1, dk1⟩ := toS_ok dk
  obtain ⟨u, h2, e2, dk2⟩ := toS_ok dk1
  refine ia g r σ w h1 _ s re e1 fun g1 v1 t1 q1 r1 => ?_
  subst q1
  refine ib g1 r σ u h2 _ t1.sim (re.kp (t1.kp s)) e2 fun g2 v2 t2 q2 r2 => ?_
  have t12 := t1.trans t2
  exact ⟨v1, v2, rfl, dk2 g2 _ t12 q2 (((re.kp (t12.kp s)).set (r1.kp (t2.kp t1.sim))).set r2)⟩
theorem starB (h : notStar a = true) : (match (generalizing := false) a with | .Starred .. => true | _ => false) = false := by cases a <;> first | rfl | cases h
/-- x, y = a, b by names -/
theorem swap2 {x y : Str} {px py pt : Pos} {kt k2 pt2} {env : PySem.Env} (hk : env.scope.kind = .function) (hx : env.scope.names.lookup x = some .local) (hy : env.scope.names.lookup y = some .local) (hxy : x ≠ y) (hl : py.line = px.line)
    (hsa : notStar a = true) (hsb : notStar b = true) (hf : (foldedForSure 8 a && foldedForSure 8 b) = false) (hc : (constantsAlone 8 a && constantsAlone 8 b) = false) : swappedStores [.Tuple [.Name x px, .Name y py] kt pt] (.Tuple [a, b] k2 pt2) env = pure (some [x, y]) := by
  have hb : env.blockKind = .function := by unfold Env.blockKind; rw [hk]; rfl
  have kx : env.kindOf x = some .local := hx
  have ky : env.kindOf y = some .local := hy
  have s1 := starB hsa
  have s2 := starB hsb
  have e1 : (x == y) = false := beq_eq_false_iff_ne.mpr hxy
  have e2 : (y == x) = false := beq_eq_false_iff_ne.mpr (Ne.symm hxy)
  unfold swappedStores
  simp only [List.length_cons, List.length_nil, hb, List.any_cons, List.any_nil, s1, s2, List.filterMap_cons, List.filterMap_nil, kx, ky, Expr.pos, hl, List.all_cons, List.all_nil, Bool.and_true, hf, hc, List.head?_cons, Option.map_some, Option.getD_some, List.eraseDups_cons, List.filter_cons, List.filter_nil, e1, e2, beq_self_eq_true, Bool.and_self, if_true, Bool.true_and, List.eraseDups_nil, Bool.not_false, Bool.false_eq_true, if_false]
  rw [if_neg (by decide)]
  refine (if_neg ?_).trans (if_neg (by decide))
  rw [Bool.or_eq_true, Bool.or_eq_true]
  intro h
  rcases h with h | h | h
  · exact Bool.noConfusion (h.symm.trans s1)
  · exact Bool.noConfusion (h.symm.trans s2)
  · cases h
def subM (ma mb md : Env → VH → Res W) : Env → VH → SRes := fun r h => (md r h).toS fun v h1 => (ma r h1).toS fun x h2 => (mb r h2).toS fun k h3 => match x, k with
    | .ref p, .int n => (match h3.get p with
      | some (.lst ws) => (match ix ws.length n with
        | some j => .nx r (h3.set p (.lst (ws.set j v)))
        | none => .bad)
      | _ => .bad)
    | _, _ => .bad
theorem ss_sub {pos' : Pos} (ha : SE X a ma) (hb : SE X b mb) (hd : SE X d md) (hn : notComp d = true) : SS X (.Assign [.Subscript a b pos'] d pos) (subM ma mb md) := by
  obtain ⟨ta, pa, ia⟩ := ha
  obtain ⟨tb, pb, ib⟩ := hb
  obtain ⟨td, pd, id⟩ := hd
  have P : PS X (.Assign [.Subscript a b pos'] d pos) (fun D σ H => td σ H fun v H1 => ta σ H1 fun x H2 => tb σ H2 fun y H3 => rSetL x y v H3 fun H4 => D.nx σ H4) := by
    refine ⟨fun pins s σ H D I h => ?_⟩
    refine wpAny_Assign_Subscript (thn (pd.run pins s σ H _ I h) fun r s1 ⟨v, H1, I1, rv, q1⟩ => thn (pa.run pins s1 σ H1 _ I1 q1) fun u s2 ⟨x, H2, I2, rx, q2⟩ => thn (pb.run pins s2 σ H2 _ I2 q2) fun iv s3 ⟨y, H3, I3, ry, q3⟩ => ?_) (sw_no hn)
    exact thn (set_list pins s3 σ H3 x y v u iv r _ I3 rx ry rv q3) fun _ s4 ⟨H4, I4, q4⟩ => ⟨σ, H4, I4, q4⟩
  refine ⟨_, P, fun g r σ D s re dk => ?_⟩
  obtain ⟨wv, h1, e1, dk⟩ := toS_ok dk
  obtain ⟨wx, h2, e2, dk⟩ := toS_ok dk
  obtain ⟨wk, h3, e3, dk⟩ := toS_ok dk
  refine id g r σ wv h1 _ s re e1 fun g1 v1 t1 q1 r1 => ?_
  subst q1
  refine ia g1 r σ wx h2 _ t1.sim (re.kp (t1.kp s)) e2 fun g2 v2 t2 q2 r2 => ?_
  subst q2
  have t12 := t1.trans t2
  refine ib g2 r σ wk h3 _ t2.sim (re.kp (t12.kp s)) e3 fun g3 v3 t3 q3 r3 => ?_
  subst q3
  have t13 := t12.trans t3
  cases wx with
  | ref p =>
    cases wk with
    | int n =>
      have dk : DOk X D g (match g3.h.get p with
        | some (.lst ws) => (match ix ws.length n with
          | some j => .nx r (g3.h.set p (.lst (ws.set j wv)))
          | none => .bad)
        | _ => .bad) := dk
      cases eg : g3.h.get p with
      | none => rw [eg] at dk; exact False.elim dk
      | some o =>
        rw [eg] at dk
        cases o with
        | lst ws =>
          have dk : DOk X D g (match ix ws.length n with
            | some j => .nx r (g3.h.set p (.lst (ws.set j wv)))
            | none => .bad) := dk
          cases ej : ix ws.length n with
          | none => rw [ej] at dk; exact False.elim dk
          | some j =>
            rw [ej] at dk
            obtain ⟨_, ev⟩ := r2.kp (t3.kp t2.sim)
            cases r3
            obtain ⟨xs, hx, rw⟩ := t3.sim.ob p _ eg
            have r1' := (r1.kp (t2.kp t1.sim)).kp (t3.kp t2.sim)
            refine ⟨g3.mu p, xs, n, j, ev, rfl, hx, by rw [← rw.length]; exact (ix_N ej).1, ?_⟩
            have t4 := Stp.put (u := .lst (xs.set j v1)) (o' := .lst (ws.set j wv)) t3.sim eg rfl rfl (by rw [hx]; intro xs z; cases z) (fun g' kp hg => ⟨xs.set j v1, hg, (rw.kp kp).set j (r1'.kp kp)⟩)
            have t14 := t13.trans t4
            exact dk _ σ t14 rfl (re.kp (t14.kp s))
        | _ => exact False.elim dk
    | _ => exact False.elim dk
  | _ => exact False.elim dk
def dsubM (ma mb md : Env → VH → Res W) : Env → VH → SRes := fun r h => (md r h).toS fun v h1 => (ma r h1).toS fun x h2 => (mb r h2).toS fun k h3 => match dicOf h3 x with
    | some (p, kvs) => if keyOk k && Nat.blt kvs.length size then .nx r (h3.set p (.dic (dput k v kvs))) else .bad
    | none => .bad
theorem ss_dsub {pos' : Pos} (hu : X.A.units + 1 < cLine) (ha : SE X a ma) (hb : SE X b mb) (hd : SE X d md) (hn : notComp d = true) : SS X (.Assign [.Subscript a b pos'] d pos) (dsubM ma mb md) := by
  obtain ⟨ta, pa, ia⟩ := ha
  obtain ⟨tb, pb, ib⟩ := hb
  obtain ⟨td, pd, id⟩ := hd
  refine ⟨_, ps_dput hu pa pb pd (sw_no hn), fun g r σ D s re dk => ?_⟩
  obtain ⟨wv, h1, e1, dk⟩ := toS_ok dk
  obtain ⟨wx, h2, e2, dk⟩ := toS_ok dk
  obtain ⟨wk, h3, e3, dk⟩ := toS_ok dk
  refine id g r σ wv h1 _ s re e1 fun g1 v1 t1 q1 r1 => ?_
  subst q1
  refine ia g1 r σ wx h2 _ t1.sim (re.kp (t1.kp s)) e2 fun g2 v2 t2 q2 r2 => ?_
  subst q2
  have t12 := t1.trans t2
  refine ib g2 r σ wk h3 _ t2.sim (re.kp (t12.kp s)) e3 fun g3 v3 t3 q3 r3 => ?_
  subst q3
  have t13 := t12.trans t3
  cases hd3 : dicOf g3.h wx with
  | none => simp only [hd3] at dk; exact False.elim dk
  | some pk =>
    obtain ⟨p, kvs⟩ := pk
    simp only [hd3] at dk
    split at dk
    · rename_i hk
      rw [Bool.and_eq_true] at hk
      obtain ⟨_, eg, rfl, ys, hy, rk⟩ := dicOf_get t3.sim (r2.kp (t3.kp t2.sim)) hd3
      obtain ⟨k, rfl, kr⟩ := key_of hk.1 r3
      have r1' := (r1.kp (t2.kp t1.sim)).kp (t3.kp t2.sim)
      refine ⟨g3.mu p, _, rfl, DPut.k hy (by rw [← rk.length]; exact sizeLine_lt (by simpa [Nat.blt_eq] using hk.2)), ?_⟩
      have t4 := Stp.put (u := .dK (putK ys k v1)) (o' := .dic (dput wk wv kvs)) t3.sim eg rfl rfl (by rw [hy]; intro xs z; cases z) (fun g' kp hg => ⟨putK ys k v1, hg, dput_put kr (r1'.kp kp) (rk.kp kp)⟩)
      have t14 := t13.trans t4
      exact dk _ σ t14 rfl (re.kp (t14.kp s))
    · exact False.elim dk
theorem ss_pass : SS X (.Pass pos) (fun r h => .nx r h) := ⟨_, ps_pass, fun g r σ D s re dk => dk g σ (.refl s) rfl re⟩
theorem ss_brk : SS X (.Break pos) (fun r h => .bk r h) := ⟨_, ps_break, fun g r σ D s re dk => dk g σ (.refl s) rfl re⟩
theorem ss_cont : SS X (.Continue pos) (fun r h => .ct r h) := ⟨_, ps_continue, fun g r σ D s re dk => dk g σ (.refl s) rfl re⟩
theorem sss_nil : SSs X [] (fun r h => .nx r h) := ⟨_, pss_nil, fun g r σ D s re dk => dk g σ (.refl s) rfl re⟩
theorem sss_cons {st : Stmt} {sts : List Stmt} {m ms : Env → VH → SRes} (h1 : SS X st m) (h2 : SSs X sts ms) : SSs X (st :: sts) (fun r h => match m r h with
    | .nx r1 h1 => ms r1 h1
    | x => x) := by
  obtain ⟨t, p, i⟩ := h1
  obtain ⟨u, q, j⟩ := h2
  refine ⟨_, pss_cons p q, fun g r σ D s re dk => ?_⟩
  refine i g r σ { D with nx := u D } s re ?_
  cases em : m r g.h with
  | nx r1 h1 =>
    simp only [em] at dk
    intro g' σ' st eh re'
    subst eh
    exact j g' r1 σ' D st.sim re' (dk.mono st)
  | rt w h1 => simp only [em] at dk; exact dk
  | bk w h1 => simp only [em] at dk; exact dk
  | ct w h1 => simp only [em] at dk; exact dk
  | bad => simp only [em] at dk; exact dk
theorem ss_if {A B : List Stmt} {m1 m2 : Env → VH → SRes} (ht : STt X e mt) (h1 : SSs X A m1) (h2 : SSs X B m2) : SS X (.If e A B pos) (fun r h => match mt r h with
    | .ok true h1 => m1 r h1
    | .ok false h1 => m2 r h1
    | .bad => .bad) := by
  obtain ⟨t, p, i⟩ := ht
  obtain ⟨ta, pa, ia⟩ := h1
  obtain ⟨tb, pb, ib⟩ := h2
  refine ⟨_, ps_if p pa pb, fun g r σ D s re dk => ?_⟩
  cases em : mt r g.h with
  | bad => simp only [em] at dk; exact False.elim dk
  | ok c h1 =>
    simp only [em] at dk
    refine i g r σ c h1 _ s re em fun g1 t1 q1 => ?_
    subst q1
    cases c with
    | true => exact iteT (ia g1 r σ D t1.sim (re.kp (t1.kp s)) (DOk.mono t1 dk))
    | false => exact iteF (ib g1 r σ D t1.sim (re.kp (t1.kp s)) (DOk.mono t1 dk))
def forM (ig : IG) (mi : Env → VH → Res Wk) (mb : Env → VH → SRes) : Env → VH → SRes := fun r h => match mi r h with
    | .ok k h1 => forL k (fun w r1 h2 => match bindG ig w r1 with
      | some r2 => mb r2 h2
      | none => .bad) k.ws r h1
    | .bad => .bad
theorem ss_for {tg iter : Expr} {body : List Stmt} {ig : IG} {mi : Env → VH → Res Wk} {mb : Env → VH → SRes} (hp : X.xe = fun _ _ => False) (hc : X.calm = true) (hi : SI X tg iter mi) (hg : SG X tg ig) (hb : SSs X body mb) (hs : ∀ x, foldedSetIterable iter X.env x = pure x) :
    SS X (.For tg iter body [] pos) (forM ig mi mb) := by
  obtain ⟨ti, pi, ii⟩ := hi
  obtain ⟨tg_, pg, ig_⟩ := hg
  obtain ⟨tb, pb, ib⟩ := hb
  refine ⟨_, ps_for (by rw [hp]; exact PassesOwn.never) hc pi pg pb hs, fun g r σ D s re dk => ?_⟩
  cases em : mi r g.h with
  | bad => simp only [forM, em] at dk; exact False.elim dk
  | ok kw h1 =>
    simp only [forM, em] at dk
    refine ii g r σ kw h1 _ s re em fun g1 J t1 q1 wk => ?_
    subst q1
    refine ⟨fun i m σ' H => ∃ (g' : Sg) (r' : Env), g'.H = H ∧ Stp X.K g1 g' ∧ RE X.K g' r' σ' ∧ m = kw.ws.length - i ∧ i ≤ kw.ws.length ∧ DOk X D g' (forL kw (fun w r1 h2 => match bindG ig w r1 with
      | some r2 => mb r2 h2
      | none => .bad) (kw.ws.drop i) r' g'.h), ⟨_, g1, r, rfl, .refl t1.sim, re.kp (t1.kp s), rfl, Nat.zero_le _, DOk.mono t1 dk⟩, ?_⟩
    rintro i m σ' H ⟨g', r', rfl, t', re', rfl, hi, dk'⟩
    by_cases hlt : i < kw.ws.length
    · have ed : kw.ws.drop i = kw.ws[i] :: kw.ws.drop (i + 1) := List.drop_eq_getElem_cons hlt
      rw [ed] at dk'
      simp only [forL] at dk'
      split at dk'
      · rename_i hst
        obtain ⟨wy, _⟩ := wk g' i t' hst
        obtain ⟨hgo, hy⟩ := wy kw.ws[i] (by simp [hlt])
        refine .inr ⟨hgo, _, fun σ2 H' hN => ⟨kw.ws.length - (i + 1), by omega, hN⟩, fun x H' hx => ?_⟩
        obtain ⟨g2, t2, q2, rfl, r2⟩ := hy x H' hx
        cases hb : bindG ig kw.ws[i] r' with
        | none => simp only [hb] at dk'; exact False.elim dk'
        | some r1 =>
          simp only [hb] at dk'
          refine ig_ g2 kw.ws[i] x r' r1 σ' _ t2.sim (re'.kp (t2.kp t'.sim)) r2 hb fun σ2 re2 _ => ?_
          refine ib g2 r1 σ2 _ t2.sim re2 ?_
          rw [q2]
          have nxt : ∀ {r3 : Env} {h3 : VH}, DOk X D g' (forL kw (fun w r1 h2 => match bindG ig w r1 with
              | some r2 => mb r2 h2
              | none => .bad) (kw.ws.drop (i + 1)) r3 h3) → ∀ g4 σ4, Stp X.K g2 g4 → g4.h = h3 → RE X.K g4 r3 σ4 → ∃ (g' : Sg) (r' : Env), g'.H = g4.H ∧ Stp X.K g1 g' ∧ RE X.K g' r' σ4 ∧ kw.ws.length - (i + 1) = kw.ws.length - (i + 1) ∧ i + 1 ≤ kw.ws.length ∧ DOk X D g' (forL kw (fun w r1 h2 => match bindG ig w r1 with
              | some r2 => mb r2 h2
              | none => .bad) (kw.ws.drop (i + 1)) r' g'.h) := fun {r3 h3} hd g4 σ4 t4 q4 re4 => by
            subst q4
            exact ⟨g4, r3, rfl, (t'.trans t2).trans t4, re4, rfl, hlt, DOk.mono (t2.trans t4) hd⟩
          cases eb : mb r1 g'.h with
          | nx r3 h3 => simp only [eb] at dk'; exact fun g4 σ4 t4 q4 re4 => nxt dk' g4 σ4 t4 q4 re4
          | ct r3 h3 => simp only [eb] at dk'; exact fun g4 σ4 t4 q4 re4 => nxt dk' g4 σ4 t4 q4 re4
          | bk r3 h3 => simp only [eb] at dk'; exact fun g4 σ4 t4 q4 re4 => dk' g4 σ4 (t2.trans t4) q4 re4
          | rt w3 h3 => simp only [eb] at dk'; exact fun g4 v4 t4 q4 r4 => dk' g4 v4 (t2.trans t4) q4 r4
          | bad => simp only [eb] at dk'; exact dk'
      · exact False.elim dk'
    · have hie : i = kw.ws.length := by omega
      subst hie
      rw [List.drop_eq_nil_of_le (Nat.le_refl _)] at dk'
      simp only [forL] at dk'
      split at dk'
      · rename_i hst
        obtain ⟨_, wst⟩ := wk g' kw.ws.length t' hst
        exact .inl ⟨wst rfl, dk' g' σ' (.refl t'.sim) rfl re'⟩
      · exact False.elim dk'
/-- while, by the levels of the evaluator -/
theorem ss_whl {c : CF} {t : IT} {body : List IS} {sts : List Stmt} {n : Nat} (hp : X.xe = fun _ _ => False) (ht : ∀ m, m < n → STt X e ((lvl c m).T t)) (hb : ∀ m, m < n → SSs X sts ((lvl c m).S body)) : SS X (.While e sts [] pos) ((lvl c n).Wh t body) := by
  have ht' : ∀ m : {m // m < n}, STt X e ((lvl c m).T t) := fun m => ht m m.2
  have hb' : ∀ m : {m // m < n}, SSs X sts ((lvl c m).S body) := fun m => hb m m.2
  have pt : PT X e (fun σ H Q => ∃ m : {m // m < n}, (ht' m).choose σ H Q) := ⟨fun pins s σ H Q I ⟨m, h⟩ => (ht' m).choose_spec.1.run pins s σ H Q I h⟩
  have pb : PSs X sts (fun D σ H => ∃ m : {m // m < n}, (hb' m).choose D σ H) := ⟨fun pins s σ H D I ⟨m, h⟩ => (hb' m).choose_spec.1.run pins s σ H D I h⟩
  refine ⟨_, ps_while (by rw [hp]; exact PassesOwn.never) pt pb, fun g r σ D s re dk => ?_⟩
  refine ⟨fun m σ' H => ∃ (g' : Sg) (r' : Env), g'.H = H ∧ Stp X.K g g' ∧ RE X.K g' r' σ' ∧ m ≤ n ∧ DOk X D g' ((lvl c m).Wh t body r' g'.h), ⟨n, g, r, rfl, .refl s, re, Nat.le_refl _, dk⟩, ?_⟩
  rintro m σ' H ⟨g', r', rfl, t', re', hm, dk'⟩
  cases m with
  | zero => exact False.elim dk'
  | succ m =>
    have dk' : DOk X D g' (stepWh (lvl c m) t body r' g'.h) := dk'
    unfold stepWh at dk'
    cases et : (lvl c m).T t r' g'.h with
    | bad => simp only [et] at dk'; exact False.elim dk'
    | ok b h1 =>
      simp only [et] at dk'
      refine ⟨⟨m, by omega⟩, (ht' ⟨m, by omega⟩).choose_spec.2 g' r' σ' b h1 _ t'.sim re' et fun g1 t1 q1 => ?_⟩
      subst q1
      cases b with
      | false => exact iteF (dk' g1 σ' t1 rfl (re'.kp (t1.kp t'.sim)))
      | true =>
        refine iteT ⟨_, fun σ2 H2 h => ⟨m, Nat.lt_succ_self _, h⟩, ⟨⟨m, by omega⟩, (hb' ⟨m, by omega⟩).choose_spec.2 g1 r' σ' _ t1.sim (re'.kp (t1.kp t'.sim)) ?_⟩⟩
        show DOk X _ g1 ((lvl c m).S body r' g1.h)
        have nxt : ∀ {r3 : Env} {h3 : VH}, DOk X D g' ((lvl c m).Wh t body r3 h3) → ∀ g4 σ4, Stp X.K g1 g4 → g4.h = h3 → RE X.K g4 r3 σ4 → ∃ (g' : Sg) (r' : Env), g'.H = g4.H ∧ Stp X.K g g' ∧ RE X.K g' r' σ4 ∧ m ≤ n ∧ DOk X D g' ((lvl c m).Wh t body r' g'.h) := fun {r3 h3} hd g4 σ4 t4 q4 re4 => by
          subst q4
          exact ⟨g4, r3, rfl, (t'.trans t1).trans t4, re4, by omega, DOk.mono (t1.trans t4) hd⟩
        cases eb : (lvl c m).S body r' g1.h with
        | nx r3 h3 => simp only [eb] at dk'; exact fun g4 σ4 t4 q4 re4 => nxt dk' g4 σ4 t4 q4 re4
        | ct r3 h3 => simp only [eb] at dk'; exact fun g4 σ4 t4 q4 re4 => nxt dk' g4 σ4 t4 q4 re4
        | bk r3 h3 => simp only [eb] at dk'; exact fun g4 σ4 t4 q4 re4 => dk' g4 σ4 (t1.trans t4) q4 re4
        | rt w3 h3 => simp only [eb] at dk'; exact fun g4 v4 t4 q4 r4 => dk' g4 v4 (t1.trans t4) q4 r4
        | bad => simp only [eb] at dk'; exact dk'
end
end VM


set_option Elab.async false
set_option linter.all false
set_option maxRecDepth 100000
set_option maxHeartbeats 2000000
/-! The checker: is this IR the reading of that text. Its soundness: what it accepts, the evaluator tells. -/
namespace VM
open PySem L2

structure Sc where
  N : List Str
  sc : Scope
  top : Bool
/-- a program's names: its defs (number, parameters), its constants, the built-ins that no global hides -/
structure Pg where
  fns : List (Str × Nat × List Str)
  cs : List (Str × W)
  fr : List Str
  kw : List Str
structure FnAt (P : Pg) (X : Cx) (c : CF) (x : Str) (f : Nat) (ps : List Str) : Prop where
  ex : ∃ (k : Nat) (fa : Addr) (fd : FuncData), FnOk X.prog X.w X.K X.mg X.base CX0 k fa fd ps (spOf X.K c f ps.length) ∧ Room k X.A ∧ X.mg x = some (.ref fa) ∧ PySem.W.keepIn X.K (.ref fa) = true ∧ Binds X.K fd ps [] ∧
    (x ∈ P.kw → ∀ (s : Shared) (us : List Value), us.length = ps.length → BindsTo s fd ⟨[], ps.zip us⟩ (ps.zip us))
structure Good (P : Pg) (c : CF) (S : Sc) (X : Cx) : Prop where
  n : X.N = S.N
  sc : X.env.scope = S.sc
  kd : S.sc.kind = .function
  calm : X.calm = true
  nd : X.N.Nodup
  xe : X.xe = fun _ _ => False
  un : X.A.units + 64 < cLine
  fn : S.top = true → ∀ x, X.fn x = true
  fns : ∀ x f ps, P.fns.lookup x = some (f, ps) → FnAt P X c x f ps
  cs : ∀ x w, P.cs.lookup x = some w → ∃ u v, X.mg x = some u ∧ RelV v u ∧ ∀ g, RW X.K g w v
  fr : ∀ x ∈ P.fr, X.mg x = none
def Sc.blk (S : Sc) (scope : Scope) : Sc := ⟨S.N, relS scope S.sc, false⟩
theorem Good.blk {P : Pg} {c : CF} {S : Sc} {X : Cx} (G : Good P c S X) {scope : Scope} (hk : scope.kind = .function) (s : Shared) (H : Hp) (C : Addr) (cl : List (Str × Addr)) (fp : List Addr) : Good P c (S.blk scope) (Blk X scope s H C cl fp) where
  n := G.n
  sc := by
    show relabel scope X.env = relS scope S.sc
    rw [← G.sc]
    rfl
  kd := hk
  calm := G.calm
  nd := G.nd
  xe := rfl
  un := G.un
  fn := fun z => by cases z
  fns := fun x f ps h => ⟨(G.fns x f ps h).ex⟩
  cs := G.cs
  fr := G.fr

/-! ### names -/
def pl (x : Str) : Bool := !(x == ("__debug__" : Str)) && !(x == ("__classdict__" : Str))
def visB (S : Sc) (x : Str) : Bool := match S.sc.names.lookup x with
  | some .local => true
  | some .cell => true
  | some .free => true
  | _ => false
def locB (S : Sc) (x : Str) : Bool := match S.sc.names.lookup x with
  | some .local => true
  | some .cell => S.top
  | _ => false
def loc1 (S : Sc) (x : Str) : Bool := match S.sc.names.lookup x with
  | some .local => true
  | _ => false
def glB (S : Sc) (x : Str) : Bool := match S.sc.names.lookup x with
  | some .globalImplicit => true
  | _ => false
def atB (S : Sc) (i : Nat) (x : Str) : Bool := decide (S.N[i]? = some x)
def frB (P : Pg) (x : Str) : Bool := P.fr.any fun y => decide (y = x)
def all2 {α β : Type} (f : α → β → Bool) : List α → List β → Bool
  | [], [] => true
  | a :: as, b :: bs => f a b && all2 f as bs
  | _, _ => false
section
variable {P : Pg} {c : CF} {S : Sc} {X : Cx} {x : Str} {i : Nat}
theorem pl_ok (h : pl x = true) : (x == ("__debug__" : Str)) = false ∧ (x == ("__classdict__" : Str)) = false := by
  unfold pl at h
  rw [Bool.and_eq_true, Bool.not_eq_true', Bool.not_eq_true'] at h
  exact h
theorem vis_ok (G : Good P c S X) (h : visB S x = true) : Vis X.env.scope x := by
  rw [G.sc]
  unfold visB at h
  split at h
  · exact .inl ‹_›
  · exact .inr (.inl ‹_›)
  · exact .inr (.inr ‹_›)
  · cases h
theorem loc_ok (G : Good P c S X) (h : locB S x = true) : Loc X.env.scope x ∧ (X.fn x = true ∨ X.env.scope.names.lookup x = some .local) := by
  rw [G.sc]
  unfold locB at h
  split at h
  · exact ⟨.inl ‹_›, .inr ‹_›⟩
  · exact ⟨.inr ‹_›, .inl (G.fn h x)⟩
  · cases h
theorem loc1_ok (G : Good P c S X) (h : loc1 S x = true) : X.env.scope.names.lookup x = some .local := by
  rw [G.sc]
  unfold loc1 at h
  split at h
  · assumption
  · cases h
theorem gl_ok (G : Good P c S X) (h : glB S x = true) : Gl X x := by
  show X.env.scope.names.lookup x = _
  rw [G.sc]
  unfold glB at h
  split at h
  · assumption
  · cases h
theorem at_ok (G : Good P c S X) (h : atB S i x = true) : X.N[i]? = some x := by
  rw [G.n]
  exact of_decide_eq_true h
theorem fr_ok (G : Good P c S X) (h : frB P x = true) : X.mg x = none := by
  obtain ⟨y, hy, e⟩ := List.any_eq_true.mp h
  have e := of_decide_eq_true e
  subst e
  exact G.fr _ hy
end

/-! ### targets -/
mutual
def ckG (S : Sc) : IG → Expr → Bool
  | .nm i, .Name x _ => atB S i x && locB S x
  | .tp gs, .Tuple es _ _ => ckGs S gs es
  | _, _ => false
def ckGs (S : Sc) : List IG → List Expr → Bool
  | [], [] => true
  | g :: gs, e :: es => ckG S g e && ckGs S gs es
  | _, _ => false
end
section
variable {P : Pg} {c : CF} {S : Sc} {X : Cx}
theorem ckGs_len : ∀ {gs : List IG} {es : List Expr}, ckGs S gs es = true → es.length = gs.length ∧ es.all notStar = true
  | [], [], _ => ⟨rfl, rfl⟩
  | [], _ :: _, h => by simp [ckGs] at h
  | _ :: _, [], h => by simp [ckGs] at h
  | g :: gs, e :: es, h => by
    simp only [ckGs, Bool.and_eq_true] at h
    obtain ⟨h1, h2⟩ := ckGs_len h.2
    refine ⟨congrArg Nat.succ h1, ?_⟩
    rw [List.all_cons, h2, Bool.and_true]
    cases g <;> cases e <;> first | rfl | (simp [ckG] at h)
mutual
theorem ckG_ok (G : Good P c S X) : ∀ {g : IG} {e : Expr}, ckG S g e = true → SG X e g
  | .nm i, e, h => by
    cases e with
    | Name x pos =>
      simp only [ckG, Bool.and_eq_true] at h
      obtain ⟨l1, l2⟩ := loc_ok G h.2
      exact sg_nm G.nd (at_ok G h.1) l1 l2
    | _ => simp [ckG] at h
  | .tp gs, e, h => by
    cases e with
    | Tuple es k pos =>
      simp only [ckG] at h
      obtain ⟨l1, l2⟩ := ckGs_len h
      exact sg_tp G.calm l2 l1 (ckGs_ok G h)
    | _ => simp [ckG] at h
theorem ckGs_ok (G : Good P c S X) : ∀ {gs : List IG} {es : List Expr}, ckGs S gs es = true → SGs X es gs
  | [], [], _ => sgs_nil
  | [], _ :: _, h => by simp [ckGs] at h
  | _ :: _, [], h => by simp [ckGs] at h
  | g :: gs, e :: es, h => by
    have hl := (ckGs_len h).2
    rw [List.all_cons, Bool.and_eq_true] at hl
    simp only [ckGs, Bool.and_eq_true] at h
    exact sgs_cons hl.1 (ckG_ok G h.1) (ckGs_ok G h.2)
end
end

/-! ### one level over another -/
structure CK where
  E : Sc → IE → Expr → Bool
  V : Sc → IV → Expr → Bool
  T : Sc → IT → Expr → Bool
  L : Sc → IL → Expr → Bool
  S : Sc → List IS → List Stmt → Bool
structure Snd (P : Pg) (c : CF) (k : CK) (s : SF) : Prop where
  E : ∀ {S : Sc} {X : Cx} {i : IE} {e : Expr}, Good P c S X → k.E S i e = true → SE X e (s.E i)
  V : ∀ {S : Sc} {X : Cx} {i : IV} {e : Expr}, Good P c S X → k.V S i e = true → SV X e (s.V i)
  T : ∀ {S : Sc} {X : Cx} {i : IT} {e : Expr}, Good P c S X → k.T S i e = true → STt X e (s.T i)
  L : ∀ {S : Sc} {X : Cx} {i : IL} {e : Expr}, Good P c S X → k.L S i e = true → SL X e (s.L i)
  S : ∀ {S : Sc} {X : Cx} {i : List IS} {e : List Stmt}, Good P c S X → k.S S i e = true → SSs X e (s.S i)

section
variable (P : Pg) (k : CK) (S : Sc)
def ckVar (i : Nat) : Expr → Bool
  | .Name x _ => atB S i x && visB S x && pl x
  | _ => false
def ckCst (w : W) : Expr → Bool
  | .Constant (.int i) _ _ => (match w with | .int j => decide (i = j) | _ => false)
  | .Constant (.bool i) _ _ => (match w with | .bl j => i == j | _ => false)
  | .Constant .none _ _ => (match w with | .non => true | _ => false)
  | .Constant (.str x) _ _ => (match w with | .str s => decide (x = sv s) | _ => false)
  | .Name x _ => glB S x && pl x && (match P.cs.lookup x with | some u => beqW u w | none => false)
  | _ => false
def ckA (es : List IE) (xs : List Expr) : Bool := all2 (fun e x => notStar x && k.E S e x) es xs
def ckAV (es : List IV) (xs : List Expr) : Bool := all2 (fun e x => notStar x && k.V S e x) es xs
def ckK (es : List IE) (xs : List Keyword) : Bool := all2 (fun e x => k.E S e x.value) es xs
def ckTup (es : List IE) : Expr → Bool
  | .Tuple xs _ _ => ckA k S es xs && Nat.ble es.length size
  | _ => false
def ckDic : Expr → Bool
  | .Dict [] [] _ => true
  | _ => false
def ckBin (op : B2) (a b : IE) : Expr → Bool
  | .BinOp x o y _ => decide (o = op.op) && k.E S a x && k.E S b y
  | _ => false
def ckNeg (a : IE) : Expr → Bool
  | .UnaryOp .USub x _ => k.E S a x
  | _ => false
def ckNot (a : IE) : Expr → Bool
  | .UnaryOp .Not x _ => k.E S a x
  | _ => false
def ckCmp (op : C2) (a b : IV) : Expr → Bool
  | .Compare x [o] [y] _ => decide (o = op.op) && !behindInMarks op.op y && k.V S a x && k.V S b y
  | _ => false
def ckChn (op op' : C2) (a b d : IE) : Expr → Bool
  | .Compare x [o, o'] [y, z] _ => decide (o = op.op) && decide (o' = op'.op) && !lastMarks [op.op, op'.op] [y, z] && k.E S a x && k.E S b y && k.E S d z
  | _ => false
def ckAnd (es : List IE) : Expr → Bool
  | .BoolOp .And xs _ => all2 (k.E S) es xs && !xs.isEmpty
  | _ => false
def ckOr (es : List IE) : Expr → Bool
  | .BoolOp .Or xs _ => all2 (k.E S) es xs && !xs.isEmpty
  | _ => false
def ckIte (t : IT) (a b : IE) : Expr → Bool
  | .IfExp z x y _ => k.T S t z && k.E S a x && k.E S b y
  | _ => false
def ckIdx (a : IV) (i : IE) : Expr → Bool
  | .Subscript x y _ => plainIx y && k.V S a x && k.E S i y
  | _ => false
def ckDidx (a i : IE) : Expr → Bool
  | .Subscript x y _ => plainIx y && k.E S a x && k.E S i y
  | _ => false
def ckDget (a i d : IE) : Expr → Bool
  | .Call (.Attribute x m apos) [y, z] [] pos => decide (m = "get") && notSuper x && notStar y && notStar z && (apos.endLine == pos.line) && k.E S a x && k.E S i y && k.E S d z
  | _ => false
def ckApp (a i : IE) : Expr → Bool
  | .Call (.Attribute x m apos) [y] [] pos => decide (m = "append") && notSuper x && notStar y && (apos.endLine == pos.line) && k.E S a x && k.E S i y
  | _ => false
def fnB (x : Str) (f n : Nat) : Bool := match P.fns.lookup x with
  | some (g, ps) => Nat.beq g f && Nat.beq ps.length n
  | none => false
def ckCall (f : Nat) (es : List IE) : Expr → Bool
  | .Call (.Name x _) xs [] _ => glB S x && pl x && fnB P x f xs.length && ckA k S es xs
  | _ => false
def ckCallK (f : Nat) (es : List IE) : Expr → Bool
  | .Call (.Name x _) [] kws _ => glB S x && pl x && (match P.fns.lookup x with
    | some (g, ps) => Nat.beq g f && kwOk kws ps
    | none => false) && ckK k S es kws && P.kw.any fun y => decide (y = x)
  | _ => false
def ckIsi (a : IE) (t : Ty) : Expr → Bool
  | .Call (.Name x _) [y, .Name z _] [] _ => decide (x = "isinstance") && decide (z = t.name) && glB S x && frB P x && glB S z && frB P z && notStar y && k.E S a y
  | _ => false
def ckBlt (f : Bt) (vs : List IV) : Expr → Bool
  | .Call (.Name x _) (y :: ys) [] _ => decide (x = f.name) && glB S x && frB P x && ckAV k S vs (y :: ys)
  | _ => false
def ckE : IE → Expr → Bool
  | .var i => ckVar S i
  | .cst w => ckCst P S w
  | .tup es => ckTup k S es
  | .new l => k.L S l
  | .lis l => k.L S l
  | .ndic => ckDic
  | .bin op a b => ckBin k S op a b
  | .neg a => ckNeg k S a
  | .cmp op a b => ckCmp k S op a b
  | .chn op op' a b d => ckChn k S op op' a b d
  | .and es => ckAnd k S es
  | .or es => ckOr k S es
  | .not a => ckNot k S a
  | .ite t a b => ckIte k S t a b
  | .idx a i => ckIdx k S a i
  | .didx a i => ckDidx k S a i
  | .dget a i d => ckDget k S a i d
  | .call f es => ckCall P k S f es
  | .callK f es => ckCallK P k S f es
  | .isi e t => ckIsi P k S e t
  | .blt f vs => ckBlt P k S f vs
  | .app a e => ckApp k S a e
def ckV : IV → Expr → Bool
  | .e i => k.E S i
  | .l l => k.L S l
def plainT : Expr → Bool
  | .Call _ _ _ _ => true
  | .Name _ _ => true
  | .Subscript _ _ _ => true
  | .Constant _ _ _ => true
  | _ => false
def ckVal (i : IE) (e : Expr) : Bool := plainT e && k.E S i e
def ckAndT (es : List IT) : Expr → Bool
  | .BoolOp .And xs _ => all2 (k.T S) es xs && !xs.isEmpty
  | _ => false
def ckOrT (es : List IT) : Expr → Bool
  | .BoolOp .Or xs _ => all2 (k.T S) es xs && !xs.isEmpty
  | _ => false
def ckNotT (a : IT) : Expr → Bool
  | .UnaryOp .Not x _ => k.T S a x
  | _ => false
def ckT : IT → Expr → Bool
  | .val i => ckVal k S i
  | .cmp op a b => ckCmp k S op a b
  | .chn op op' a b d => ckChn k S op op' a b d
  | .and ts => ckAndT k S ts
  | .or ts => ckOrT k S ts
  | .not t => ckNotT k S t
def isTup : Expr → Bool
  | .Tuple _ _ _ => true
  | _ => false
def ckRng (a : IE) : Expr → Bool
  | .Call (.Name x _) [y] [] _ => decide (x = "range") && glB S x && frB P x && notStar y && k.E S a y
  | _ => false
def ckRng2 (a b : IE) : Expr → Bool
  | .Call (.Name x _) [y, z] [] _ => decide (x = "range") && glB S x && frB P x && notStar y && notStar z && k.E S a y && k.E S b z
  | _ => false
def ckZip (a b : IV) : Expr → Bool
  | .Call (.Name x _) [y, z] [] _ => decide (x = "zip") && glB S x && frB P x && notStar y && notStar z && k.V S a y && k.V S b z
  | _ => false
def ckEnm (a : IV) : Expr → Bool
  | .Call (.Name x _) [y] [] _ => decide (x = "enumerate") && glB S x && frB P x && notStar y && k.V S a y
  | _ => false
def ckI (tg : Expr) : II → Expr → Bool
  | .v a, e => k.V S a e
  | .rng a, e => ckRng P k S a e
  | .rng2 a b, e => ckRng2 P k S a b e
  | .zip a b, e => isTup tg && ckZip P k S a b e
  | .enm a, e => isTup tg && ckEnm P k S a e
def ownN (N : List Str) (own : List Nat) : List (Str × Nat) := own.map fun i => ((N[i]?).getD "", i)
def notSet : Expr → Bool
  | .Set _ _ _ => false
  | _ => true
def fnK (scope : Scope) : Bool := match scope.kind with
  | .function => true
  | _ => false
def ckIfs (S : Sc) (t : Option IT) : List Expr → Bool
  | [] => (match t with | none => true | some _ => false)
  | [e] => (match t with | some t => k.T S t e | none => false)
  | _ => false
def ckComp (elt : IE) (g : IG) (own : List Nat) (it : II) (t : Option IT) (elt' tg iter : Expr) (ifs : List Expr) (scope : Scope) : Bool :=
  fnK scope && ckI P k S tg it iter && blkC S.N S.sc scope (ownN S.N own) && ckG (S.blk scope) g tg && ckIfs k (S.blk scope) t ifs && k.E (S.blk scope) elt elt' && notSet iter && (slotsG g).all fun i => decide (i ∈ own)
def ckLc (elt : IE) (g : IG) (own : List Nat) (it : II) (t : Option IT) : Expr → Bool
  | .ListComp elt' [⟨tg, iter, ifs, 0⟩] scope _ => ckComp P k S elt g own it t elt' tg iter ifs scope
  | _ => false
def ckLst (es : List IE) : Expr → Bool
  | .List xs _ => ckA k S es xs && Nat.ble es.length size
  | _ => false
def ckCat (a b : IV) : Expr → Bool
  | .BinOp x .Add y _ => k.V S a x && k.V S b y
  | _ => false
def ckO (a : Option IE) (e : Option Expr) : Bool := match a, e with
  | none, none => true
  | some a, some e => k.E S a e
  | _, _ => false
def ckSlc (a : IV) (lo hi : Option IE) : Expr → Bool
  | .Subscript x (.Slice l u none _) _ => k.V S a x && ckO k S lo l && ckO k S hi u
  | _ => false
def ckOf (f : Str) (a : IV) : Expr → Bool
  | .Call (.Name x _) [y] [] _ => decide (x = f) && glB S x && frB P x && notStar y && k.V S a y
  | _ => false
def ckL : IL → Expr → Bool
  | .lst es => ckLst k S es
  | .comp elt g own it t => ckLc P k S elt g own it t
  | .cat a b => ckCat k S a b
  | .slc a lo hi => ckSlc k S a lo hi
  | .lof a => ckOf P k S "list" a
  | .srt a => ckOf P k S "sorted" a
end
theorem kwOk_len : ∀ {kws : List Keyword} {ps : List Str}, kwOk kws ps = true → kws.length = ps.length
  | [], [], _ => rfl
  | [], _ :: _, h => by cases h
  | ⟨none, _, _⟩ :: _, _, h => by cases h
  | ⟨some _, _, _⟩ :: _, [], h => by cases h
  | ⟨some n, v, q⟩ :: r, p :: ps, h => by
    rw [kwOk, Bool.and_eq_true] at h
    exact congrArg Nat.succ (kwOk_len h.2)
section
variable {P : Pg} {k : CK} {S : Sc} {X : Cx} {c : CF} {s : SF} (Y : Snd P c k s) (G : Good P c S X)
include G
theorem var_ok {i : Nat} {e : Expr} (h : ckVar S i e = true) : SE X e (fun r h => Res.of (getR r i) h) := by
  unfold ckVar at h
  split at h
  · simp only [Bool.and_eq_true] at h
    obtain ⟨p1, p2⟩ := pl_ok h.2
    exact se_var (at_ok G h.1.1) (vis_ok G h.1.2) p1 p2
  · cases h
theorem cst_ok {w : W} {e : Expr} (h : ckCst P S w e = true) : SE X e (fun _ h => .ok w h) := by
  unfold ckCst at h
  split at h
  · split at h
    · have e := of_decide_eq_true h
      subst e
      exact se_const pe_int fun _ => rfl
    · cases h
  · split at h
    · have e := eq_of_beq h
      subst e
      exact se_const pe_bl fun _ => rfl
    · cases h
  · split at h
    · exact se_const pe_non fun _ => rfl
    · cases h
  · split at h
    · have e := of_decide_eq_true h
      subst e
      exact se_const pe_str fun _ => rfl
    · cases h
  · rename_i x pos
    simp only [Bool.and_eq_true] at h
    obtain ⟨⟨h1, h2⟩, h3⟩ := h
    split at h3
    · rename_i u hu
      have e := beqW_iff h3
      subst e
      obtain ⟨v, z, m, r, q⟩ := G.cs _ _ hu
      exact se_const (pe_glob (gl_ok G h1) m r (pl_ok h2).1) q
    · cases h3
  · cases h
include Y
theorem a_ok : ∀ {es : List IE} {xs : List Expr}, ckA k S es xs = true → SA X xs (evs s.E es) ∧ xs.all notStar = true ∧ xs.length = es.length
  | [], [], _ => ⟨sa_nil', rfl, rfl⟩
  | [], _ :: _, h => by simp [ckA, all2] at h
  | _ :: _, [], h => by simp [ckA, all2] at h
  | e :: es, x :: xs, h => by
    simp only [ckA, all2, Bool.and_eq_true] at h
    obtain ⟨h1, h2, h3⟩ := a_ok (es := es) (xs := xs) h.2
    exact ⟨sa_cons h.1.1 (Y.E G h.1.2) h1, by rw [List.all_cons, h2, h.1.1]; rfl, congrArg Nat.succ h3⟩
theorem av_ok : ∀ {es : List IV} {xs : List Expr}, ckAV k S es xs = true → SAV X xs (evs s.V es) ∧ xs.all notStar = true ∧ xs.length = es.length
  | [], [], _ => ⟨sav_nil, rfl, rfl⟩
  | [], _ :: _, h => by simp [ckAV, all2] at h
  | _ :: _, [], h => by simp [ckAV, all2] at h
  | e :: es, x :: xs, h => by
    simp only [ckAV, all2, Bool.and_eq_true] at h
    obtain ⟨h1, h2, h3⟩ := av_ok (es := es) (xs := xs) h.2
    exact ⟨sav_cons h.1.1 (Y.V G h.1.2) h1, by rw [List.all_cons, h2, h.1.1]; rfl, congrArg Nat.succ h3⟩
theorem k_ok : ∀ {es : List IE} {xs : List Keyword}, ckK k S es xs = true → SK X xs (evs s.E es) ∧ xs.length = es.length
  | [], [], _ => ⟨sk_nil, rfl⟩
  | [], _ :: _, h => by simp [ckK, all2] at h
  | _ :: _, [], h => by simp [ckK, all2] at h
  | e :: es, ⟨nm, x, pos⟩ :: xs, h => by
    simp only [ckK, all2, Bool.and_eq_true] at h
    obtain ⟨h1, h3⟩ := k_ok (es := es) (xs := xs) h.2
    exact ⟨sk_cons (Y.E G h.1) h1, congrArg Nat.succ h3⟩
omit Y G
theorem evs_len {α β : Type} {f : α → Env → VH → Res β} : ∀ {es : List α} {r : Env} {h h' : VH} {ws : List β}, evs f es r h = .ok ws h' → ws.length = es.length
  | [], r, h, h', ws, e => by cases e; rfl
  | a :: es, r, h, h', ws, e => by
    obtain ⟨w, h1, e1, e2⟩ := Res.bind_ok (show (f a r h).bind (fun w h1 => (evs f es r h1).bind fun ws h2 => .ok (w :: ws) h2) = .ok ws h' from e)
    obtain ⟨us, h2, e3, e4⟩ := Res.bind_ok e2
    cases e4
    exact congrArg Nat.succ (evs_len e3)
include Y G
theorem tup_ok {es : List IE} {e : Expr} (h : ckTup k S es e = true) : SE X e (stepE c s (.tup es)) := by
  unfold ckTup at h
  split at h
  · rw [Bool.and_eq_true] at h
    obtain ⟨h1, h2, h3⟩ := a_ok Y G h.1
    exact se_tup h1 fun r h' ws h'' e => by rw [evs_len e]; exact Nat.ble_eq.mp h.2
  · cases h
omit Y in
theorem dic_ok {e : Expr} (h : ckDic e = true) : SE X e (stepE c s .ndic) := by
  unfold ckDic at h
  split at h
  · exact se_ndic
  · cases h
theorem bin_ok {op : B2} {a b : IE} {e : Expr} (h : ckBin k S op a b e = true) : SE X e (stepE c s (.bin op a b)) := by
  unfold ckBin at h
  split at h
  · simp only [Bool.and_eq_true, decide_eq_true_eq] at h
    obtain ⟨⟨rfl, h1⟩, h2⟩ := h
    exact se_bin (Y.E G h1) (Y.E G h2)
  · cases h
theorem neg_ok {a : IE} {e : Expr} (h : ckNeg k S a e = true) : SE X e (stepE c s (.neg a)) := by
  unfold ckNeg at h
  split at h
  · exact se_neg (Y.E G h)
  · cases h
theorem not_ok {a : IE} {e : Expr} (h : ckNot k S a e = true) : SE X e (stepE c s (.not a)) := by
  unfold ckNot at h
  split at h
  · exact se_not (Y.E G h)
  · cases h
theorem cmp_ok {op : C2} {a b : IV} {e : Expr} (h : ckCmp k S op a b e = true) : SE X e (stepE c s (.cmp op a b)) := by
  unfold ckCmp at h
  split at h
  · simp only [Bool.and_eq_true, decide_eq_true_eq, Bool.not_eq_true'] at h
    obtain ⟨⟨⟨rfl, h0⟩, h1⟩, h2⟩ := h
    exact se_cmp G.un (Y.V G h1) (Y.V G h2) h0
  · cases h
theorem chn_ok {op op' : C2} {a b d : IE} {e : Expr} (h : ckChn k S op op' a b d e = true) : SE X e (stepE c s (.chn op op' a b d)) := by
  unfold ckChn at h
  split at h
  · simp only [Bool.and_eq_true, decide_eq_true_eq, Bool.not_eq_true'] at h
    obtain ⟨⟨⟨⟨⟨rfl, rfl⟩, h0⟩, h1⟩, h2⟩, h3⟩ := h
    exact se_chn G.un (Y.E G h1) (Y.E G h2) (Y.E G h3) h0
  · cases h
theorem and_oks {pos : Pos} : ∀ {es : List IE} {xs : List Expr}, all2 (k.E S) es xs = true → xs ≠ [] → SE X (.BoolOp .And xs pos) (andE s es)
  | [], [], _, n => absurd rfl n
  | [], _ :: _, h, _ => by simp [all2] at h
  | _ :: _, [], h, _ => by simp [all2] at h
  | [e], [x], h, _ => by
    simp only [all2, Bool.and_eq_true] at h
    exact se_one (Y.E G h.1)
  | [e], x :: y :: xs, h, _ => by simp [all2] at h
  | e :: f :: es, [x], h, _ => by simp [all2] at h
  | e :: f :: es, x :: y :: xs, h, _ => by
    rw [all2, Bool.and_eq_true] at h
    exact se_and (Y.E G h.1) (and_oks (es := f :: es) (xs := y :: xs) h.2 (by simp))
theorem or_oks {pos : Pos} : ∀ {es : List IE} {xs : List Expr}, all2 (k.E S) es xs = true → xs ≠ [] → SE X (.BoolOp .Or xs pos) (orE s es)
  | [], [], _, n => absurd rfl n
  | [], _ :: _, h, _ => by simp [all2] at h
  | _ :: _, [], h, _ => by simp [all2] at h
  | [e], [x], h, _ => by
    simp only [all2, Bool.and_eq_true] at h
    exact se_one (Y.E G h.1)
  | [e], x :: y :: xs, h, _ => by simp [all2] at h
  | e :: f :: es, [x], h, _ => by simp [all2] at h
  | e :: f :: es, x :: y :: xs, h, _ => by
    rw [all2, Bool.and_eq_true] at h
    exact se_or (Y.E G h.1) (or_oks (es := f :: es) (xs := y :: xs) h.2 (by simp))
theorem and_ok {es : List IE} {e : Expr} (h : ckAnd k S es e = true) : SE X e (stepE c s (.and es)) := by
  unfold ckAnd at h
  split at h
  · simp only [Bool.and_eq_true, Bool.not_eq_true', List.isEmpty_eq_false_iff] at h
    exact and_oks Y G h.1 h.2
  · cases h
theorem or_ok {es : List IE} {e : Expr} (h : ckOr k S es e = true) : SE X e (stepE c s (.or es)) := by
  unfold ckOr at h
  split at h
  · simp only [Bool.and_eq_true, Bool.not_eq_true', List.isEmpty_eq_false_iff] at h
    exact or_oks Y G h.1 h.2
  · cases h
theorem ite_ok {t : IT} {a b : IE} {e : Expr} (h : ckIte k S t a b e = true) : SE X e (stepE c s (.ite t a b)) := by
  unfold ckIte at h
  split at h
  · simp only [Bool.and_eq_true] at h
    exact se_ite (Y.T G h.1.1) (Y.E G h.1.2) (Y.E G h.2)
  · cases h
theorem idx_ok {a : IV} {i : IE} {e : Expr} (h : ckIdx k S a i e = true) : SE X e (stepE c s (.idx a i)) := by
  unfold ckIdx at h
  split at h
  · simp only [Bool.and_eq_true] at h
    exact se_idx (Y.V G h.1.2) (Y.E G h.2) h.1.1
  · cases h
theorem un1 : X.A.units + 1 < cLine := Nat.lt_of_le_of_lt (Nat.add_le_add_left (by decide : 1 ≤ 64) _) G.un
theorem didx_ok {a i : IE} {e : Expr} (h : ckDidx k S a i e = true) : SE X e (stepE c s (.didx a i)) := by
  unfold ckDidx at h
  split at h
  · simp only [Bool.and_eq_true] at h
    exact se_didx (un1 Y G) (Y.E G h.1.2) (Y.E G h.2) h.1.1
  · cases h
theorem dget_ok {a i d : IE} {e : Expr} (h : ckDget k S a i d e = true) : SE X e (stepE c s (.dget a i d)) := by
  unfold ckDget at h
  split at h
  · simp only [Bool.and_eq_true, decide_eq_true_eq] at h
    obtain ⟨⟨⟨⟨⟨⟨⟨rfl, h1⟩, h2⟩, h3⟩, h4⟩, h5⟩, h6⟩, h7⟩ := h
    exact se_dget (un1 Y G) (Y.E G h5) (Y.E G h6) (Y.E G h7) h1 h2 h3 h4
  · cases h
theorem app_ok {a i : IE} {e : Expr} (h : ckApp k S a i e = true) : SE X e (stepE c s (.app a i)) := by
  unfold ckApp at h
  split at h
  · simp only [Bool.and_eq_true, decide_eq_true_eq] at h
    obtain ⟨⟨⟨⟨⟨rfl, h1⟩, h2⟩, h4⟩, h5⟩, h6⟩ := h
    exact se_app (Y.E G h5) (Y.E G h6) h1 h2 h4
  · cases h
theorem call_ok {f : Nat} {es : List IE} {e : Expr} (h : ckCall P k S f es e = true) : SE X e (stepE c s (.call f es)) := by
  unfold ckCall at h
  split at h
  · rename_i x p xs pos
    simp only [Bool.and_eq_true] at h
    obtain ⟨⟨⟨h1, h2⟩, h3⟩, h4⟩ := h
    obtain ⟨a1, a2, a3⟩ := a_ok Y G h4
    unfold fnB at h3
    split at h3
    · rename_i g ps hl
      rw [Bool.and_eq_true, Nat.beq_eq, Nat.beq_eq] at h3
      obtain ⟨rfl, h5⟩ := h3
      obtain ⟨n, fa, fd, F, hr, hm, hk, hb, _⟩ := (G.fns _ _ _ hl).ex
      cases xs with
      | nil =>
        cases es with
        | cons _ _ => cases a3
        | nil => exact se_call0 F hr (gl_ok G h1) hm hk hb (pl_ok h2).1 h5.symm
      | cons y ys => exact se_call F hr (gl_ok G h1) hm hk hb (pl_ok h2).1 a2 h5.symm (fun r h ws h' e => (evs_len e).trans a3.symm) a1
    · cases h3
  · cases h
theorem callK_ok {f : Nat} {es : List IE} {e : Expr} (h : ckCallK P k S f es e = true) : SE X e (stepE c s (.callK f es)) := by
  unfold ckCallK at h
  split at h
  · rename_i x p kws pos
    simp only [Bool.and_eq_true] at h
    obtain ⟨⟨⟨⟨h1, h2⟩, h3⟩, h4⟩, h6⟩ := h
    obtain ⟨a1, a3⟩ := k_ok Y G h4
    have hkw : x ∈ P.kw := by
      obtain ⟨y, hy, e⟩ := List.any_eq_true.mp h6
      have e := of_decide_eq_true e
      subst e
      exact hy
    split at h3
    · rename_i g ps hl
      rw [Bool.and_eq_true, Nat.beq_eq] at h3
      obtain ⟨rfl, h5⟩ := h3
      obtain ⟨n, fa, fd, F, hr, hm, hk, _, hb⟩ := (G.fns _ _ _ hl).ex
      have hlen : kws.length = ps.length := kwOk_len h5
      exact se_callK F hr (gl_ok G h1) hm hk (hb hkw) (pl_ok h2).1 h5 (fun r h ws h' e => ((evs_len e).trans a3.symm).trans hlen) a1
    · cases h3
  · cases h
theorem isi_ok {a : IE} {t : Ty} {e : Expr} (h : ckIsi P k S a t e = true) : SE X e (stepE c s (.isi a t)) := by
  unfold ckIsi at h
  split at h
  · simp only [Bool.and_eq_true, decide_eq_true_eq] at h
    obtain ⟨⟨⟨⟨⟨⟨⟨rfl, rfl⟩, h1⟩, h2⟩, h3⟩, h4⟩, h5⟩, h6⟩ := h
    exact se_isi (gl_ok G h1) (fr_ok G h2) (gl_ok G h3) (fr_ok G h4) h5 (Y.E G h6)
  · cases h
theorem blt_ok {f : Bt} {vs : List IV} {e : Expr} (h : ckBlt P k S f vs e = true) : SE X e (stepE c s (.blt f vs)) := by
  unfold ckBlt at h
  split at h
  · simp only [Bool.and_eq_true, decide_eq_true_eq] at h
    obtain ⟨⟨⟨rfl, h1⟩, h2⟩, h3⟩ := h
    obtain ⟨a1, a2, a3⟩ := av_ok Y G h3
    exact se_blt G.calm (gl_ok G h1) (fr_ok G h2) a2 a1
  · cases h
theorem e_ok : ∀ {i : IE} {e : Expr}, ckE P k S i e = true → SE X e (stepE c s i)
  | .var _, _, h => var_ok G h
  | .cst _, _, h => cst_ok G h
  | .tup _, _, h => tup_ok Y G h
  | .new _, _, h => SE.new (Y.L G h)
  | .lis _, _, h => SE.pur (Y.L G h)
  | .ndic, _, h => dic_ok G h
  | .bin _ _ _, _, h => bin_ok Y G h
  | .neg _, _, h => neg_ok Y G h
  | .cmp _ _ _, _, h => cmp_ok Y G h
  | .chn _ _ _ _ _, _, h => chn_ok Y G h
  | .and _, _, h => and_ok Y G h
  | .or _, _, h => or_ok Y G h
  | .not _, _, h => not_ok Y G h
  | .ite _ _ _, _, h => ite_ok Y G h
  | .idx _ _, _, h => idx_ok Y G h
  | .didx _ _, _, h => didx_ok Y G h
  | .dget _ _ _, _, h => dget_ok Y G h
  | .call _ _, _, h => call_ok Y G h
  | .callK _ _, _, h => callK_ok Y G h
  | .isi _ _, _, h => isi_ok Y G h
  | .blt _ _, _, h => blt_ok Y G h
  | .app _ _, _, h => app_ok Y G h
theorem v_ok : ∀ {i : IV} {e : Expr}, ckV k S i e = true → SV X e (stepV s i)
  | .e _, _, h => SV.e (Y.E G h)
  | .l _, _, h => SV.l (Y.L G h)
end
end VM


set_option Elab.async false
set_option linter.all false
set_option maxRecDepth 100000
set_option maxHeartbeats 2000000
namespace VM
open PySem L2

section
variable {P : Pg} {k : CK} {S : Sc} {X : Cx} {c : CF} {s : SF} (Y : Snd P c k s) (G : Good P c S X)
include Y G
theorem val_ok {i : IE} {e : Expr} (h : ckVal k S i e = true) : STt X e (stepT s (.val i)) := by
  unfold ckVal at h
  rw [Bool.and_eq_true] at h
  refine stt_of (t := fun _ _ _ => True) (Y.E G h.2) fun t p => pt_val p ?_
  intro whole
  have h1 := h.1
  cases e <;> first | rfl | cases h1
omit Y G in
theorem stt_eq {e : Expr} {m m' : Env → VH → Res Bool} (h : STt X e m) (eq : ∀ r h, m r h = m' r h) : STt X e m' := by
  have : m = m' := funext fun r => funext fun h => eq r h
  rw [← this]
  exact h
omit Y G in
theorem of_tv (o : Option Bool) (h : VH) : ((Res.of (o.map W.bl) h).bind fun w h1 => match w with
  | .bl b => Res.ok b h1
  | _ => .bad) = Res.of o h := by cases o <;> rfl
theorem cmpT_ok {op : C2} {a b : IV} {e : Expr} (h : ckCmp k S op a b e = true) : STt X e (stepT s (.cmp op a b)) := by
  unfold ckCmp at h
  split at h
  · simp only [Bool.and_eq_true, decide_eq_true_eq, Bool.not_eq_true'] at h
    obtain ⟨⟨⟨rfl, h0⟩, h1⟩, h2⟩ := h
    refine stt_eq (stt_cmp G.un (Y.V G h1) (Y.V G h2) h0) fun r h => ?_
    show tvM (cmpM op (s.V a) (s.V b)) r h = (s.V a r h).bind fun x h1 => (s.V b r h1).bind fun y h2 => Res.of (cmpA h2 op x y) h2
    unfold tvM cmpM
    cases s.V a r h with
    | bad => rfl
    | ok x h1 =>
      show (((s.V b r h1).bind fun y h2 => Res.of ((cmpA h2 op x y).map W.bl) h2).bind _) = (s.V b r h1).bind _
      cases s.V b r h1 with
      | bad => rfl
      | ok y h2 => exact of_tv (cmpA h2 op x y) h2
  · cases h
theorem chnT_ok {op op' : C2} {a b d : IE} {e : Expr} (h : ckChn k S op op' a b d e = true) : STt X e (stepT s (.chn op op' a b d)) := by
  unfold ckChn at h
  split at h
  · simp only [Bool.and_eq_true, decide_eq_true_eq, Bool.not_eq_true'] at h
    obtain ⟨⟨⟨⟨⟨rfl, rfl⟩, h0⟩, h1⟩, h2⟩, h3⟩ := h
    refine stt_eq (stt_chn G.un (Y.E G h1) (Y.E G h2) (Y.E G h3) h0) fun r h => ?_
    show tvM (chnM op op' (s.E a) (s.E b) (s.E d)) r h = (s.E a r h).bind fun x h1 => (s.E b r h1).bind fun y h2 => match cmpA h2 op (.w x) (.w y) with
      | some true => (s.E d r h2).bind fun z h3 => Res.of (cmpA h3 op' (.w y) (.w z)) h3
      | some false => .ok false h2
      | none => .bad
    unfold tvM chnM
    cases s.E a r h with
    | bad => rfl
    | ok x h1 =>
      show Res.bind ((s.E b r h1).bind _) _ = (s.E b r h1).bind _
      cases s.E b r h1 with
      | bad => rfl
      | ok y h2 =>
        show Res.bind (match cmpA h2 op (.w x) (.w y) with
          | some true => (s.E d r h2).bind fun z h3 => Res.of ((cmpA h3 op' (.w y) (.w z)).map W.bl) h3
          | some false => .ok (.bl false) h2
          | none => .bad) _ = match cmpA h2 op (.w x) (.w y) with
          | some true => (s.E d r h2).bind fun z h3 => Res.of (cmpA h3 op' (.w y) (.w z)) h3
          | some false => .ok false h2
          | none => .bad
        cases cmpA h2 op (.w x) (.w y) with
        | none => rfl
        | some q =>
          cases q with
          | false => rfl
          | true =>
            show Res.bind ((s.E d r h2).bind _) _ = (s.E d r h2).bind _
            cases s.E d r h2 with
            | bad => rfl
            | ok z h3 => exact of_tv (cmpA h3 op' (.w y) (.w z)) h3
  · cases h
theorem andT_oks {pos : Pos} : ∀ {es : List IT} {xs : List Expr}, all2 (k.T S) es xs = true → xs ≠ [] → SW X (.BoolOp .And xs pos) (andT s es)
  | [], [], _, n => absurd rfl n
  | [], _ :: _, h, _ => by simp [all2] at h
  | _ :: _, [], h, _ => by simp [all2] at h
  | [e], [x], h, _ => by
    simp only [all2, Bool.and_eq_true] at h
    exact sw_and1 (Y.T G h.1)
  | [e], x :: y :: xs, h, _ => by simp [all2] at h
  | e :: f :: es, [x], h, _ => by simp [all2] at h
  | e :: f :: es, x :: y :: xs, h, _ => by
    rw [all2, Bool.and_eq_true] at h
    exact sw_and (Y.T G h.1) (andT_oks (es := f :: es) (xs := y :: xs) h.2 (by simp))
theorem orT_oks {pos : Pos} : ∀ {es : List IT} {xs : List Expr}, all2 (k.T S) es xs = true → xs ≠ [] → SW X (.BoolOp .Or xs pos) (orT s es)
  | [], [], _, n => absurd rfl n
  | [], _ :: _, h, _ => by simp [all2] at h
  | _ :: _, [], h, _ => by simp [all2] at h
  | [e], [x], h, _ => by
    simp only [all2, Bool.and_eq_true] at h
    exact sw_or1 (Y.T G h.1)
  | [e], x :: y :: xs, h, _ => by simp [all2] at h
  | e :: f :: es, [x], h, _ => by simp [all2] at h
  | e :: f :: es, x :: y :: xs, h, _ => by
    rw [all2, Bool.and_eq_true] at h
    exact sw_or (Y.T G h.1) (orT_oks (es := f :: es) (xs := y :: xs) h.2 (by simp))
theorem andT_ok {es : List IT} {e : Expr} (h : ckAndT k S es e = true) : STt X e (stepT s (.and es)) := by
  unfold ckAndT at h
  split at h
  · simp only [Bool.and_eq_true, Bool.not_eq_true', List.isEmpty_eq_false_iff] at h
    exact (andT_oks Y G h.1 h.2).stt
  · cases h
theorem orT_ok {es : List IT} {e : Expr} (h : ckOrT k S es e = true) : STt X e (stepT s (.or es)) := by
  unfold ckOrT at h
  split at h
  · simp only [Bool.and_eq_true, Bool.not_eq_true', List.isEmpty_eq_false_iff] at h
    exact (orT_oks Y G h.1 h.2).stt
  · cases h
theorem notT_ok {a : IT} {e : Expr} (h : ckNotT k S a e = true) : STt X e (stepT s (.not a)) := by
  unfold ckNotT at h
  split at h
  · exact stt_not (Y.T G h)
  · cases h
theorem t_ok : ∀ {i : IT} {e : Expr}, ckT k S i e = true → STt X e (stepT s i)
  | .val _, _, h => val_ok Y G h
  | .cmp _ _ _, _, h => cmpT_ok Y G h
  | .chn _ _ _ _ _, _, h => chnT_ok Y G h
  | .and _, _, h => andT_ok Y G h
  | .or _, _, h => orT_ok Y G h
  | .not _, _, h => notT_ok Y G h
/-! ### walks -/
theorem rng_ok {tg : Expr} {a : IE} {e : Expr} (h : ckRng P k S a e = true) : SI X tg e (stepI s (.rng a)) := by
  unfold ckRng at h
  split at h
  · simp only [Bool.and_eq_true, decide_eq_true_eq] at h
    obtain ⟨⟨⟨⟨rfl, h1⟩, h2⟩, h3⟩, h4⟩ := h
    exact si_rng (gl_ok G h1) (fr_ok G h2) h3 (Y.E G h4)
  · cases h
theorem rng2_ok {tg : Expr} {a b : IE} {e : Expr} (h : ckRng2 P k S a b e = true) : SI X tg e (stepI s (.rng2 a b)) := by
  unfold ckRng2 at h
  split at h
  · simp only [Bool.and_eq_true, decide_eq_true_eq] at h
    obtain ⟨⟨⟨⟨⟨⟨rfl, h1⟩, h2⟩, h3⟩, h4⟩, h5⟩, h6⟩ := h
    exact si_rng2 (gl_ok G h1) (fr_ok G h2) h3 h4 (Y.E G h5) (Y.E G h6)
  · cases h
theorem zip_ok {tg : Expr} {a b : IV} {e : Expr} (ht : isTup tg = true) (h : ckZip P k S a b e = true) : SI X tg e (stepI s (.zip a b)) := by
  unfold ckZip at h
  split at h
  · simp only [Bool.and_eq_true, decide_eq_true_eq] at h
    obtain ⟨⟨⟨⟨⟨⟨rfl, h1⟩, h2⟩, h3⟩, h4⟩, h5⟩, h6⟩ := h
    cases tg with
    | Tuple es kk tp => exact si_zip (gl_ok G h1) (fr_ok G h2) h3 h4 (Y.V G h5) (Y.V G h6)
    | _ => cases ht
  · cases h
theorem enm_ok {tg : Expr} {a : IV} {e : Expr} (ht : isTup tg = true) (h : ckEnm P k S a e = true) : SI X tg e (stepI s (.enm a)) := by
  unfold ckEnm at h
  split at h
  · simp only [Bool.and_eq_true, decide_eq_true_eq] at h
    obtain ⟨⟨⟨⟨rfl, h1⟩, h2⟩, h3⟩, h5⟩ := h
    cases tg with
    | Tuple es kk tp => exact si_enm (gl_ok G h1) (fr_ok G h2) h3 (Y.V G h5)
    | _ => cases ht
  · cases h
theorem i_ok {tg : Expr} : ∀ {i : II} {e : Expr}, ckI P k S tg i e = true → SI X tg e (stepI s i)
  | .v _, _, h => si_v (Y.V G h)
  | .rng _, _, h => rng_ok Y G h
  | .rng2 _ _, _, h => rng2_ok Y G h
  | .zip _ _, _, h => by
    rw [ckI, Bool.and_eq_true] at h
    exact zip_ok Y G h.1 h.2
  | .enm _, _, h => by
    rw [ckI, Bool.and_eq_true] at h
    exact enm_ok Y G h.1 h.2
/-! ### lists -/
omit Y G in
theorem ownN_map (N : List Str) (own : List Nat) : (ownN N own).map (·.2) = own := by
  unfold ownN
  rw [List.map_map]
  exact List.map_id own
omit Y G in
theorem comp_eq {elt : IE} {g : IG} {own : List Nat} {it : II} {t : Option IT} : stepL s (.comp elt g own it t) = compM (s.E elt) g own (stepI s it) (t.map s.T) := by
  cases t <;> rfl
structure CompOk (P : Pg) (X : Cx) (s : SF) (elt : IE) (g : IG) (own : List Nat) (it : II) (t : Option IT) (elt' tg iter : Expr) (ifs : List Expr) (scope : Scope) : Prop where
  i : SI X tg iter (stepI s it)
  ok : BlkOk X.N X.env.scope scope (ownN X.N own)
  tgt : ∀ s H C cl fp, SG (Blk X scope s H C cl fp) tg g
  t : TestOk X scope ifs (t.map s.T)
  e : ∀ st H C cl fp, SE (Blk X scope st H C cl fp) elt' (s.E elt)
  st : ∀ x, foldedSetIterable iter X.env x = pure x
  o : ∀ i ∈ slotsG g, i ∈ (ownN X.N own).map (·.2)
theorem compOk {elt : IE} {g : IG} {own : List Nat} {it : II} {t : Option IT} {elt' tg iter : Expr} {ifs : List Expr} {scope : Scope} (h : ckComp P k S elt g own it t elt' tg iter ifs scope = true) : CompOk P X s elt g own it t elt' tg iter ifs scope := by
  unfold ckComp at h
  simp only [Bool.and_eq_true] at h
  obtain ⟨⟨⟨⟨⟨⟨⟨h1, h2⟩, h3⟩, h4⟩, h5⟩, h6⟩, h7⟩, h8⟩ := h
  have hk : scope.kind = .function := by
    unfold fnK at h1
    split at h1
    · assumption
    · cases h1
  have B := fun st H C cl fp => G.blk (scope := scope) hk st H C cl fp
  refine ⟨i_ok Y G h2, ?_, fun st H C cl fp => ckG_ok (B st H C cl fp) h4, ?_, fun st H C cl fp => Y.E (B st H C cl fp) h6, noSet ?_, ?_⟩
  · rw [G.n, G.sc]
    exact blkOk_by h3
  · cases ifs with
    | nil =>
      cases t with
      | none => exact trivial
      | some _ => cases h5
    | cons x ifs =>
      cases ifs with
      | cons _ _ => cases h5
      | nil =>
        cases t with
        | none => cases h5
        | some t => exact fun st H C cl fp => Y.T (B st H C cl fp) h5
  · cases iter <;> first | rfl | cases h7
  · rw [ownN_map]
    intro i hi
    exact of_decide_eq_true (List.all_eq_true.mp h8 i hi)
theorem lc_ok {elt : IE} {g : IG} {own : List Nat} {it : II} {t : Option IT} {e : Expr} (h : ckLc P k S elt g own it t e = true) : SL X e (stepL s (.comp elt g own it t)) := by
  unfold ckLc at h
  split at h
  · have q := compOk Y G h
    have := sl_comp (pos := ‹Pos›) G.calm G.nd q.i q.ok q.tgt q.t q.e q.st q.o
    rw [ownN_map] at this
    rw [comp_eq]
    exact this
  · cases h
theorem lst_ok {es : List IE} {e : Expr} (h : ckLst k S es e = true) : SL X e (stepL s (.lst es)) := by
  unfold ckLst at h
  split at h
  · rw [Bool.and_eq_true] at h
    obtain ⟨h1, h2, h3⟩ := a_ok Y G h.1
    exact sl_lst h1 fun r h' ws h'' e => by rw [evs_len e]; exact Nat.ble_eq.mp h.2
  · cases h
theorem cat_ok {a b : IV} {e : Expr} (h : ckCat k S a b e = true) : SL X e (stepL s (.cat a b)) := by
  unfold ckCat at h
  split at h
  · rw [Bool.and_eq_true] at h
    exact sl_cat (Y.V G h.1) (Y.V G h.2)
  · cases h
theorem o_ok : ∀ {i : Option IE} {e : Option Expr}, ckO k S i e = true → SO X e (optE s i)
  | none, none, _ => so_none
  | some i, some e, h => so_some (Y.E G h)
  | none, some _, h => by cases h
  | some _, none, h => by cases h
theorem slc_ok {a : IV} {lo hi : Option IE} {e : Expr} (h : ckSlc k S a lo hi e = true) : SL X e (stepL s (.slc a lo hi)) := by
  unfold ckSlc at h
  split at h
  · simp only [Bool.and_eq_true] at h
    exact sl_slc (Y.V G h.1.1) (o_ok Y G h.1.2) (o_ok Y G h.2)
  · cases h
theorem lof_ok {a : IV} {e : Expr} (h : ckOf P k S "list" a e = true) : SL X e (stepL s (.lof a)) := by
  unfold ckOf at h
  split at h
  · simp only [Bool.and_eq_true, decide_eq_true_eq] at h
    obtain ⟨⟨⟨⟨rfl, h1⟩, h2⟩, h3⟩, h5⟩ := h
    exact sl_lof (gl_ok G h1) (fr_ok G h2) h3 (Y.V G h5)
  · cases h
theorem srt_ok {a : IV} {e : Expr} (h : ckOf P k S "sorted" a e = true) : SL X e (stepL s (.srt a)) := by
  unfold ckOf at h
  split at h
  · simp only [Bool.and_eq_true, decide_eq_true_eq] at h
    obtain ⟨⟨⟨⟨rfl, h1⟩, h2⟩, h3⟩, h5⟩ := h
    exact sl_srt G.calm (gl_ok G h1) (fr_ok G h2) h3 (Y.V G h5)
  · cases h
theorem l_ok : ∀ {i : IL} {e : Expr}, ckL P k S i e = true → SL X e (stepL s i)
  | .lst _, _, h => lst_ok Y G h
  | .comp _ _ _ _ _, _, h => lc_ok Y G h
  | .cat _ _, _, h => cat_ok Y G h
  | .slc _ _ _, _, h => slc_ok Y G h
  | .lof _, _, h => lof_ok Y G h
  | .srt _, _, h => srt_ok Y G h
end
end VM


set_option Elab.async false
set_option linter.all false
set_option maxRecDepth 100000
set_option maxHeartbeats 2000000
namespace VM
open PySem L2

section
variable (P : Pg) (k : CK) (S : Sc)
/-- tg = e is stored behind the whole value -/
def asgB (tg e : Expr) : Bool := (match tg with
  | .Name x _ => notComp e || !loc1 S x
  | .Tuple _ _ _ => notComp e && !isTup e
  | _ => false)
def ckAsg (g : IG) (i : IE) : Stmt → Bool
  | .Assign [tg] e _ => asgB S tg e && ckG S g tg && k.E S i e
  | _ => false
def ckPar (i j : Nat) (a b : IE) : Stmt → Bool
  | .Assign [.Tuple [.Name x px, .Name y py] _ _] (.Tuple [u, v] _ _) _ =>
    atB S i x && atB S j y && !Nat.beq i j && loc1 S x && loc1 S y && (py.line == px.line) && notStar u && notStar v && !(foldedForSure 8 u && foldedForSure 8 v) && !(constantsAlone 8 u && constantsAlone 8 v) && !decide (x = y) && k.E S a u && k.E S b v
  | _ => false
def ckSub (a i e : IE) : Stmt → Bool
  | .Assign [.Subscript x y _] z _ => notComp z && k.E S a x && k.E S i y && k.E S e z
  | _ => false
def ckRet (i : IE) : Stmt → Bool
  | .Return (some e) _ => k.E S i e
  | _ => false
def ckExp (i : IE) : Stmt → Bool
  | .Expr e _ => notComp e && k.E S i e
  | _ => false
def ckIf (t : IT) (a b : List IS) : Stmt → Bool
  | .If e x y _ => k.T S t e && k.S S a x && k.S S b y
  | _ => false
def ckFor (g : IG) (it : II) (b : List IS) : Stmt → Bool
  | .For tg iter body [] _ => notSet iter && ckI P k S tg it iter && ckG S g tg && k.S S b body
  | _ => false
def ckWhl (t : IT) (b : List IS) : Stmt → Bool
  | .While e body [] _ => k.T S t e && k.S S b body
  | _ => false
def ckPass : Stmt → Bool
  | .Pass _ => true
  | _ => false
def ckBrk : Stmt → Bool
  | .Break _ => true
  | _ => false
def ckCont : Stmt → Bool
  | .Continue _ => true
  | _ => false
def ckSlc1 (i : Nat) (elt : IE) (g : IG) (own : List Nat) (it : II) (t : Option IT) : Stmt → Bool
  | .Assign [.Name y py] (.ListComp elt' [⟨tg, iter, ifs, 0⟩] scope pos) _ => atB S i y && loc1 S y && (py.line == pos.line) && !(scope.names.any fun (n, k) => n == y && (k == .local || k == .cell)) && ckComp P k S elt g own it t elt' tg iter ifs scope
  | _ => false
def ckS : IS → Stmt → Bool
  | .exp e => ckExp k S e
  | .asg g e => ckAsg k S g e
  | .par i j a b => ckPar k S i j a b
  | .sub a i e => ckSub k S a i e
  | .dsub a i e => ckSub k S a i e
  | .ret e => ckRet k S e
  | .ifs t a b => ckIf k S t a b
  | .for g it b => ckFor P k S g it b
  | .whl t b => ckWhl k S t b
  | .lcp i elt g own it t => ckSlc1 P k S i elt g own it t
  | .lc i elt g own it t => ckSlc1 P k S i elt g own it t
  | .pass => ckPass
  | .brk => ckBrk
  | .cont => ckCont
def ckSs (is : List IS) (sts : List Stmt) : Bool := all2 (ckS P k S) is sts
end
section
variable {P : Pg} {k : CK} {S : Sc} {X : Cx} {c : CF} {s : SF} (Y : Snd P c k s) (G : Good P c S X)
include Y G
omit Y in
theorem asgB_ok {tg e : Expr} {l : Nat} (h : asgB S tg e = true) : notStar tg = true ∧ swapsWithSole [tg] e l X.env = pure false ∧ swappedStores [tg] e X.env = pure none := by
  unfold asgB at h
  split at h
  · rename_i x pos
    refine ⟨rfl, ?_, rfl⟩
    rw [Bool.or_eq_true] at h
    rcases h with h | h
    · exact (sw_no h : swapsWith e (some (.Name x pos)) l X.env = pure false)
    · have hx : ¬ X.env.kindOf x = some .local := fun e => by
        have e : X.env.scope.names.lookup x = some .local := e
        rw [G.sc] at e
        unfold loc1 at h
        rw [e] at h
        cases h
      have hb : (X.env.kindOf x == some NameKind.local) = false := beq_eq_false_iff_ne.mpr hx
      show swapsWith e (some (.Name x pos)) l X.env = pure false
      unfold swapsWith
      cases e <;> first | rfl | (simp only [hb, Bool.and_false, Bool.false_and])
  · rename_i ts kk tp
    rw [Bool.and_eq_true] at h
    refine ⟨rfl, (sw_no h.1 : swapsWith e (some (.Tuple ts kk tp)) l X.env = pure false), ?_⟩
    have h2 := h.2
    cases e <;> first | rfl | cases h2
  · cases h
theorem asg_ok {g : IG} {i : IE} {st : Stmt} (h : ckAsg k S g i st = true) : SS X st (stepS s (.asg g i)) := by
  unfold ckAsg at h
  split at h
  · simp only [Bool.and_eq_true] at h
    obtain ⟨⟨h1, h2⟩, h3⟩ := h
    obtain ⟨a1, a2, a3⟩ := asgB_ok G h1
    exact ss_asg (Y.E G h3) (ckG_ok G h2) a1 a2 a3
  · cases h
theorem par_ok {i j : Nat} {a b : IE} {st : Stmt} (h : ckPar k S i j a b st = true) : SS X st (stepS s (.par i j a b)) := by
  unfold ckPar at h
  split at h
  · simp only [Bool.and_eq_true, Bool.not_eq_true'] at h
    obtain ⟨⟨⟨⟨⟨⟨⟨⟨⟨⟨⟨⟨h1, h2⟩, h3⟩, h4⟩, h5⟩, h6⟩, h7⟩, h8⟩, h9⟩, h10⟩, h11⟩, h12⟩, h13⟩ := h
    refine ss_par G.calm G.nd (at_ok G h1) (at_ok G h2) (fun e => ?_) (loc1_ok G h4) (loc1_ok G h5) (swap2 (by rw [G.sc]; exact G.kd) (loc1_ok G h4) (loc1_ok G h5) (of_decide_eq_false h11) (eq_of_beq h6) h7 h8 h9 h10) h7 h8 (Y.E G h12) (Y.E G h13)
    subst e
    rw [Nat.beq_refl] at h3
    cases h3
  · cases h
theorem sub_ok {a i e : IE} {st : Stmt} (h : ckSub k S a i e st = true) : SS X st (stepS s (.sub a i e)) := by
  unfold ckSub at h
  split at h
  · simp only [Bool.and_eq_true] at h
    exact ss_sub (Y.E G h.1.1.2) (Y.E G h.1.2) (Y.E G h.2) h.1.1.1
  · cases h
theorem dsub_ok {a i e : IE} {st : Stmt} (h : ckSub k S a i e st = true) : SS X st (stepS s (.dsub a i e)) := by
  unfold ckSub at h
  split at h
  · simp only [Bool.and_eq_true] at h
    exact ss_dsub (un1 Y G) (Y.E G h.1.1.2) (Y.E G h.1.2) (Y.E G h.2) h.1.1.1
  · cases h
theorem ret_ok {i : IE} {st : Stmt} (h : ckRet k S i st = true) : SS X st (stepS s (.ret i)) := by
  unfold ckRet at h
  split at h
  · exact ss_ret (Y.E G h)
  · cases h
theorem exp_ok {i : IE} {st : Stmt} (h : ckExp k S i st = true) : SS X st (stepS s (.exp i)) := by
  unfold ckExp at h
  split at h
  · rw [Bool.and_eq_true] at h
    exact ss_exp (Y.E G h.2) h.1
  · cases h
theorem if_ok {t : IT} {a b : List IS} {st : Stmt} (h : ckIf k S t a b st = true) : SS X st (stepS s (.ifs t a b)) := by
  unfold ckIf at h
  split at h
  · simp only [Bool.and_eq_true] at h
    exact ss_if (Y.T G h.1.1) (Y.S G h.1.2) (Y.S G h.2)
  · cases h
theorem for_ok {g : IG} {it : II} {b : List IS} {st : Stmt} (h : ckFor P k S g it b st = true) : SS X st (stepS s (.for g it b)) := by
  unfold ckFor at h
  split at h
  · rename_i tg iter body pos
    simp only [Bool.and_eq_true] at h
    obtain ⟨⟨⟨h1, h2⟩, h3⟩, h4⟩ := h
    exact ss_for G.xe G.calm (i_ok Y G h2) (ckG_ok G h3) (Y.S G h4) (noSet (by cases iter <;> first | rfl | cases h1))
  · cases h
theorem slc1_ok {i : Nat} {elt : IE} {g : IG} {own : List Nat} {it : II} {t : Option IT} {st : Stmt} (h : ckSlc1 P k S i elt g own it t st = true) : SS X st (stepS s (.lc i elt g own it t)) := by
  unfold ckSlc1 at h
  split at h
  · rename_i y py elt' tg iter ifs scope pos spos
    simp only [Bool.and_eq_true, Bool.not_eq_true'] at h
    obtain ⟨⟨⟨⟨h1, h2⟩, h3⟩, h4⟩, h5⟩ := h
    have q := compOk Y G h5
    have hsw : swapsWith (.ListComp elt' [⟨tg, iter, ifs, 0⟩] scope pos) (some (.Name y py)) spos.line X.env = pure true := by
      have hb : X.env.blockKind = .function := by unfold Env.blockKind; rw [G.sc, G.kd]; rfl
      have ky : X.env.kindOf y = some .local := loc1_ok G h2
      unfold swapsWith
      simp only [hb, ky, Expr.pos, h3, h4]
      rfl
    have := ss_lc G.calm G.nd (at_ok G h1) (loc1_ok G h2) hsw q.i q.ok q.tgt q.t q.e q.st q.o
    rw [ownN_map] at this
    show SS X _ (fun r h => ((stepL s (.comp elt g own it t) r h).bind fun ws h1 => .ok (W.ref h1.nx) (h1.push (.lst ws))).toS fun w h1 => .nx (r.set i (some w)) h1)
    rw [comp_eq]
    exact this
  · cases h
theorem slcp_ok {i : Nat} {elt : IE} {g : IG} {own : List Nat} {it : II} {t : Option IT} {st : Stmt} (h : ckSlc1 P k S i elt g own it t st = true) : SS X st (stepS s (.lcp i elt g own it t)) := by
  unfold ckSlc1 at h
  split at h
  · rename_i y py elt' tg iter ifs scope pos spos
    simp only [Bool.and_eq_true, Bool.not_eq_true'] at h
    obtain ⟨⟨⟨⟨h1, h2⟩, h3⟩, h4⟩, h5⟩ := h
    have q := compOk Y G h5
    have hsw : swapsWith (.ListComp elt' [⟨tg, iter, ifs, 0⟩] scope pos) (some (.Name y py)) spos.line X.env = pure true := by
      have hb : X.env.blockKind = .function := by unfold Env.blockKind; rw [G.sc, G.kd]; rfl
      have ky : X.env.kindOf y = some .local := loc1_ok G h2
      unfold swapsWith
      simp only [hb, ky, Expr.pos, h3, h4]
      rfl
    have := ss_lcp G.calm G.nd (at_ok G h1) (loc1_ok G h2) hsw q.i q.ok q.tgt q.t q.e q.st q.o
    rw [ownN_map] at this
    show SS X _ (fun r h => ((stepL s (.comp elt g own it t) r h).bind fun ws h1 => .ok (W.lis ws) h1).toS fun w h1 => .nx (r.set i (some w)) h1)
    rw [comp_eq]
    exact this
  · cases h
/-- W: what is known of a while -/
theorem s_ok (W : ∀ {t : IT} {b : List IS} {st : Stmt}, ckWhl k S t b st = true → SS X st (s.Wh t b)) : ∀ {i : IS} {st : Stmt}, ckS P k S i st = true → SS X st (stepS s i)
  | .exp _, _, h => exp_ok Y G h
  | .asg _ _, _, h => asg_ok Y G h
  | .par _ _ _ _, _, h => par_ok Y G h
  | .sub _ _ _, _, h => sub_ok Y G h
  | .dsub _ _ _, _, h => dsub_ok Y G h
  | .ret _, _, h => ret_ok Y G h
  | .ifs _ _ _, _, h => if_ok Y G h
  | .for _ _ _, _, h => for_ok Y G h
  | .whl _ _, _, h => W h
  | .lc _ _ _ _ _ _, _, h => slc1_ok Y G h
  | .lcp _ _ _ _ _ _, _, h => slcp_ok Y G h
  | .pass, st, h => by
    cases st with
    | Pass p => exact ss_pass
    | _ => cases h
  | .brk, st, h => by
    cases st with
    | Break p => exact ss_brk
    | _ => cases h
  | .cont, st, h => by
    cases st with
    | Continue p => exact ss_cont
    | _ => cases h
theorem ss_ok (W : ∀ {t : IT} {b : List IS} {st : Stmt}, ckWhl k S t b st = true → SS X st (s.Wh t b)) : ∀ {is : List IS} {sts : List Stmt}, ckSs P k S is sts = true → SSs X sts (stepSs s is)
  | [], [], _ => sss_nil
  | [], _ :: _, h => by simp [ckSs, all2] at h
  | _ :: _, [], h => by simp [ckSs, all2] at h
  | i :: is, st :: sts, h => by
    simp only [ckSs, all2, Bool.and_eq_true] at h
    exact sss_cons (s_ok Y G W h.1) (ss_ok W (is := is) (sts := sts) h.2)
end
def CK.bot : CK := ⟨fun _ _ _ => false, fun _ _ _ => false, fun _ _ _ => false, fun _ _ _ => false, fun _ _ _ => false⟩
def ckl (P : Pg) : Nat → CK
  | 0 => CK.bot
  | n + 1 => ⟨fun S => ckE P (ckl P n) S, fun S => ckV (ckl P n) S, fun S => ckT (ckl P n) S, fun S => ckL P (ckl P n) S, fun S => ckSs P (ckl P n) S⟩
theorem se_bot {X : Cx} {e : Expr} : SE X e (fun _ _ => .bad) := ⟨fun _ _ _ => False, ⟨fun _ _ _ _ _ _ h => h.elim⟩, fun g r σ w h' Q s re e k => by cases e⟩
theorem sv_bot {X : Cx} {e : Expr} : SV X e (fun _ _ => .bad) := ⟨fun _ _ _ => False, ⟨fun _ _ _ _ _ _ h => h.elim⟩, fun g r σ w h' Q s re e k => by cases e⟩
theorem sl_bot {X : Cx} {e : Expr} : SL X e (fun _ _ => .bad) := ⟨fun _ _ _ => False, ⟨fun _ _ _ _ _ _ h => h.elim⟩, fun g r σ w h' Q s re e k => by cases e⟩
theorem st_bot {X : Cx} {e : Expr} : STt X e (fun _ _ => .bad) := ⟨fun _ _ _ => False, ⟨fun _ _ _ _ _ _ h => h.elim⟩, fun g r σ w h' Q s re e k => by cases e⟩
theorem ss_bot {X : Cx} {e : List Stmt} : SSs X e (fun _ _ => .bad) := ⟨fun _ _ _ => False, ⟨fun _ _ _ _ _ _ h => h.elim⟩, fun g r σ D s re dk => dk.elim⟩
theorem snd (P : Pg) (c : CF) : ∀ n m : Nat, Snd P c (ckl P m) (lvl c n) := by
  intro n
  induction n using Nat.strongRecOn with
  | ind n ih =>
    intro m
    cases n with
    | zero => exact ⟨fun _ _ => se_bot, fun _ _ => sv_bot, fun _ _ => st_bot, fun _ _ => sl_bot, fun _ _ => ss_bot⟩
    | succ n =>
      cases m with
      | zero => exact ⟨fun _ h => (nomatch h), fun _ h => (nomatch h), fun _ h => (nomatch h), fun _ h => (nomatch h), fun _ h => (nomatch h)⟩
      | succ m =>
        have Y := ih n (Nat.lt_succ_self n) m
        refine ⟨fun G h => e_ok Y G h, fun G h => v_ok Y G h, fun G h => t_ok Y G h, fun G h => l_ok Y G h, fun {S X i e} G h => ss_ok Y G (fun {t b st} h => ?_) h⟩
        unfold ckWhl at h
        split at h
        · rw [Bool.and_eq_true] at h
          exact ss_whl G.xe (fun j hj => (ih j (Nat.lt_succ_of_lt hj) m).T G h.1) (fun j hj => (ih j (Nat.lt_succ_of_lt hj) m).S G h.2)
        · cases h
end VM


set_option Elab.async false
set_option linter.all false
set_option maxRecDepth 100000
set_option maxHeartbeats 2000000
namespace VM
open PySem L2

/-- a def of the text: its name, its place, its names (parameters first), its parameters, its reading -/
structure DD where
  x : Str
  st : Stmt
  N : List Str
  ps : List Str
  body : List IS
def DD.fd (d : DD) : FD := ⟨d.ps.length, d.N.length, d.body⟩
def parB (sc : Scope) (x : Str) : Bool := match sc.names.lookup x with
  | some .local => true
  | some .cell => true
  | _ => false
def nofB : NameKind → Bool
  | .free => false
  | _ => true
def scB (N ps : List Str) (sc : Scope) : Bool := fnK sc && !sc.isCoroutine && !sc.isGenerator && decide N.Nodup && decide (N.take ps.length = ps) && ps.all (parB sc) && sc.names.all fun y => nofB y.2
theorem scB_ok {N ps : List Str} {sc : Scope} (h : scB N ps sc = true) : FnScope N ps sc := by
  unfold scB at h
  simp only [Bool.and_eq_true, Bool.not_eq_true', decide_eq_true_eq] at h
  obtain ⟨⟨⟨⟨⟨⟨h1, h2⟩, h3⟩, h4⟩, h5⟩, h6⟩, h7⟩ := h
  refine ⟨?_, h2, h3, h4, h5, fun x hx => ?_, fun y hy e => ?_⟩
  · unfold fnK at h1
    split at h1
    · assumption
    · cases h1
  · have := List.all_eq_true.mp h6 x hx
    unfold parB at this
    split at this
    · exact .inl ‹_›
    · exact .inr ‹_›
    · cases this
  · have := List.all_eq_true.mp h7 y hy
    rw [e] at this
    cases this
def ckD (P : Pg) (m : Nat) (d : DD) : Bool := scB d.N d.ps (defScope d.st) && (ckl P m).S ⟨d.N, defScope d.st, true⟩ d.body (defBody d.st)

theorem RWs.lenEq {K : PySem.W.Frag} {g : Sg} {ws : List W} {vs : List V} (h : RWs K g ws vs) : vs.length = ws.length := h.length.symm
theorem pad_rep : ∀ n : Nat, pad n = List.replicate n none
  | 0 => rfl
  | n + 1 => by rw [pad, pad_rep n]; rfl
theorem re_start {K : PySem.W.Frag} {g : Sg} {N : List Str} {ws : List W} {vs : List V} (h : RWs K g ws vs) : RE K g (ws.map some ++ pad (N.length - ws.length)) (start N vs) := by
  have hl := h.length
  refine ⟨?_, fun i w e => ?_⟩
  · unfold L2.start
    rw [pad_rep, List.length_append, List.length_append, List.length_map, List.length_map, List.length_replicate, List.length_replicate, hl]
  · rw [getR_iff] at e
    by_cases hi : i < ws.length
    · rw [List.getElem?_append_left (by simpa using hi), List.getElem?_map] at e
      obtain ⟨u, hu, eu⟩ := Option.map_eq_some_iff.mp e
      cases eu
      obtain ⟨v, hv, rv⟩ := h.get hu
      refine ⟨v, ?_, rv⟩
      unfold L2.start
      rw [List.getElem?_append_left (by simpa [← hl] using hi), List.getElem?_map, hv]
      rfl
    · rw [List.getElem?_append_right (by simpa using hi), pad_rep, List.getElem?_replicate] at e
      split at e <;> cases e
theorem nth_map {D : List DD} {f : Nat} {d : DD} (h : D[f]? = some d) : nth (D.map DD.fd) f = some d.fd := by
  rw [nth_iff, List.getElem?_map, h]
  rfl
theorem sp_len {K : PySem.W.Frag} {c : CF} {f n : Nat} {vs : List V} {H : Hp} {Q : VK} {E : XK} (h : spOf K c f n vs H Q E) : vs.length = n := by
  obtain ⟨g, ws, w, h', _, _, r, l, _⟩ := h
  rw [← r.length]
  exact l

section
variable {Pr : Program} {wo : World} {K : PySem.W.Frag} {mg : Str → Option Value} {base : Heap} {P : Pg} {D : List DD} {F m : Nat} {fa : Nat → Addr} {fd : Nat → FuncData}
/-- all that is known of a program's defs in the written part -/
structure Defs (K : PySem.W.Frag) (mg : Str → Option Value) (P : Pg) (D : List DD) (m : Nat) (fa : Nat → Addr) (fd : Nat → FuncData) : Prop where
  ck : ∀ (f : Nat) (d : DD), D[f]? = some d → ckD P m d = true
  fn : ∀ (f : Nat) (d : DD), D[f]? = some d → FunD K d.x d.x (defArgs d.st) (defBody d.st) (defScope d.st) [] [] (fa f) (fd f)
  mgl : ∀ (f : Nat) (d : DD), D[f]? = some d → mg d.x = some (.ref (fa f))
  bd : ∀ (f : Nat) (d : DD), D[f]? = some d → Binds K (fd f) d.ps []
  kw : ∀ (f : Nat) (d : DD), D[f]? = some d → d.x ∈ P.kw → ∀ (s : Shared) (us : List Value), us.length = d.ps.length → BindsTo s (fd f) ⟨[], d.ps.zip us⟩ (d.ps.zip us)
  fns : ∀ (x : Str) (f : Nat) (ps : List Str), P.fns.lookup x = some (f, ps) → ∃ d : DD, D[f]? = some d ∧ d.x = x ∧ d.ps = ps
  cs : ∀ x w, P.cs.lookup x = some w → ∃ u v, mg x = some u ∧ RelV v u ∧ ∀ g, RW K g w v
  fr : ∀ x ∈ P.fr, mg x = none
theorem Defs.ok (B : Defs K mg P D m fa fd) : ∀ (n f : Nat) (d : DD), D[f]? = some d → FnOk Pr wo K mg base CX0 n (fa f) (fd f) d.ps (spOf K (callF (D.map DD.fd) F n) f d.ps.length)
  | 0, f, d, hd => ⟨fun vs H Q E h => sp_len h, fun A outer s H args us vs Q E _ _ _ _ h => by
      obtain ⟨g, ws, w, h', _, _, _, _, e, _⟩ := h
      cases e⟩
  | n + 1, f, d, hd => by
    have ih := Defs.ok (B := B) n
    have hc := B.ck f d hd
    unfold ckD at hc
    rw [Bool.and_eq_true] at hc
    have S := scB_ok hc.1
    refine (B.fn f d hd).ok S (fun vs H Q E h => sp_len h) fun cdv A outer s H vs Q E hr h => ?_
    obtain ⟨g, ws, w, h', rfl, sim, rw, hl, e, k⟩ := h
    have G : Good P (callF (D.map DD.fd) F n) ⟨d.N, defScope d.st, true⟩ (cxOf CX0 Pr wo K mg base d.N d.x (defScope d.st) (fa f) cdv A outer s g.H E).nox := by
      refine ⟨rfl, rfl, S.kind, rfl, S.nd, rfl, hr.units, fun _ _ => rfl, fun x f' ps hx => ?_, B.cs, B.fr⟩
      obtain ⟨d', hd', rfl, rfl⟩ := B.fns x f' ps hx
      exact ⟨n, fa f', fd f', ih f' d' hd', hr, B.mgl f' d' hd', (B.fn f' d' hd').kp, B.bd f' d' hd', B.kw f' d' hd'⟩
    obtain ⟨t, p, i⟩ := (snd P (callF (D.map DD.fd) F n) F m).S G hc.2
    refine ⟨t, p.nox, ?_⟩
    refine i g (ws.map some ++ pad (d.N.length - ws.length)) (start d.N vs) _ sim (re_start rw) ?_
    have e2 : (if Nat.beq ws.length d.ps.length then ((lvl (callF (D.map DD.fd) F n) F).S d.body (ws.map some ++ pad (d.N.length - d.ps.length)) g.h).val else .bad) = .ok w h' := by
      have e := e
      unfold callF at e
      rw [nth_map hd] at e
      exact e
    rw [hl, Nat.beq_refl, if_pos rfl] at e2
    rw [hl]
    cases hb : (lvl (callF (D.map DD.fd) F n) F).S d.body (ws.map some ++ pad (d.N.length - d.ps.length)) g.h with
    | nx r1 h1 => rw [hb] at e2; cases e2; exact fun g' σ t1 q1 _ => k g' .non t1 q1 rfl
    | rt w1 h1 => rw [hb] at e2; cases e2; exact fun g' v t1 q1 r1 => k g' v t1 q1 r1
    | bk _ _ => rw [hb] at e2; cases e2
    | ct _ _ => rw [hb] at e2; cases e2
    | bad => rw [hb] at e2; cases e2
end

/-! ### the module's constants, by the head's Hook -/
mutual
def wB (K : PySem.W.Frag) : W → Value → Bool
  | .non, .none => true
  | .bl b, .bool c => b == c
  | .int i, .int j _ => decide (i = j)
  | .str s, .str y _ => decide (y = sv s)
  | .tup ws, .ref a => (match K.lookup a with
    | some ⟨.type c, _, .seq its _, _⟩ => decide (c = "tuple") && decide (its.size ≤ sizeLine) && wsB K ws its.toList
    | _ => false)
  | _, _ => false
def wsB (K : PySem.W.Frag) : List W → List Value → Bool
  | [], [] => true
  | w :: ws, v :: vs => wB K w v && wsB K ws vs
  | _, _ => false
end
mutual
theorem wB_ok {K : PySem.W.Frag} : ∀ {w : W} {u : Value}, wB K w u = true → ∃ v, RelV v u ∧ ∀ g, RW K g w v
  | .non, u, h => by
    cases u with
    | none => exact ⟨.non, rfl, fun _ => rfl⟩
    | _ => simp [wB] at h
  | .bl b, u, h => by
    cases u with
    | bool c =>
      simp only [wB] at h
      have e := eq_of_beq h
      subst e
      exact ⟨.bl b, rfl, fun _ => rfl⟩
    | _ => simp [wB] at h
  | .int b, u, h => by
    cases u with
    | int c t =>
      simp only [wB] at h
      have e := of_decide_eq_true h
      subst e
      exact ⟨.int b, ⟨_, rfl⟩, fun _ => rfl⟩
    | _ => simp [wB] at h
  | .str b, u, h => by
    cases u with
    | str c t =>
      simp only [wB] at h
      have e := of_decide_eq_true h
      subst e
      exact ⟨.str (sv b), ⟨_, rfl⟩, fun _ => rfl⟩
    | _ => simp [wB] at h
  | .tup ws, u, h => by
    cases u with
    | ref a =>
      simp only [wB] at h
      split at h
      · rename_i c d its n sl hl
        simp only [Bool.and_eq_true, decide_eq_true_eq] at h
        obtain ⟨⟨rfl, h1⟩, h2⟩ := h
        obtain ⟨vs, r, q⟩ := wsB_ok h2
        exact ⟨.ref a, rfl, fun g => ⟨a, vs, rfl, .inr ⟨_, its, n, hl, rfl, rfl, h1, r⟩, q g⟩⟩
      · cases h
    | _ => simp [wB] at h
  | .lis ws, u, h => by cases u <;> simp [wB] at h
  | .ref p, u, h => by cases u <;> simp [wB] at h
theorem wsB_ok {K : PySem.W.Frag} : ∀ {ws : List W} {us : List Value}, wsB K ws us = true → ∃ vs, Vals vs us ∧ ∀ g, RWs K g ws vs
  | [], [], _ => ⟨[], .nil, fun _ => rfl⟩
  | [], _ :: _, h => by simp [wsB] at h
  | _ :: _, [], h => by simp [wsB] at h
  | w :: ws, u :: us, h => by
    simp only [wsB, Bool.and_eq_true] at h
    obtain ⟨v, r1, q1⟩ := wB_ok h.1
    obtain ⟨vs, r2, q2⟩ := wsB_ok h.2
    exact ⟨v :: vs, .cons r1 r2, fun g => ⟨v, vs, rfl, q1 g, q2 g⟩⟩
end
def cstB (K : PySem.W.Frag) (q : Str × W) : Bool := match PySem.W.nsIn K mainGlobals q.1 with
  | some (some u) => wB K q.2 u
  | _ => false
theorem cstB_ok {K : PySem.W.Frag} {h : Heap} {mg : Str → Option Value} {q : Str × W} (X : K.In h) (G : h.Ns mainGlobals mg) (c : cstB K q = true) : ∃ u v, mg q.1 = some u ∧ RelV v u ∧ ∀ g, RW K g q.2 v := by
  unfold cstB at c
  split at c
  · rename_i u hu
    obtain ⟨v, r, z⟩ := wB_ok c
    exact ⟨u, v, PySem.W.mg_of X G hu, r, z⟩
  · cases c
/-! ### the Hook -/
def DD.dd (d : DD) : He.DefD := ⟨(d.x, none), d.x, d.x, defArgs d.st, defBody d.st, defScope d.st, [], []⟩
def faOf (P : Pg) (D : List DD) : List He.Fa := (D.map fun d => He.Fa.glo d.x) ++ P.fr.map He.Fa.free
def obsV (P : Pg) (D : List DD) (K : PySem.W.Frag) : He.AlD × Bool := (He.obsD (faOf P D) (D.map DD.dd) K, P.cs.all (cstB K))
def valV (D : List DD) : He.AlD × Bool := (He.valD (D.map DD.dd), true)
def SaysV (P : Pg) (D : List DD) (K : PySem.W.Frag) : Prop := obsV P D K = valV D
def obsVG (n : Nat) (P : Pg) (D : List DD) (g : Addr → Option Obj) : He.AlD × Bool := obsV P D (He.frG g (He.asD g n))
def hookV (n : Nat) (P : Pg) (D : List DD) : PySem.W.Hook where
  α := He.AlD × Bool
  obs := fun s => obsVG n P D s.heap.get?
  val := fun _ => valV D
  says := fun _ h => ∃ K : PySem.W.Frag, K.In h ∧ SaysV P D K
  of := fun _ _ e => ⟨_, He.frG_in, e⟩
  keeps := fun _ _ _ ⟨K, hK, c⟩ k => ⟨K, PySem.W.Frag.In.keeps hK k, c⟩
theorem obsVG_eq {n : Nat} {P : Pg} {D : List DD} {g : Addr → Option Obj} {s : Shared} (h : ∀ a, g a = s.heap.get? a) : obsVG n P D g = (hookV n P D).obs s := by
  have e : g = s.heap.get? := funext h
  rw [e] <;> rfl
/-- does every name of the table stand at its number -/
def fnsB (P : Pg) (D : List DD) : Bool := P.fns.all fun q => match D[q.2.1]? with
  | some d => decide (d.x = q.1) && decide (d.ps = q.2.2)
  | none => false
theorem lookup_mem {α : Type} : ∀ {l : List (Str × α)} {x : Str} {a : α}, l.lookup x = some a → (x, a) ∈ l
  | (y, b) :: r, x, a, h => by
    rw [List.lookup_cons] at h
    cases e : x == y with
    | true =>
      rw [e] at h
      have := eq_of_beq e
      subst this
      cases h
      exact List.mem_cons_self
    | false =>
      rw [e] at h
      exact List.mem_cons_of_mem _ (lookup_mem h)
structure BindT (P : Pg) (d : DD) : Prop where
  pos : ∀ (kV doc pm : Value) (an : Option Addr) (cdv ct : Value) (us : List Value), us.length = d.ps.length → bindArgs (PySem.W.fnOf d.x d.x (defArgs d.st) (defBody d.st) (defScope d.st) .none kV doc pm an cdv ct) ⟨us, []⟩ = pure (d.ps.zip us)
  kw : d.x ∈ P.kw → ∀ (kV doc pm : Value) (an : Option Addr) (cdv ct : Value) (us : List Value), us.length = d.ps.length → bindArgs (PySem.W.fnOf d.x d.x (defArgs d.st) (defBody d.st) (defScope d.st) .none kV doc pm an cdv ct) ⟨[], d.ps.zip us⟩ = pure (d.ps.zip us)
theorem defs_of {K : PySem.W.Frag} {h : Heap} {mg : Str → Option Value} {P : Pg} {D : List DD} {m : Nat} (X : K.In h) (G : h.Ns mainGlobals mg) (c : SaysV P D K) (hck : D.all (ckD P m) = true) (hfn : fnsB P D = true) (hb : ∀ d ∈ D, BindT P d) :
    ∃ (fa : Nat → Addr) (fd : Nat → FuncData), Defs K mg P D m fa fd := by
  have c1 : He.SaysD (faOf P D) (D.map DD.dd) K := congrArg (fun z : He.AlD × Bool => z.1) c
  have c2 : P.cs.all (cstB K) = true := congrArg (fun z : He.AlD × Bool => z.2) c
  have hex : ∀ f : Nat, ∃ q : Addr × FuncData, ∀ d, D[f]? = some d → FunD K d.x d.x (defArgs d.st) (defBody d.st) (defScope d.st) [] [] q.1 q.2 ∧ mg d.x = some (.ref q.1) := by
    intro f
    cases e : D[f]? with
    | none => exact ⟨(0, default), fun d h => by cases h⟩
    | some d =>
      obtain ⟨fd, hF⟩ := c1.def_ f (d := d.dd) (by rw [List.getElem?_map, e]; rfl)
      refine ⟨(He.ga K d.x, fd), fun d' h => ?_⟩
      cases h
      refine ⟨hF, He.glo_ok X G (c1.fact f (f := .glo d.x) ?_)⟩
      unfold faOf
      rw [List.getElem?_append_left (by rw [List.length_map]; exact (List.getElem?_eq_some_iff.mp e).1), List.getElem?_map, e]
      rfl
  obtain ⟨q, hq⟩ := Classical.skolem.mp hex
  refine ⟨fun f => (q f).1, fun f => (q f).2, fun f d hd => ?_, fun f d hd => (hq f d hd).1, fun f d hd => (hq f d hd).2, fun f d hd => ?_, fun f d hd hk => ?_, fun x f ps hx => ?_, fun x w hx => ?_, fun x hx => ?_⟩
  · exact List.all_eq_true.mp hck d (List.mem_of_getElem? hd)
  · exact (hq f d hd).1.bindsN (hb d (List.mem_of_getElem? hd)).pos
  · intro s us hl
    obtain ⟨oc, od, dV, kV, doc, pm, an, cdv, ct, osl, e, lk, hcd, hD, hK⟩ := (hq f d hd).1.ex
    rcases hD with ⟨_, rfl⟩ | ⟨e, _⟩
    · rw [e]
      exact .of_eq ((hb d (List.mem_of_getElem? hd)).kw hk kV doc pm an cdv ct us hl)
    · exact absurd rfl e
  · have := List.all_eq_true.mp hfn _ (lookup_mem hx)
    dsimp only at this
    split at this
    · rename_i d hd
      rw [Bool.and_eq_true, decide_eq_true_eq, decide_eq_true_eq] at this
      exact ⟨d, hd, this.1, this.2⟩
    · cases this
  · exact cstB_ok X G (List.all_eq_true.mp c2 _ (lookup_mem hx))
  · obtain ⟨i, hi, e⟩ := List.getElem_of_mem hx
    have e2 : P.fr[i]? = some x := by rw [List.getElem?_eq_getElem hi, e]
    refine He.free_ok X G (c1.fact (D.length + i) (f := .free x) ?_)
    unfold faOf
    rw [List.getElem?_append_right (by rw [List.length_map]; omega), List.length_map, Nat.add_sub_cancel_left, List.getElem?_map, e2]
    rfl
/-! ### the law's call -/
def scr (k : Bool) (ns : List Int) : VH := ⟨PM.set .one (.frz k (ns.map W.int)) .lf, .o .one⟩
theorem scr_get {k : Bool} {ns : List Int} {p : Ad} {o : O} (h : (scr k ns).get p = some o) : p = .one ∧ o = .frz k (ns.map W.int) := by
  by_cases e : p = .one
  · subst e
    have : (scr k ns).get .one = some (.frz k (ns.map W.int)) := rfl
    rw [this] at h
    cases h
    exact ⟨rfl, rfl⟩
  · exfalso
    have : (scr k ns).get p = PM.get .lf p := PM.get_ne _ _ e
    rw [this, PM.get_lf] at h
    cases h
theorem rws_ints {K : PySem.W.Frag} {g : Sg} : ∀ ns : List Int, RWs K g (ns.map W.int) (ns.map V.int)
  | [] => rfl
  | n :: ns => ⟨.int n, ns.map V.int, rfl, rfl, rws_ints ns⟩
theorem sp_law {K : PySem.W.Frag} {c : CF} {f : Nat} {H : Hp} {a : Addr} {ns : List Int} {E : XK} (ho : Only H) (hS : SqL K H a (ns.map V.int)) (hl : ∀ k, ∃ h', c f [.ref .one] (scr k ns) = .ok (.bl true) h') :
    spOf K c f 1 [.ref a] H (fun v _ => v = .bl true) E := by
  have key : ∀ k, ObR K ⟨fun _ => a, scr k ns, H, fun _ => False⟩ a (.frz k (ns.map W.int)) → spOf K c f 1 [.ref a] H (fun v _ => v = .bl true) E := by
    intro k ob
    obtain ⟨h', e⟩ := hl k
    refine ⟨⟨fun _ => a, scr k ns, H, fun _ => False⟩, [.ref .one], .bl true, h', rfl, ⟨fun p o hp => ?_, fun p q o u hp hq _ _ _ => ?_, fun p hp => ?_, fun _ l => l.elim⟩, ⟨.ref a, [], rfl, ⟨⟨_, rfl⟩, rfl⟩, rfl⟩, rfl, e, fun g' v _ _ r => r⟩
    · obtain ⟨rfl, rfl⟩ := scr_get hp
      exact ob
    · rw [(scr_get hp).1, (scr_get hq).1]
    · cases hg : (scr k ns).get p with
      | none => rfl
      | some o =>
        obtain ⟨rfl, _⟩ := scr_get hg
        exact absurd (show (Ad.o Ad.one).num ≤ Ad.one.num from hp) (by decide)
  rcases hS with hr | hk
  · refine key false ?_
    rcases ho a with e | ⟨o, xs, e⟩
    · rcases hr with hr | ⟨o, hr⟩
      · rw [e] at hr; cases hr
      · rw [e] at hr; cases hr
    · rcases hr with hr | ⟨o', hr⟩
      · rw [e] at hr; cases hr
      · rw [e] at hr
        cases hr
        exact ⟨_, _, e, rws_ints ns⟩
  · exact key true ⟨_, hk, rws_ints ns⟩
end VM


set_option linter.all false
set_option maxRecDepth 100000
/-! Reasoning about the evaluator: what a run gives, step by step. -/
namespace VM
def Rn {α : Type} (x : Res α) (Q : α → VH → Prop) : Prop := match x with
  | .ok a h => Q a h
  | .bad => False
def Sn (x : SRes) (N : Env → VH → Prop) (T : W → VH → Prop) (B C : Env → VH → Prop) : Prop := match x with
  | .nx r h => N r h
  | .rt w h => T w h
  | .bk r h => B r h
  | .ct r h => C r h
  | .bad => False
section
variable {α β : Type} {x : Res α} {f : α → VH → Res β} {Q : β → VH → Prop}
theorem Rn_bind : Rn (x.bind f) Q = Rn x fun a h => Rn (f a h) Q := by cases x <;> rfl
theorem Rn_ok {a : α} {h : VH} {Q : α → VH → Prop} : Rn (.ok a h) Q = Q a h := rfl
theorem Rn_bad {Q : α → VH → Prop} : Rn (.bad : Res α) Q = False := rfl
theorem bind_ok {a : α} {h : VH} : (Res.ok a h).bind f = f a h := rfl
theorem bind_bad : (Res.bad : Res α).bind f = .bad := rfl
theorem of_some {a : α} {h : VH} : Res.of (some a) h = .ok a h := rfl
theorem of_none {h : VH} : Res.of (none : Option α) h = .bad := rfl
theorem Rn_of {o : Option α} {h : VH} {Q : α → VH → Prop} : Rn (Res.of o h) Q = ∃ a, o = some a ∧ Q a h := by
  cases o with
  | none => exact propext ⟨fun z => z.elim, fun ⟨_, e, _⟩ => nomatch e⟩
  | some a => exact propext ⟨fun z => ⟨a, rfl, z⟩, fun ⟨_, e, z⟩ => by cases e; exact z⟩
theorem Rn.imp {x : Res α} {Q Q' : α → VH → Prop} (h : Rn x Q) (k : ∀ a h, Q a h → Q' a h) : Rn x Q' := by
  cases x with
  | ok a h' => exact k a h' h
  | bad => exact h
theorem Rn.ex {x : Res α} {Q : α → VH → Prop} (h : Rn x Q) : ∃ a h', x = .ok a h' ∧ Q a h' := by
  cases x with
  | ok a h' => exact ⟨a, h', rfl, h⟩
  | bad => exact h.elim
theorem Rn_of_eq {x : Res α} {a : α} {h : VH} {Q : α → VH → Prop} (e : x = .ok a h) (q : Q a h) : Rn x Q := by rw [e]; exact q
end

/-! ### rules: expressions -/
section
variable {c : CF} {n i : Nat} {r : Env} {h : VH} {Q : W → VH → Prop} {a b d e : IE} {es : List IE} {x y : IV} {l : IL} {t : IT}
theorem E_var {w : W} (e : getR r i = some w) (q : Q w h) : Rn ((lvl c (n + 1)).E (.var i) r h) Q := by
  show Rn (Res.of (getR r i) h) Q
  rw [e]; exact q
theorem E_cst {w : W} (q : Q w h) : Rn ((lvl c (n + 1)).E (.cst w) r h) Q := q
theorem E_tup (q : Rn (evs (lvl c n).E es r h) fun ws h1 => Q (.tup ws) h1) : Rn ((lvl c (n + 1)).E (.tup es) r h) Q := by
  show Rn ((evs (lvl c n).E es r h).bind fun ws h1 => .ok (.tup ws) h1) Q
  rw [Rn_bind]; exact q
theorem E_new (q : Rn ((lvl c n).L l r h) fun ws h1 => Q (.ref h1.nx) (h1.push (.lst ws))) : Rn ((lvl c (n + 1)).E (.new l) r h) Q := by
  show Rn (((lvl c n).L l r h).bind fun ws h1 => .ok (.ref h1.nx) (h1.push (.lst ws))) Q
  rw [Rn_bind]; exact q
theorem E_lis (q : Rn ((lvl c n).L l r h) fun ws h1 => Q (.lis ws) h1) : Rn ((lvl c (n + 1)).E (.lis l) r h) Q := by
  show Rn (((lvl c n).L l r h).bind fun ws h1 => .ok (.lis ws) h1) Q
  rw [Rn_bind]; exact q
theorem E_ndic (q : Q (.ref h.nx) (h.push (.dic []))) : Rn ((lvl c (n + 1)).E .ndic r h) Q := q
theorem E_bin {op : B2} (q : Rn ((lvl c n).E a r h) fun x h1 => Rn ((lvl c n).E b r h1) fun y h2 => Rn (Res.of (arith op x y) h2) Q) : Rn ((lvl c (n + 1)).E (.bin op a b) r h) Q := by
  show Rn (((lvl c n).E a r h).bind fun x h1 => ((lvl c n).E b r h1).bind fun y h2 => Res.of (arith op x y) h2) Q
  simp only [Rn_bind]; exact q
theorem E_neg (q : Rn ((lvl c n).E a r h) fun x h1 => ∃ j, x = .int j ∧ Q (.int (-j)) h1) : Rn ((lvl c (n + 1)).E (.neg a) r h) Q := by
  show Rn (((lvl c n).E a r h).bind fun x h1 => match x with | .int i => .ok (.int (-i)) h1 | _ => .bad) Q
  rw [Rn_bind]
  exact q.imp fun x h1 ⟨j, e, q⟩ => by subst e; exact q
theorem E_cmp {op : C2} (q : Rn ((lvl c n).V x r h) fun x h1 => Rn ((lvl c n).V y r h1) fun y h2 => Rn (Res.of (cmpA h2 op x y) h2) fun b h3 => Q (.bl b) h3) : Rn ((lvl c (n + 1)).E (.cmp op x y) r h) Q := by
  show Rn (((lvl c n).V x r h).bind fun x h1 => ((lvl c n).V y r h1).bind fun y h2 => Res.of ((cmpA h2 op x y).map W.bl) h2) Q
  simp only [Rn_bind]
  exact q.imp fun x h1 q => q.imp fun y h2 q => by
    cases z : cmpA h2 op x y with
    | none => rw [z] at q; exact q
    | some b => rw [z] at q; exact q
theorem E_chn {op op' : C2} (q : Rn ((lvl c n).E a r h) fun x h1 => Rn ((lvl c n).E b r h1) fun y h2 => Rn (Res.of (cmpA h2 op (.w x) (.w y)) h2) fun k h3 => if k = true then Rn ((lvl c n).E d r h3) (fun z h4 => Rn (Res.of (cmpA h4 op' (.w y) (.w z)) h4) fun b h5 => Q (.bl b) h5) else Q (.bl false) h3) : Rn ((lvl c (n + 1)).E (.chn op op' a b d) r h) Q := by
  show Rn (((lvl c n).E a r h).bind fun x h1 => ((lvl c n).E b r h1).bind fun y h2 => match cmpA h2 op (.w x) (.w y) with
    | some true => ((lvl c n).E d r h2).bind fun z h3 => Res.of ((cmpA h3 op' (.w y) (.w z)).map W.bl) h3
    | some false => .ok (.bl false) h2
    | none => .bad) Q
  simp only [Rn_bind]
  exact q.imp fun x h1 q => q.imp fun y h2 q => by
    cases z : cmpA h2 op (.w x) (.w y) with
    | none => rw [z] at q; exact q
    | some k =>
      rw [z] at q
      cases k with
      | false => exact q
      | true =>
        show Rn (((lvl c n).E d r h2).bind _) Q
        rw [Rn_bind]
        have q : Rn ((lvl c n).E d r h2) (fun z h4 => Rn (Res.of (cmpA h4 op' (.w y) (.w z)) h4) fun b h5 => Q (.bl b) h5) := q
        exact q.imp fun w h3 q => by
          cases z : cmpA h3 op' (.w y) (.w w) with
          | none => rw [z] at q; exact q
          | some b => rw [z] at q; exact q
theorem E_and1 (q : Rn ((lvl c n).E a r h) Q) : Rn ((lvl c (n + 1)).E (.and [a]) r h) Q := q
theorem E_and (q : Rn ((lvl c n).E a r h) fun w h1 => ∃ k, w = .bl k ∧ if k = true then Rn ((lvl c (n + 1)).E (.and (b :: es)) r h1) Q else Q (.bl false) h1) : Rn ((lvl c (n + 1)).E (.and (a :: b :: es)) r h) Q := by
  show Rn (((lvl c n).E a r h).bind fun w h1 => match w with
    | .bl true => andE (lvl c n) (b :: es) r h1
    | .bl false => .ok (.bl false) h1
    | _ => .bad) Q
  rw [Rn_bind]
  exact q.imp fun w h1 ⟨k, e, q⟩ => by subst e; cases k <;> exact q
theorem E_or1 (q : Rn ((lvl c n).E a r h) Q) : Rn ((lvl c (n + 1)).E (.or [a]) r h) Q := q
theorem E_or (q : Rn ((lvl c n).E a r h) fun w h1 => ∃ k, w = .bl k ∧ if k = true then Q (.bl true) h1 else Rn ((lvl c (n + 1)).E (.or (b :: es)) r h1) Q) : Rn ((lvl c (n + 1)).E (.or (a :: b :: es)) r h) Q := by
  show Rn (((lvl c n).E a r h).bind fun w h1 => match w with
    | .bl true => .ok (.bl true) h1
    | .bl false => orE (lvl c n) (b :: es) r h1
    | _ => .bad) Q
  rw [Rn_bind]
  exact q.imp fun w h1 ⟨k, e, q⟩ => by subst e; cases k <;> exact q
theorem E_not (q : Rn ((lvl c n).E a r h) fun x h1 => ∃ k, x = .bl k ∧ Q (.bl (!k)) h1) : Rn ((lvl c (n + 1)).E (.not a) r h) Q := by
  show Rn (((lvl c n).E a r h).bind fun x h1 => match x with | .bl b => .ok (.bl (!b)) h1 | _ => .bad) Q
  rw [Rn_bind]
  exact q.imp fun x h1 ⟨j, e, q⟩ => by subst e; exact q
theorem E_ite (q : Rn ((lvl c n).T t r h) fun k h1 => if k = true then Rn ((lvl c n).E a r h1) Q else Rn ((lvl c n).E b r h1) Q) : Rn ((lvl c (n + 1)).E (.ite t a b) r h) Q := by
  show Rn (((lvl c n).T t r h).bind fun x h1 => if x then (lvl c n).E a r h1 else (lvl c n).E b r h1) Q
  rw [Rn_bind]
  exact q.imp fun k h1 q => by cases k <;> exact q
theorem E_idx (q : Rn ((lvl c n).V x r h) fun x h1 => Rn ((lvl c n).E a r h1) fun k h2 => Rn (Res.of (idxA h2 x k) h2) Q) : Rn ((lvl c (n + 1)).E (.idx x a) r h) Q := by
  show Rn (((lvl c n).V x r h).bind fun x h1 => ((lvl c n).E a r h1).bind fun k h2 => Res.of (idxA h2 x k) h2) Q
  simp only [Rn_bind]; exact q
theorem E_didx (q : Rn ((lvl c n).E a r h) fun x h1 => Rn ((lvl c n).E b r h1) fun k h2 => Rn (Res.of ((dicOf h2 x).bind fun d => if keyOk k then dfind k d.2 else none) h2) Q) : Rn ((lvl c (n + 1)).E (.didx a b) r h) Q := by
  show Rn (((lvl c n).E a r h).bind fun x h1 => ((lvl c n).E b r h1).bind fun k h2 => Res.of ((dicOf h2 x).bind fun d => if keyOk k then dfind k d.2 else none) h2) Q
  simp only [Rn_bind]; exact q
theorem E_dget (q : Rn ((lvl c n).E a r h) fun x h1 => (∃ z, dicOf h1 x = some z) ∧ Rn ((lvl c n).E b r h1) fun k h2 => Rn ((lvl c n).E d r h2) fun y h3 => Rn (Res.of ((dicOf h3 x).bind fun d => if keyOk k then some ((dfind k d.2).getD y) else none) h3) Q) : Rn ((lvl c (n + 1)).E (.dget a b d) r h) Q := by
  show Rn (((lvl c n).E a r h).bind fun d1 h1 => match dicOf h1 d1 with
    | none => .bad
    | some _ => ((lvl c n).E b r h1).bind fun k h2 => ((lvl c n).E d r h2).bind fun x h3 => Res.of ((dicOf h3 d1).bind fun d => if keyOk k then some ((dfind k d.2).getD x) else none) h3) Q
  rw [Rn_bind]
  refine q.imp fun x h1 ⟨⟨z, e⟩, q⟩ => ?_
  rw [e]
  show Rn (((lvl c n).E b r h1).bind _) Q
  simp only [Rn_bind]; exact q
theorem E_call {f : Nat} (q : Rn (evs (lvl c n).E es r h) fun ws h1 => Rn (c f ws h1) Q) : Rn ((lvl c (n + 1)).E (.call f es) r h) Q := by
  show Rn ((evs (lvl c n).E es r h).bind fun ws h1 => c f ws h1) Q
  rw [Rn_bind]; exact q
theorem E_callK {f : Nat} (q : Rn (evs (lvl c n).E es r h) fun ws h1 => Rn (c f ws h1) Q) : Rn ((lvl c (n + 1)).E (.callK f es) r h) Q := by
  show Rn ((evs (lvl c n).E es r h).bind fun ws h1 => c f ws h1) Q
  rw [Rn_bind]; exact q
theorem E_isi {t : Ty} (q : Rn ((lvl c n).E a r h) fun x h1 => Rn (Res.of (tyIs h1 t x) h1) fun b h2 => Q (.bl b) h2) : Rn ((lvl c (n + 1)).E (.isi a t) r h) Q := by
  show Rn (((lvl c n).E a r h).bind fun x h1 => Res.of ((tyIs h1 t x).map W.bl) h1) Q
  rw [Rn_bind]
  exact q.imp fun x h1 q => by
    cases z : tyIs h1 t x with
    | none => rw [z] at q; exact q
    | some b => rw [z] at q; exact q
theorem E_blt {f : Bt} {vs : List IV} (q : Rn (evs (lvl c n).V vs r h) fun xs h1 => Rn (Res.of (bltF h1 f xs) h1) Q) : Rn ((lvl c (n + 1)).E (.blt f vs) r h) Q := by
  show Rn ((evs (lvl c n).V vs r h).bind fun xs h1 => Res.of (bltF h1 f xs) h1) Q
  rw [Rn_bind]; exact q
theorem E_app (q : Rn ((lvl c n).E a r h) fun x h1 => (∃ z, lstOf h1 (.w x) = some z) ∧ Rn ((lvl c n).E b r h1) fun y h2 => ∃ p ws, x = .ref p ∧ h2.get p = some (.lst ws) ∧ Nat.blt ws.length size = true ∧ Q .non (h2.set p (.lst (ws ++ [y])))) : Rn ((lvl c (n + 1)).E (.app a b) r h) Q := by
  show Rn (((lvl c n).E a r h).bind fun x h1 => match lstOf h1 (.w x) with
    | none => .bad
    | some _ => ((lvl c n).E b r h1).bind fun y h2 => match x with
      | .ref p => (match h2.get p with
        | some (.lst ws) => if Nat.blt ws.length size then .ok .non (h2.set p (.lst (ws ++ [y]))) else .bad
        | _ => .bad)
      | _ => .bad) Q
  rw [Rn_bind]
  refine q.imp fun x h1 ⟨⟨z, e⟩, q⟩ => ?_
  rw [e]
  show Rn (((lvl c n).E b r h1).bind _) Q
  rw [Rn_bind]
  refine q.imp fun y h2 ⟨p, ws, e1, e2, e3, q2⟩ => ?_
  subst e1
  show Rn (match h2.get p with
        | some (.lst ws) => if Nat.blt ws.length size then .ok .non (h2.set p (.lst (ws ++ [y]))) else .bad
        | _ => .bad) Q
  rw [e2]
  show Rn (if Nat.blt ws.length size then _ else _) Q
  rw [e3]; exact q2
end
section
variable {c : CF} {n i : Nat} {r : Env} {h : VH}
theorem A_nil {α β : Type} {f : α → Env → VH → Res β} {Q : List β → VH → Prop} (q : Q [] h) : Rn (evs f [] r h) Q := q
theorem A_cons {α β : Type} {f : α → Env → VH → Res β} {Q : List β → VH → Prop} {e : α} {es : List α} (q : Rn (f e r h) fun w h1 => Rn (evs f es r h1) fun ws h2 => Q (w :: ws) h2) : Rn (evs f (e :: es) r h) Q := by
  show Rn ((f e r h).bind fun w h1 => (evs f es r h1).bind fun ws h2 => .ok (w :: ws) h2) Q
  simp only [Rn_bind]; exact q
theorem V_e {e : IE} {Q : Arg → VH → Prop} (q : Rn ((lvl c n).E e r h) fun w h1 => Q (.w w) h1) : Rn ((lvl c (n + 1)).V (.e e) r h) Q := by
  show Rn (((lvl c n).E e r h).bind fun w h1 => .ok (.w w) h1) Q
  rw [Rn_bind]; exact q
theorem V_l {l : IL} {Q : Arg → VH → Prop} (q : Rn ((lvl c n).L l r h) fun w h1 => Q (.fr w) h1) : Rn ((lvl c (n + 1)).V (.l l) r h) Q := by
  show Rn (((lvl c n).L l r h).bind fun w h1 => .ok (.fr w) h1) Q
  rw [Rn_bind]; exact q
/-- a value that the kernel can tell -/
theorem R_of {α : Type} {o : Option α} {a : α} {Q : α → VH → Prop} (e : o = some a) (q : Q a h) : Rn (Res.of o h) Q := by rw [e]; exact q
variable {Q : Bool → VH → Prop} {s t : IT} {ts : List IT} {x y : IV} {a b d e : IE}
theorem T_val (q : Rn ((lvl c n).E e r h) fun w h1 => ∃ k, w = .bl k ∧ Q k h1) : Rn ((lvl c (n + 1)).T (.val e) r h) Q := by
  show Rn (((lvl c n).E e r h).bind fun w h1 => match w with | .bl b => .ok b h1 | _ => .bad) Q
  rw [Rn_bind]
  exact q.imp fun x h1 ⟨j, e, q⟩ => by subst e; exact q
theorem T_cmp {op : C2} (q : Rn ((lvl c n).V x r h) fun x h1 => Rn ((lvl c n).V y r h1) fun y h2 => Rn (Res.of (cmpA h2 op x y) h2) Q) : Rn ((lvl c (n + 1)).T (.cmp op x y) r h) Q := by
  show Rn (((lvl c n).V x r h).bind fun x h1 => ((lvl c n).V y r h1).bind fun y h2 => Res.of (cmpA h2 op x y) h2) Q
  simp only [Rn_bind]; exact q
theorem T_chn {op op' : C2} (q : Rn ((lvl c n).E a r h) fun x h1 => Rn ((lvl c n).E b r h1) fun y h2 => Rn (Res.of (cmpA h2 op (.w x) (.w y)) h2) fun k h3 => if k = true then Rn ((lvl c n).E d r h3) (fun z h4 => Rn (Res.of (cmpA h4 op' (.w y) (.w z)) h4) Q) else Q false h3) : Rn ((lvl c (n + 1)).T (.chn op op' a b d) r h) Q := by
  show Rn (((lvl c n).E a r h).bind fun x h1 => ((lvl c n).E b r h1).bind fun y h2 => match cmpA h2 op (.w x) (.w y) with
    | some true => ((lvl c n).E d r h2).bind fun z h3 => Res.of (cmpA h3 op' (.w y) (.w z)) h3
    | some false => .ok false h2
    | none => .bad) Q
  simp only [Rn_bind]
  exact q.imp fun x h1 q => q.imp fun y h2 q => by
    cases z : cmpA h2 op (.w x) (.w y) with
    | none => rw [z] at q; exact q
    | some k =>
      rw [z] at q
      cases k with
      | false => exact q
      | true =>
        show Rn (((lvl c n).E d r h2).bind _) Q
        rw [Rn_bind]
        exact q
theorem T_and1 (q : Rn ((lvl c n).T t r h) Q) : Rn ((lvl c (n + 1)).T (.and [t]) r h) Q := q
theorem T_and (q : Rn ((lvl c n).T s r h) fun k h1 => if k = true then Rn ((lvl c (n + 1)).T (.and (t :: ts)) r h1) Q else Q false h1) : Rn ((lvl c (n + 1)).T (.and (s :: t :: ts)) r h) Q := by
  show Rn (((lvl c n).T s r h).bind fun b h1 => if b then andT (lvl c n) (t :: ts) r h1 else .ok false h1) Q
  rw [Rn_bind]
  exact q.imp fun k h1 q => by cases k <;> exact q
theorem T_or1 (q : Rn ((lvl c n).T t r h) Q) : Rn ((lvl c (n + 1)).T (.or [t]) r h) Q := q
theorem T_or (q : Rn ((lvl c n).T s r h) fun k h1 => if k = true then Q true h1 else Rn ((lvl c (n + 1)).T (.or (t :: ts)) r h1) Q) : Rn ((lvl c (n + 1)).T (.or (s :: t :: ts)) r h) Q := by
  show Rn (((lvl c n).T s r h).bind fun b h1 => if b then .ok true h1 else orT (lvl c n) (t :: ts) r h1) Q
  rw [Rn_bind]
  exact q.imp fun k h1 q => by cases k <;> exact q
theorem T_not (q : Rn ((lvl c n).T t r h) fun k h1 => Q (!k) h1) : Rn ((lvl c (n + 1)).T (.not t) r h) Q := by
  show Rn (((lvl c n).T t r h).bind fun b h1 => .ok (!b) h1) Q
  rw [Rn_bind]; exact q
end
/-! ### lists, walks -/
section
variable {c : CF} {n i : Nat} {r : Env} {h : VH} {Q : List W → VH → Prop} {x y : IV}
theorem L_lst {es : List IE} (q : Rn (evs (lvl c n).E es r h) Q) : Rn ((lvl c (n + 1)).L (.lst es) r h) Q := q
theorem L_cat (q : Rn ((lvl c n).V x r h) fun x h1 => Rn ((lvl c n).V y r h1) fun y h2 => Rn (Res.of ((ownOf h2 x).bind fun us => (ownOf h2 y).bind fun ws => if Nat.ble (us.length + ws.length) size then some (us ++ ws) else none) h2) Q) : Rn ((lvl c (n + 1)).L (.cat x y) r h) Q := by
  show Rn (((lvl c n).V x r h).bind fun x h1 => ((lvl c n).V y r h1).bind fun y h2 => Res.of ((ownOf h2 x).bind fun us => (ownOf h2 y).bind fun ws => if Nat.ble (us.length + ws.length) size then some (us ++ ws) else none) h2) Q
  simp only [Rn_bind]; exact q
theorem O_none {Q : Option Int → VH → Prop} (q : Q none h) : Rn (optE (lvl c n) none r h) Q := q
theorem O_some {Q : Option Int → VH → Prop} {e : IE} (q : Rn ((lvl c n).E e r h) fun x h1 => ∃ j, x = .int j ∧ Q (some j) h1) : Rn (optE (lvl c n) (some e) r h) Q := by
  show Rn (((lvl c n).E e r h).bind fun x h1 => match x with | .int i => .ok (some i) h1 | _ => .bad) Q
  rw [Rn_bind]
  exact q.imp fun x h1 ⟨j, e, q⟩ => by subst e; exact q
theorem L_slc {lo hi : Option IE} (q : Rn ((lvl c n).V x r h) fun x h1 => Rn (optE (lvl c n) lo r h1) fun l h2 => Rn (optE (lvl c n) hi r h2) fun u h3 => Rn (Res.of ((lstOf h3 x).map fun ws => cut ws l u) h3) Q) : Rn ((lvl c (n + 1)).L (.slc x lo hi) r h) Q := by
  show Rn (((lvl c n).V x r h).bind fun x h1 => (optE (lvl c n) lo r h1).bind fun l h2 => (optE (lvl c n) hi r h2).bind fun u h3 => Res.of ((lstOf h3 x).map fun ws => cut ws l u) h3) Q
  simp only [Rn_bind]; exact q
theorem L_lof (q : Rn ((lvl c n).V x r h) fun x h1 => Rn (Res.of (seqOf h1 x) h1) Q) : Rn ((lvl c (n + 1)).L (.lof x) r h) Q := by
  show Rn (((lvl c n).V x r h).bind fun x h1 => Res.of (seqOf h1 x) h1) Q
  rw [Rn_bind]; exact q
theorem L_srt (q : Rn ((lvl c n).V x r h) fun x h1 => Rn (Res.of (sortF h1 x) h1) Q) : Rn ((lvl c (n + 1)).L (.srt x) r h) Q := by
  show Rn (((lvl c n).V x r h).bind fun x h1 => Res.of (sortF h1 x) h1) Q
  rw [Rn_bind]; exact q
theorem L_comp {elt : IE} {g : IG} {own : List Nat} {it : II} {t : Option IT} (q : Rn (stepI (lvl c n) it r h) fun k h1 => Nat.ble k.ws.length size = true ∧ Rn (compL k (turnL (lvl c n) elt g t (wipe r own)) k.ws h1) Q) : Rn ((lvl c (n + 1)).L (.comp elt g own it t) r h) Q := by
  show Rn ((stepI (lvl c n) it r h).bind fun k h1 => if Nat.ble k.ws.length size then compL k (turnL (lvl c n) elt g t (wipe r own)) k.ws h1 else .bad) Q
  rw [Rn_bind]
  refine q.imp fun k h1 ⟨e, q⟩ => ?_
  rw [e]; exact q
theorem C_nil {k : Wk} {f : W → VH → Res (Option W)} {us : List W} (e0 : us = []) (hs : k.still h = true) (q : Q [] h) : Rn (compL k f us h) Q := by
  subst e0
  show Rn (if k.still h then .ok [] h else .bad) Q
  rw [hs]; exact q
theorem C_none {s : SF} {k : Wk} {elt : IE} {g : IG} {w : W} {us ws : List W} {r1 : Env} (e0 : us = w :: ws) (hs : k.still h = true) (e : bindG g w r = some r1) (q : Rn (s.E elt r1 h) fun u h1 => Rn (compL k (turnL s elt g none r) ws h1) fun us h2 => Q (u :: us) h2) : Rn (compL k (turnL s elt g none r) us h) Q := by
  subst e0
  show Rn (if k.still h then (turnL s elt g none r w h).bind (fun o h1 => (compL k (turnL s elt g none r) ws h1).bind fun us h2 => match o with
    | some u => .ok (u :: us) h2
    | none => .ok us h2) else .bad) Q
  rw [hs, if_pos rfl, Rn_bind]
  unfold turnL
  rw [e]
  show Rn ((s.E elt r1 h).bind _) _
  rw [Rn_bind]
  refine q.imp fun u h1 q => ?_
  show Rn ((compL k (turnL s elt g none r) ws h1).bind _) Q
  rw [Rn_bind]; exact q
theorem C_some {s : SF} {k : Wk} {elt : IE} {g : IG} {t : IT} {w : W} {us ws : List W} {r1 : Env} (e0 : us = w :: ws) (hs : k.still h = true) (e : bindG g w r = some r1) (q : Rn (s.T t r1 h) fun b h1 => if b = true then Rn (s.E elt r1 h1) (fun u h2 => Rn (compL k (turnL s elt g (some t) r) ws h2) fun us h3 => Q (u :: us) h3) else Rn (compL k (turnL s elt g (some t) r) ws h1) Q) : Rn (compL k (turnL s elt g (some t) r) us h) Q := by
  subst e0
  show Rn (if k.still h then (turnL s elt g (some t) r w h).bind (fun o h1 => (compL k (turnL s elt g (some t) r) ws h1).bind fun us h2 => match o with
    | some u => .ok (u :: us) h2
    | none => .ok us h2) else .bad) Q
  rw [hs, if_pos rfl, Rn_bind]
  have et : turnL s elt g (some t) r w h = (s.T t r1 h).bind fun b h1 => if b then (s.E elt r1 h1).bind (fun u h2 => .ok (some u) h2) else .ok none h1 := by
    unfold turnL
    rw [e]
  rw [et, Rn_bind]
  refine q.imp fun b h1 q => ?_
  cases b with
  | true =>
    show Rn ((s.E elt r1 h1).bind _) _
    rw [Rn_bind]
    have q : Rn (s.E elt r1 h1) (fun u h2 => Rn (compL k (turnL s elt g (some t) r) ws h2) fun us h3 => Q (u :: us) h3) := q
    refine q.imp fun u h2 q => ?_
    show Rn ((compL k (turnL s elt g (some t) r) ws h2).bind _) Q
    rw [Rn_bind]; exact q
  | false =>
    show Rn ((compL k (turnL s elt g (some t) r) ws h1).bind _) Q
    rw [Rn_bind]; exact q
end
section
variable {c : CF} {n i : Nat} {r : Env} {h : VH} {Q : Wk → VH → Prop} {x y : IV} {a b : IE}
theorem I_v (q : Rn ((lvl c n).V x r h) fun x h1 => Rn (Res.of (walkA h1 x) h1) Q) : Rn (stepI (lvl c n) (.v x) r h) Q := by
  show Rn (((lvl c n).V x r h).bind fun x h1 => Res.of (walkA h1 x) h1) Q
  rw [Rn_bind]; exact q
theorem I_rng (q : Rn ((lvl c n).E a r h) fun x h1 => ∃ j : Int, x = .int j ∧ j ≤ 1000000 ∧ -1000000 ≤ j ∧ Q ⟨iota 0 j.toNat, []⟩ h1) : Rn (stepI (lvl c n) (.rng a) r h) Q := by
  show Rn (((lvl c n).E a r h).bind fun x h1 => match x with
    | .int n => if decide (n ≤ 1000000) && decide (-1000000 ≤ n) then .ok ⟨iota 0 n.toNat, []⟩ h1 else .bad
    | _ => .bad) Q
  rw [Rn_bind]
  refine q.imp fun x h1 ⟨j, e, e1, e2, q⟩ => ?_
  subst e
  show Rn (if decide (j ≤ 1000000) && decide (-1000000 ≤ j) then _ else _) Q
  rw [decide_eq_true e1, decide_eq_true e2]; exact q
theorem I_zip (q : Rn ((lvl c n).V x r h) fun x h1 => Rn ((lvl c n).V y r h1) fun y h2 => Rn (Res.of ((lstOf h2 x).bind fun us => (lstOf h2 y).map fun ws => ⟨zipW us ws, keep x us ++ keep y ws⟩) h2) Q) : Rn (stepI (lvl c n) (.zip x y) r h) Q := by
  show Rn (((lvl c n).V x r h).bind fun x h1 => ((lvl c n).V y r h1).bind fun y h2 => Res.of ((lstOf h2 x).bind fun us => (lstOf h2 y).map fun ws => ⟨zipW us ws, keep x us ++ keep y ws⟩) h2) Q
  simp only [Rn_bind]; exact q
theorem I_enm (q : Rn ((lvl c n).V x r h) fun x h1 => Rn (Res.of ((lstOf h1 x).map fun ws => ⟨enmW 0 ws, keep x ws⟩) h1) Q) : Rn (stepI (lvl c n) (.enm x) r h) Q := by
  show Rn (((lvl c n).V x r h).bind fun x h1 => Res.of ((lstOf h1 x).map fun ws => ⟨enmW 0 ws, keep x ws⟩) h1) Q
  rw [Rn_bind]; exact q
end
/-! ### statements -/
theorem Sn_toS {x : Res W} {f : W → VH → SRes} {N B C : Env → VH → Prop} {T : W → VH → Prop} : Sn (x.toS f) N T B C = Rn x fun w h => Sn (f w h) N T B C := by cases x <;> rfl
section
variable {c : CF} {n i j : Nat} {r : Env} {h : VH} {N B C : Env → VH → Prop} {T : W → VH → Prop} {a b e : IE} {t : IT} {st : IS} {sts ss : List IS} {g : IG}
theorem S_nil (q : N r h) : Sn ((lvl c (n + 1)).S [] r h) N T B C := q
theorem S_cons (q : Sn (stepS (lvl c n) st r h) (fun r1 h1 => Sn ((lvl c (n + 1)).S sts r1 h1) N T B C) T B C) : Sn ((lvl c (n + 1)).S (st :: sts) r h) N T B C := by
  show Sn (match stepS (lvl c n) st r h with
    | .nx r1 h1 => stepSs (lvl c n) sts r1 h1
    | x => x) N T B C
  cases z : stepS (lvl c n) st r h <;> (rw [z] at q; exact q)
theorem S_asg (q : Rn ((lvl c n).E e r h) fun w h1 => ∃ r1, bindG g w r = some r1 ∧ N r1 h1) : Sn (stepS (lvl c n) (.asg g e) r h) N T B C := by
  show Sn (((lvl c n).E e r h).toS fun w h1 => match bindG g w r with
    | some r1 => .nx r1 h1
    | none => .bad) N T B C
  rw [Sn_toS]
  refine q.imp fun w h1 ⟨r1, e, q⟩ => ?_
  rw [e]; exact q
theorem S_par (q : Rn ((lvl c n).E a r h) fun x h1 => Rn ((lvl c n).E b r h1) fun y h2 => N ((r.set i (some x)).set j (some y)) h2) : Sn (stepS (lvl c n) (.par i j a b) r h) N T B C := by
  show Sn (((lvl c n).E a r h).toS fun x h1 => ((lvl c n).E b r h1).toS fun y h2 => .nx ((r.set i (some x)).set j (some y)) h2) N T B C
  simp only [Sn_toS]; exact q
theorem S_sub (q : Rn ((lvl c n).E e r h) fun v h1 => Rn ((lvl c n).E a r h1) fun x h2 => Rn ((lvl c n).E b r h2) fun k h3 => ∃ p m ws z, x = .ref p ∧ k = .int m ∧ h3.get p = some (.lst ws) ∧ ix ws.length m = some z ∧ N r (h3.set p (.lst (ws.set z v)))) : Sn (stepS (lvl c n) (.sub a b e) r h) N T B C := by
  show Sn (((lvl c n).E e r h).toS fun v h1 => ((lvl c n).E a r h1).toS fun x h2 => ((lvl c n).E b r h2).toS fun k h3 => match x, k with
    | .ref p, .int n => (match h3.get p with
      | some (.lst ws) => (match ix ws.length n with
        | some j => .nx r (h3.set p (.lst (ws.set j v)))
        | none => .bad)
      | _ => .bad)
    | _, _ => .bad) N T B C
  simp only [Sn_toS]
  refine q.imp fun v h1 q => q.imp fun x h2 q => q.imp fun k h3 ⟨p, m, ws, z, e1, e2, e3, e4, q2⟩ => ?_
  subst e1 e2
  simp only [e3, e4]; exact q2
theorem S_dsub (q : Rn ((lvl c n).E e r h) fun v h1 => Rn ((lvl c n).E a r h1) fun x h2 => Rn ((lvl c n).E b r h2) fun k h3 => ∃ p kvs, dicOf h3 x = some (p, kvs) ∧ keyOk k = true ∧ Nat.blt kvs.length size = true ∧ N r (h3.set p (.dic (dput k v kvs)))) : Sn (stepS (lvl c n) (.dsub a b e) r h) N T B C := by
  show Sn (((lvl c n).E e r h).toS fun v h1 => ((lvl c n).E a r h1).toS fun x h2 => ((lvl c n).E b r h2).toS fun k h3 => match dicOf h3 x with
    | some (p, kvs) => if keyOk k && Nat.blt kvs.length size then .nx r (h3.set p (.dic (dput k v kvs))) else .bad
    | none => .bad) N T B C
  simp only [Sn_toS]
  refine q.imp fun v h1 q => q.imp fun x h2 q => q.imp fun k h3 ⟨p, kvs, e1, e2, e3, q2⟩ => ?_
  simp only [e1, e2, e3]; exact q2
theorem S_ret (q : Rn ((lvl c n).E e r h) T) : Sn (stepS (lvl c n) (.ret e) r h) N T B C := by
  show Sn (((lvl c n).E e r h).toS fun w h1 => .rt w h1) N T B C
  rw [Sn_toS]; exact q
theorem S_exp (q : Rn ((lvl c n).E e r h) fun _ h1 => N r h1) : Sn (stepS (lvl c n) (.exp e) r h) N T B C := by
  show Sn (((lvl c n).E e r h).toS fun _ h1 => .nx r h1) N T B C
  rw [Sn_toS]; exact q
theorem S_if (q : Rn ((lvl c n).T t r h) fun k h1 => if k = true then Sn ((lvl c n).S ss r h1) N T B C else Sn ((lvl c n).S sts r h1) N T B C) : Sn (stepS (lvl c n) (.ifs t ss sts) r h) N T B C := by
  show Sn (match (lvl c n).T t r h with
    | .ok true h1 => (lvl c n).S ss r h1
    | .ok false h1 => (lvl c n).S sts r h1
    | .bad => .bad) N T B C
  cases z : (lvl c n).T t r h with
  | bad => rw [z] at q; exact q
  | ok k h1 => rw [z] at q; cases k <;> exact q
def forB (s : SF) (g : IG) (b : List IS) : W → Env → VH → SRes := fun w r h => match bindG g w r with
  | some r2 => s.S b r2 h
  | none => .bad
theorem S_for {it : II} (q : Rn (stepI (lvl c n) it r h) fun k h1 => Sn (forL k (forB (lvl c n) g sts) k.ws r h1) N T B C) : Sn (stepS (lvl c n) (.for g it sts) r h) N T B C := by
  show Sn (match stepI (lvl c n) it r h with
    | .ok k h1 => forL k (forB (lvl c n) g sts) k.ws r h1
    | .bad => .bad) N T B C
  cases z : stepI (lvl c n) it r h <;> (rw [z] at q; exact q)
theorem F_nil {k : Wk} {f : W → Env → VH → SRes} {us : List W} (e0 : us = []) (hs : k.still h = true) (q : N r h) : Sn (forL k f us r h) N T B C := by
  subst e0
  show Sn (if k.still h then .nx r h else .bad) N T B C
  rw [hs]; exact q
theorem F_cons {k : Wk} {s : SF} {w : W} {us ws : List W} {r1 : Env} (e0 : us = w :: ws) (hs : k.still h = true) (e : bindG g w r = some r1) (q : Sn (s.S sts r1 h) (fun r1 h1 => Sn (forL k (forB s g sts) ws r1 h1) N T B C) T N (fun r1 h1 => Sn (forL k (forB s g sts) ws r1 h1) N T B C)) : Sn (forL k (forB s g sts) us r h) N T B C := by
  subst e0
  show Sn (if k.still h then (match forB s g sts w r h with
    | .nx r1 h1 => forL k (forB s g sts) ws r1 h1
    | .ct r1 h1 => forL k (forB s g sts) ws r1 h1
    | .bk r1 h1 => .nx r1 h1
    | x => x) else .bad) N T B C
  have eb : forB s g sts w r h = s.S sts r1 h := by unfold forB; rw [e]
  rw [hs, if_pos rfl, eb]
  cases z : s.S sts r1 h <;> (rw [z] at q; exact q)
theorem S_lcp {elt : IE} {own : List Nat} {it : II} {o : Option IT} (q : Rn ((lvl c (n + 1)).L (.comp elt g own it o) r h) fun ws h1 => N (r.set i (some (.lis ws))) h1) : Sn (stepS (lvl c n) (.lcp i elt g own it o) r h) N T B C := by
  show Sn (((((lvl c (n + 1)).L (.comp elt g own it o) r h)).bind fun ws h1 => .ok (W.lis ws) h1).toS fun w h1 => .nx (r.set i (some w)) h1) N T B C
  rw [Sn_toS, Rn_bind]; exact q
theorem S_lc {elt : IE} {own : List Nat} {it : II} {o : Option IT} (q : Rn ((lvl c (n + 1)).L (.comp elt g own it o) r h) fun ws h1 => N (r.set i (some (.ref h1.nx))) (h1.push (.lst ws))) : Sn (stepS (lvl c n) (.lc i elt g own it o) r h) N T B C := by
  show Sn (((((lvl c (n + 1)).L (.comp elt g own it o) r h)).bind fun ws h1 => .ok (W.ref h1.nx) (h1.push (.lst ws))).toS fun w h1 => .nx (r.set i (some w)) h1) N T B C
  rw [Sn_toS, Rn_bind]; exact q
end
/-! ### rules: single operations -/
section
variable {h : VH} {Q : W → VH → Prop} {i j : Int}
theorem R_add (q : Q (.int (i + j)) h) : Rn (Res.of (arith .add (.int i) (.int j)) h) Q := q
theorem R_sub (q : Q (.int (i - j)) h) : Rn (Res.of (arith .sub (.int i) (.int j)) h) Q := q
theorem R_mod (hj : 0 < j) (q : Q (.int (i % j)) h) : Rn (Res.of (arith .mod (.int i) (.int j)) h) Q := by
  show Rn (Res.of (if decide (0 < j) then some (W.int (i % j)) else none) h) Q
  rw [decide_eq_true hj]; exact q
theorem R_div (hj : 0 < j ∧ j < 1000000000000000000) (q : Q (.int (i / j)) h) : Rn (Res.of (arith .fdiv (.int i) (.int j)) h) Q := by
  have : Nat.blt j.natAbs.log2 9000 = true := by
    rw [Nat.blt_eq]
    have h1 : j.natAbs < 2 ^ 60 := by
      have : (2 : Nat) ^ 60 = 1152921504606846976 := by decide
      omega
    by_cases z : j.natAbs = 0
    · rw [z]; decide
    · exact Nat.lt_of_lt_of_le ((Nat.log2_lt z).mpr h1) (by decide)
  show Rn (Res.of (if decide (0 < j) && Nat.blt j.natAbs.log2 9000 then some (W.int (i / j)) else none) h) Q
  rw [decide_eq_true hj.1, this]; exact q
theorem R_mul (hj : j.natAbs < 18446744073709551616 ∨ i.natAbs < 18446744073709551616) (q : Q (.int (i * j)) h) : Rn (Res.of (arith .mul (.int i) (.int j)) h) Q := by
  have : mulOk i j = true := by
    have e : (2 : Nat) ^ 64 = 18446744073709551616 := by decide
    unfold mulOk
    rcases hj with hj | hj
    · rw [← e] at hj
      rw [Nat.blt_eq.mpr hj, Bool.or_true]
    · rw [← e] at hj
      rw [Nat.blt_eq.mpr hj, Bool.or_true, Bool.true_or]
  show Rn (Res.of (if mulOk i j then some (W.int (i * j)) else none) h) Q
  rw [this]; exact q
theorem R_pow {w : W} (e : arith .pow (.int i) (.int j) = some w) (q : Q w h) : Rn (Res.of (arith .pow (.int i) (.int j)) h) Q := by rw [e]; exact q
theorem R_adds {a b : List Nat} {w : W} (e : arith .add (.str a) (.str b) = some w) (q : Q w h) : Rn (Res.of (arith .add (.str a) (.str b)) h) Q := by rw [e]; exact q
theorem R_muls {a : List Nat} {w : W} (e : arith .mul (.str a) (.int j) = some w) (q : Q w h) : Rn (Res.of (arith .mul (.str a) (.int j)) h) Q := by rw [e]; exact q
theorem R_cmp {op : C2} {x y : Arg} {b : Bool} {Q : Bool → VH → Prop} (e : cmpA h op x y = some b) (q : Q b h) : Rn (Res.of (cmpA h op x y) h) Q := by rw [e]; exact q
theorem R_idx {x : Arg} {k w : W} (e : idxA h x k = some w) (q : Q w h) : Rn (Res.of (idxA h x k) h) Q := by rw [e]; exact q
theorem R_ty {t : Ty} {x : W} {b : Bool} {Q : Bool → VH → Prop} (e : tyIs h t x = some b) (q : Q b h) : Rn (Res.of (tyIs h t x) h) Q := by rw [e]; exact q
theorem R_blt {f : Bt} {xs : List Arg} {w : W} (e : bltF h f xs = some w) (q : Q w h) : Rn (Res.of (bltF h f xs) h) Q := by rw [e]; exact q
theorem R_bnd {α β : Type} {o : Option α} {f : α → Option β} {b : β} {Q : β → VH → Prop} (e : o.bind f = some b) (q : Q b h) : Rn (Res.of (o.bind f) h) Q := by rw [e]; exact q
theorem R_map {α β : Type} {o : Option α} {f : α → β} {b : β} {Q : β → VH → Prop} (e : o.map f = some b) (q : Q b h) : Rn (Res.of (o.map f) h) Q := by rw [e]; exact q
theorem R_wlk {x : Arg} {k : Wk} {Q : Wk → VH → Prop} (e : walkA h x = some k) (q : Q k h) : Rn (Res.of (walkA h x) h) Q := by rw [e]; exact q
theorem R_seq {x : Arg} {ws : List W} {Q : List W → VH → Prop} (e : seqOf h x = some ws) (q : Q ws h) : Rn (Res.of (seqOf h x) h) Q := by rw [e]; exact q
theorem R_srt {x : Arg} {ws : List W} {Q : List W → VH → Prop} (e : sortF h x = some ws) (q : Q ws h) : Rn (Res.of (sortF h x) h) Q := by rw [e]; exact q
end
theorem X_bl {w : W} {k : Bool} {Q : Bool → Prop} (e : w = .bl k) (q : Q k) : ∃ k, w = .bl k ∧ Q k := ⟨k, e, q⟩
theorem X_int {w : W} {k : Int} {Q : Int → Prop} (e : w = .int k) (q : Q k) : ∃ k, w = .int k ∧ Q k := ⟨k, e, q⟩
theorem X_bind {g : IG} {w : W} {r r1 : Env} {Q : Env → Prop} (e : bindG g w r = some r1) (q : Q r1) : ∃ r1, bindG g w r = some r1 ∧ Q r1 := ⟨r1, e, q⟩
theorem X_and {b : Bool} {Q : Prop} (e : b = true) (q : Q) : b = true ∧ Q := ⟨e, q⟩
theorem iteY {b : Bool} {A B : Prop} (e : b = true) (q : A) : if b = true then A else B := by rw [if_pos e]; exact q
theorem iteN {b : Bool} {A B : Prop} (e : b = false) (q : B) : if b = true then A else B := by rw [e]; exact q
/-- a call of a def -/
theorem Rn_call {PF : List FD} {F d f : Nat} {ws : List W} {h : VH} {Q : W → VH → Prop} {fd : FD} (hf : nth PF f = some fd) (hl : ws.length = fd.ar) (hb : Sn ((lvl (callF PF F d) F).S fd.body (ws.map some ++ pad (fd.sl - fd.ar)) h) (fun _ h => Q .non h) Q (fun _ _ => False) (fun _ _ => False)) : Rn (callF PF F (d + 1) f ws h) Q := by
  have e : callF PF F (d + 1) f ws h = ((lvl (callF PF F d) F).S fd.body (ws.map some ++ pad (fd.sl - fd.ar)) h).val := by
    show (match nth PF f with
      | none => (.bad : Res W)
      | some fd => if Nat.beq ws.length fd.ar then ((lvl (callF PF F d) F).S fd.body (ws.map some ++ pad (fd.sl - fd.ar)) h).val else .bad) = _
    rw [hf]
    show (if Nat.beq ws.length fd.ar then _ else _) = _
    rw [hl, Nat.beq_refl, if_pos rfl]
  rw [e]
  cases q : (lvl (callF PF F d) F).S fd.body (ws.map some ++ pad (fd.sl - fd.ar)) h <;> (rw [q] at hb; exact hb)
/-- a loop by an invariant over what is left -/
theorem F_loop {k : Wk} {s : SF} {g : IG} {sts : List IS} {N B C : Env → VH → Prop} {T : W → VH → Prop} (I : List W → Env → VH → Prop) (hs : ∀ ws r h, I ws r h → k.still h = true) (h0 : ∀ r h, I [] r h → N r h)
    (h1 : ∀ w ws r h, I (w :: ws) r h → ∃ r1, bindG g w r = some r1 ∧ Sn (s.S sts r1 h) (fun r1 h1 => I ws r1 h1) T N (fun r1 h1 => I ws r1 h1)) : ∀ (ws : List W) (r : Env) (h : VH), I ws r h → Sn (forL k (forB s g sts) ws r h) N T B C
  | [], r, h, i => F_nil rfl (hs _ _ _ i) (h0 r h i)
  | w :: ws, r, h, i => by
    obtain ⟨r1, e, z⟩ := h1 w ws r h i
    refine F_cons rfl (hs _ _ _ i) e ?_
    cases q : s.S sts r1 h with
    | nx r2 h2 => rw [q] at z; exact F_loop I hs h0 h1 ws r2 h2 z
    | ct r2 h2 => rw [q] at z; exact F_loop I hs h0 h1 ws r2 h2 z
    | bk r2 h2 => rw [q] at z; exact z
    | rt w2 h2 => rw [q] at z; exact z
    | bad => rw [q] at z; exact z
end VM


set_option linter.all false
set_option maxRecDepth 100000
namespace K01
open VM
/-- is_integer(candidate); names ['candidate'] -/
abbrev b_is_integer : List IS := [.ret (.and [.isi (.var 0) .int, .not (.isi (.var 0) .bool)])]
/-- is_short(candidate); names ['candidate'] -/
abbrev b_is_short : List IS := [.ret (.and [.call 0 [.var 0], .chn .lt .lt (.neg (.cst (.int 10000000000000000000000000000000000000000000000000000000000000000000000000000000000000000000000000000))) (.var 0) (.cst (.int 10000000000000000000000000000000000000000000000000000000000000000000000000000000000000000000000000000))])]
/-- is_name(candidate); names ['candidate', 'letter'] -/
abbrev b_is_name : List IS := [.ifs (.or [.not (.val (.isi (.var 0) .str)), .not (.chn .le .le (.cst (.int 1)) (.blt .len [.e (.var 0)]) (.cst (.int 8)))]) [.ret (.cst (.bl false))] [],
    .ret (.and [.cmp .nin (.e (.var 0)) (.e (.cst (.tup [.str [107, 105, 110, 100], .str [117, 110, 108, 105, 107, 101], .str [98, 97, 99, 107, 115], .str [97, 108, 111, 110, 101], .str [114, 101, 97, 100], .str [97, 100, 100], .str [114, 97, 105, 115, 101], .str [108, 111, 119, 101, 114], .str [112, 117, 116], .str [99, 104, 101, 99, 107], .str [99, 104, 111, 111, 115, 101], .str [111, 114], .str [101, 110, 100], .str [110, 111, 110, 101]]))), .blt .all [.l (.comp (.chn .le .le (.cst (.str [97])) (.var 1) (.cst (.str [122]))) (.nm 1) [1] (.v (.e (.var 0))) none)]])]
/-- is_sum(value); names ['value', 'term', 'factor', 'name', 'names', 'one', 'other'] -/
abbrev b_is_sum : List IS := [.ifs (.or [.not (.val (.isi (.var 0) .tuple)), .cmp .ne (.e (.blt .len [.e (.var 0)])) (.e (.cst (.int 3))), .cmp .ne (.e (.idx (.e (.var 0)) (.cst (.int 0)))) (.e (.cst (.str [115, 117, 109]))), .not (.val (.isi (.idx (.e (.var 0)) (.cst (.int 0))) .str))]) [.ret (.cst (.bl false))] [],
    .ifs (.or [.not (.val (.call 1 [.idx (.e (.var 0)) (.cst (.int 1))])), .not (.val (.isi (.idx (.e (.var 0)) (.cst (.int 2))) .tuple))]) [.ret (.cst (.bl false))] [],
    .for (.nm 1) (.v (.e (.idx (.e (.var 0)) (.cst (.int 2))))) [.ifs (.or [.not (.val (.isi (.var 1) .tuple)), .cmp .ne (.e (.blt .len [.e (.var 1)])) (.e (.cst (.int 2))), .not (.val (.call 1 [.idx (.e (.var 1)) (.cst (.int 0))])), .cmp .eq (.e (.idx (.e (.var 1)) (.cst (.int 0)))) (.e (.cst (.int 0)))]) [.ret (.cst (.bl false))] [],
    .ifs (.not (.val (.call 2 [.idx (.e (.var 1)) (.cst (.int 1))]))) [.ret (.cst (.bl false))] []],
    .lcp 4 (.var 3) (.tp [.nm 2, .nm 3]) [2, 3] (.v (.e (.idx (.e (.var 0)) (.cst (.int 2))))) none,
    .ret (.blt .all [.l (.comp (.cmp .lt (.e (.var 5)) (.e (.var 6))) (.tp [.nm 5, .nm 6]) [5, 6] (.zip (.e (.var 4)) (.l (.slc (.e (.var 4)) (some (.cst (.int 1))) none))) none)])]
/-- is_place(value); names ['value'] -/
abbrev b_is_place : List IS := [.ifs (.or [.not (.val (.isi (.var 0) .tuple)), .cmp .ne (.e (.blt .len [.e (.var 0)])) (.e (.cst (.int 2))), .not (.val (.call 2 [.idx (.e (.var 0)) (.cst (.int 0))]))]) [.ret (.cst (.bl false))] [],
    .ret (.or [.call 1 [.idx (.e (.var 0)) (.cst (.int 1))], .call 2 [.idx (.e (.var 0)) (.cst (.int 1))]])]
/-- is_deed(value); names ['value'] -/
abbrev b_is_deed : List IS := [.ifs (.or [.not (.val (.isi (.var 0) .tuple)), .cmp .ne (.e (.blt .len [.e (.var 0)])) (.e (.cst (.int 3))), .not (.val (.isi (.idx (.e (.var 0)) (.cst (.int 0))) .str)), .not (.val (.call 4 [.idx (.e (.var 0)) (.cst (.int 1))]))]) [.ret (.cst (.bl false))] [],
    .ifs (.cmp .eq (.e (.idx (.e (.var 0)) (.cst (.int 0)))) (.e (.cst (.str [114, 101, 97, 100])))) [.ret (.call 2 [.idx (.e (.var 0)) (.cst (.int 2))])] [],
    .ret (.and [.cmp .inn (.e (.idx (.e (.var 0)) (.cst (.int 0)))) (.e (.cst (.tup [.str [97, 100, 100], .str [114, 97, 105, 115, 101], .str [108, 111, 119, 101, 114], .str [112, 117, 116]]))), .call 3 [.idx (.e (.var 0)) (.cst (.int 2))]])]
/-- _law_pool(_law_script, _law_k); names ['_law_script', '_law_k', '_law_cell', '_law_size', '_law_seed'] -/
abbrev b__law_pool : List IS := [.asg (.nm 2) (.cst (.int 0)),
    .ifs (.cmp .lt (.e (.var 1)) (.e (.blt .len [.e (.var 0)]))) [.asg (.nm 2) (.idx (.e (.var 0)) (.var 1))] [],
    .asg (.nm 3) (.blt .abs [.e (.var 2)]),
    .asg (.nm 4) (.bin .mod (.bin .mul (.bin .add (.bin .add (.bin .mod (.var 3) (.cst (.int 2147483629))) (.bin .mul (.cst (.int 7919)) (.var 1))) (.cst (.int 31))) (.cst (.int 48271))) (.cst (.int 2147483647))),
    .ret (.new (.lst [.bin .mul (.var 3) (.blt .int [.e (.cmp .ge (.e (.var 3)) (.e (.bin .pow (.cst (.int 10)) (.cst (.int 18)))))]), .var 4]))]
/-- _law_draw(_law_pool_here, _law_count); names ['_law_pool_here', '_law_count', '_law_found'] -/
abbrev b__law_draw : List IS := [.ifs (.cmp .gt (.e (.idx (.e (.var 0)) (.cst (.int 0)))) (.e (.cst (.int 0)))) [.asg (.nm 2) (.bin .mod (.idx (.e (.var 0)) (.cst (.int 0))) (.var 1)),
    .sub (.var 0) (.cst (.int 0)) (.bin .fdiv (.idx (.e (.var 0)) (.cst (.int 0))) (.var 1)),
    .ret (.var 2)] [],
    .sub (.var 0) (.cst (.int 1)) (.bin .mod (.bin .add (.bin .mul (.idx (.e (.var 0)) (.cst (.int 1))) (.cst (.int 48271))) (.cst (.int 11))) (.cst (.int 2147483647))),
    .ret (.bin .mod (.bin .fdiv (.bin .mod (.bin .mul (.idx (.e (.var 0)) (.cst (.int 1))) (.idx (.e (.var 0)) (.cst (.int 1)))) (.cst (.int 2147483629))) (.cst (.int 64))) (.var 1))]
/-- _law_sum(_law_pool_here, _law_names); names ['_law_pool_here', '_law_names', '_law_total', '_law_turn', '_law_name', '_law_terms'] -/
abbrev b__law_sum : List IS := [.asg (.nm 2) (.ndic),
    .for (.nm 3) (.rng (.bin .mul (.call 7 [.var 0, .cst (.int 3)]) (.blt .int [.e (.cmp .ne (.e (.var 1)) (.l (.lst [])))]))) [.asg (.nm 4) (.idx (.e (.var 1)) (.call 7 [.var 0, .blt .len [.e (.var 1)]])),
    .dsub (.var 2) (.var 4) (.bin .add (.dget (.var 2) (.var 4) (.cst (.int 0))) (.idx (.l (.lst [.cst (.int 1), .neg (.cst (.int 1)), .cst (.int 2)])) (.call 7 [.var 0, .cst (.int 3)])))],
    .asg (.nm 5) (.blt .tuple [.l (.comp (.tup [.didx (.var 2) (.var 4), .var 4]) (.nm 4) [4] (.v (.l (.srt (.e (.var 2))))) (some (.cmp .ne (.e (.didx (.var 2) (.var 4))) (.e (.cst (.int 0))))))]),
    .ret (.tup [.cst (.str [115, 117, 109]), .idx (.l (.lst [.cst (.int 0), .cst (.int 1), .neg (.cst (.int 2)), .cst (.int 5)])) (.call 7 [.var 0, .cst (.int 4)]), .var 5])]
/-- _law_deed(_law_pool_here, _law_params, _law_known); names ['_law_pool_here', '_law_params', '_law_known', '_law_some', '_law_place', '_law_word'] -/
abbrev b__law_deed : List IS := [.asg (.nm 3) (.lis (.cat (.l (.cat (.e (.var 1)) (.e (.var 1)))) (.l (.slc (.l (.lst [.cst (.int 0), .cst (.int 1)])) none (some (.bin .add (.cst (.int 1)) (.call 7 [.var 0, .cst (.int 2)]))))))),
    .asg (.nm 4) (.tup [.idx (.l (.lst [.cst (.str [97]), .cst (.str [98])])) (.call 7 [.var 0, .cst (.int 2)]), .idx (.e (.var 3)) (.call 7 [.var 0, .blt .len [.e (.var 3)]])]),
    .asg (.nm 5) (.idx (.l (.lst [.cst (.str [114, 101, 97, 100]), .cst (.str [114, 101, 97, 100]), .cst (.str [97, 100, 100]), .cst (.str [97, 100, 100]), .cst (.str [112, 117, 116]), .cst (.str [114, 97, 105, 115, 101]), .cst (.str [108, 111, 119, 101, 114])])) (.call 7 [.var 0, .cst (.int 7)])),
    .ifs (.cmp .eq (.e (.var 5)) (.e (.cst (.str [114, 101, 97, 100])))) [.exp (.app (.var 2) (.idx (.l (.lst [.cst (.str [120]), .cst (.str [121])])) (.call 7 [.var 0, .cst (.int 2)]))),
    .ret (.tup [.cst (.str [114, 101, 97, 100]), .var 4, .idx (.e (.var 2)) (.neg (.cst (.int 1)))])] [],
    .ret (.tup [.var 5, .var 4, .call 8 [.var 0, .lis (.cat (.e (.var 1)) (.e (.var 2)))]])]
/-- _law_odd_sums(); names ['_law_great', '_law_found', '_law_terms'] -/
abbrev b__law_odd_sums : List IS := [.asg (.nm 0) (.blt .int [.e (.bin .add (.cst (.str [49])) (.bin .mul (.cst (.str [48])) (.cst (.int 100))))]),
    .asg (.nm 1) (.new (.lst [.cst (.non), .cst (.int 5), .cst (.str [115, 117, 109]), .tup [], .tup [.cst (.str [115, 117, 109])], .tup [.cst (.str [115, 117, 109]), .cst (.int 0)], .tup [.cst (.str [115, 117, 109]), .cst (.int 0), .tup [], .cst (.int 0)], .tup [.cst (.str [97, 100, 100]), .cst (.int 0), .tup []], .tup [.cst (.str [115, 117, 109]), .cst (.bl true), .tup []], .tup [.cst (.str [115, 117, 109]), .cst (.int 0), .lis (.lst [])]])),
    .asg (.nm 1) (.new (.cat (.e (.var 1)) (.l (.lst [.lis (.lst [.cst (.str [115, 117, 109]), .cst (.int 0), .tup []]), .tup [.cst (.str [115, 117, 109]), .var 0, .tup []], .tup [.cst (.str [115, 117, 109]), .neg (.var 0), .tup []], .tup [.cst (.str [115, 117, 109]), .cst (.str [48]), .tup []], .tup [.cst (.str [115, 117, 109]), .cst (.non), .tup []]])))),
    .for (.nm 2) (.v (.l (.lst [.tup [.tup [.cst (.int 1)]], .tup [.tup [.cst (.int 1), .cst (.str [112]), .cst (.int 2)]], .tup [.tup [.cst (.str [112]), .cst (.int 1)]], .tup [.tup [.cst (.int 0), .cst (.str [112])]], .tup [.tup [.cst (.bl true), .cst (.str [112])]], .tup [.tup [.cst (.int 1), .cst (.str [80])]], .tup [.tup [.cst (.int 1), .cst (.str [115, 117, 109, 49])]]]))) [.exp (.app (.var 1) (.tup [.cst (.str [115, 117, 109]), .cst (.int 0), .var 2]))],
    .for (.nm 2) (.v (.l (.lst [.tup [.tup [.cst (.int 1), .cst (.str [97, 100, 100])]], .tup [.tup [.var 0, .cst (.str [112])]], .tup [.tup [.cst (.int 1), .cst (.str [113])], .tup [.cst (.int 1), .cst (.str [112])]], .tup [.tup [.cst (.int 1), .cst (.str [112])], .tup [.cst (.int 2), .cst (.str [112])]], .tup [.lis (.lst [.cst (.int 1), .cst (.str [112])])], .tup [.cst (.non)], .cst (.int 5)]))) [.exp (.app (.var 1) (.tup [.cst (.str [115, 117, 109]), .cst (.int 0), .var 2]))],
    .ret (.lis (.cat (.e (.var 1)) (.l (.lst [.tup [.tup [.cst (.str [115, 117, 109])], .cst (.int 0), .tup []]]))))]
/-- _law_odd_deeds(); names ['_law_total', '_law_great', '_law_found'] -/
abbrev b__law_odd_deeds : List IS := [.par 0 1 (.tup [.cst (.str [115, 117, 109]), .cst (.int 1), .tup [.tup [.cst (.int 2), .cst (.str [112])]]]) (.blt .int [.e (.bin .add (.cst (.str [49])) (.bin .mul (.cst (.str [48])) (.cst (.int 100))))]),
    .asg (.nm 2) (.lis (.lst [.cst (.non), .cst (.int 5), .cst (.str [114, 101, 97, 100]), .tup [], .tup [.cst (.str [114, 101, 97, 100])], .tup [.cst (.str [114, 101, 97, 100]), .tup [.cst (.str [97]), .cst (.str [112])]], .tup [.cst (.str [114, 101, 97, 100]), .tup [.cst (.str [97]), .cst (.str [112])], .cst (.str [120]), .cst (.str [121])], .lis (.lst [.cst (.str [114, 101, 97, 100]), .tup [.cst (.str [97]), .cst (.str [112])], .cst (.str [120])])])),
    .asg (.nm 2) (.lis (.cat (.e (.var 2)) (.l (.lst [.tup [.cst (.str [108, 111, 111, 107]), .tup [.cst (.str [97]), .cst (.str [112])], .cst (.str [120])], .tup [.cst (.str [114, 101, 97, 100]), .lis (.lst [.cst (.str [97]), .cst (.str [112])]), .cst (.str [120])], .tup [.cst (.str [114, 101, 97, 100]), .tup [.cst (.str [97])], .cst (.str [120])], .tup [.cst (.str [114, 101, 97, 100]), .tup [.cst (.str [97]), .cst (.str [112]), .cst (.int 1)], .cst (.str [120])]])))),
    .asg (.nm 2) (.lis (.cat (.e (.var 2)) (.l (.lst [.tup [.cst (.str [114, 101, 97, 100]), .tup [.cst (.str [65]), .cst (.str [112])], .cst (.str [120])], .tup [.cst (.str [114, 101, 97, 100]), .tup [.cst (.str [97]), .cst (.str [80])], .cst (.str [120])], .tup [.cst (.str [114, 101, 97, 100]), .tup [.cst (.str [97]), .cst (.non)], .cst (.str [120])], .tup [.cst (.str [114, 101, 97, 100]), .tup [.cst (.str [97]), .cst (.bl true)], .cst (.str [120])]])))),
    .asg (.nm 2) (.lis (.cat (.e (.var 2)) (.l (.lst [.tup [.cst (.str [114, 101, 97, 100]), .tup [.cst (.str [97]), .var 1], .cst (.str [120])], .tup [.cst (.str [114, 101, 97, 100]), .tup [.cst (.str [112, 117, 116]), .cst (.int 1)], .cst (.str [120])], .tup [.cst (.str [114, 101, 97, 100]), .tup [.cst (.str [97]), .cst (.int 1)], .cst (.str [116, 111, 111, 108, 111, 110, 103, 110, 97, 109, 101])]])))),
    .asg (.nm 2) (.lis (.cat (.e (.var 2)) (.l (.lst [.tup [.cst (.str [114, 101, 97, 100]), .tup [.cst (.str [97]), .cst (.int 1)], .var 0], .tup [.cst (.str [97, 100, 100]), .tup [.cst (.str [97]), .cst (.int 1)], .cst (.str [120])], .tup [.cst (.str [97, 100, 100]), .tup [.cst (.str [97]), .cst (.int 1)], .cst (.int 5)], .tup [.cst (.str [97, 100, 100]), .tup [.cst (.str [97]), .cst (.int 1)], .tup [.cst (.str [115, 117, 109]), .cst (.int 1), .tup [.tup [.cst (.int 0), .cst (.str [112])]]]]])))),
    .asg (.nm 2) (.lis (.cat (.e (.var 2)) (.l (.lst [.tup [.cst (.str [115, 117, 109]), .tup [.cst (.str [97]), .cst (.int 1)], .var 0], .tup [.cst (.non), .tup [.cst (.str [97]), .cst (.int 1)], .var 0], .tup [.cst (.int 5), .tup [.cst (.str [97]), .cst (.int 1)], .cst (.str [120])], .tup [.tup [.cst (.str [114, 101, 97, 100])], .tup [.cst (.str [97]), .cst (.int 1)], .cst (.str [120])]])))),
    .ret (.lis (.cat (.e (.var 2)) (.l (.lst [.tup [.cst (.str [99, 104, 101, 99, 107]), .cst (.str [97])], .tup [.cst (.str [99, 104, 111, 111, 115, 101]), .tup [], .tup []], .tup [.cst (.str [112, 117, 116]), .tup [.cst (.str [97]), .cst (.int 1)], .cst (.non)], .tup [.cst (.str [114, 97, 105, 115, 101]), .tup [.cst (.str [97]), .cst (.int 1)], .tup []], .tup [.cst (.str [108, 111, 119, 101, 114]), .cst (.str [97]), .var 0]]))))]
/-- law(_law_script); names ['_law_script', '_law_odd', '_law_k', '_law_pool_here', '_law_known', '_law_turn', '_law_deed_here', '_law_great'] -/
abbrev b_law : List IS := [.for (.nm 1) (.v (.e (.call 10 []))) [.ifs (.or [.cmp .isn (.e (.call 3 [.var 1])) (.e (.cst (.bl false))), .cmp .isn (.e (.callK 3 [.var 1])) (.e (.cst (.bl false)))]) [.ret (.cst (.bl false))] []],
    .for (.nm 1) (.v (.e (.call 11 []))) [.ifs (.cmp .isn (.e (.call 5 [.var 1])) (.e (.cst (.bl false)))) [.ret (.cst (.bl false))] []],
    .for (.nm 2) (.rng (.blt .max [.e (.cst (.int 1)), .e (.blt .min [.e (.cst (.int 8)), .e (.blt .len [.e (.var 0)])])])) [.asg (.nm 3) (.call 6 [.var 0, .var 2]),
    .asg (.nm 4) (.new (.lst [.cst (.str [120])])),
    .for (.nm 5) (.rng (.cst (.int 6))) [.asg (.nm 6) (.call 9 [.var 3, .lis (.lst [.cst (.str [112]), .cst (.str [113])]), .var 4]),
    .ifs (.cmp .isn (.e (.call 5 [.var 6])) (.e (.cst (.bl true)))) [.ret (.cst (.bl false))] [],
    .ifs (.and [.cmp .ne (.e (.idx (.e (.var 6)) (.cst (.int 0)))) (.e (.cst (.str [114, 101, 97, 100]))), .cmp .isn (.e (.call 3 [.idx (.e (.var 6)) (.cst (.int 2))])) (.e (.cst (.bl true)))]) [.ret (.cst (.bl false))] [],
    .asg (.nm 7) (.bin .sub (.bin .sub (.bin .mul (.bin .pow (.cst (.int 10)) (.cst (.int 50))) (.bin .pow (.cst (.int 10)) (.cst (.int 50)))) (.cst (.int 1))) (.call 7 [.var 3, .bin .pow (.cst (.int 10)) (.cst (.int 6))])),
    .ifs (.not (.val (.call 3 [.tup [.cst (.str [115, 117, 109]), .var 7, .tup [.tup [.neg (.var 7), .cst (.str [97, 98, 99, 100, 101, 102, 103, 104])]]]]))) [.ret (.cst (.bl false))] [],
    .ifs (.not (.val (.call 5 [.tup [.cst (.str [114, 101, 97, 100]), .tup [.cst (.str [122, 122]), .neg (.var 7)], .cst (.str [97, 98, 99, 100, 101, 102, 103, 104])]]))) [.ret (.cst (.bl false))] [],
    .ifs (.or [.val (.call 5 [.lis (.lof (.e (.var 6)))]), .val (.call 3 [.var 6])]) [.ret (.cst (.bl false))] []]],
    .ret (.cst (.bl true))]
def PF : List FD := [⟨1, 1, b_is_integer⟩, ⟨1, 1, b_is_short⟩, ⟨1, 2, b_is_name⟩, ⟨1, 7, b_is_sum⟩, ⟨1, 1, b_is_place⟩, ⟨1, 1, b_is_deed⟩, ⟨2, 5, b__law_pool⟩, ⟨2, 3, b__law_draw⟩, ⟨2, 6, b__law_sum⟩, ⟨3, 6, b__law_deed⟩, ⟨0, 3, b__law_odd_sums⟩, ⟨0, 3, b__law_odd_deeds⟩, ⟨1, 8, b_law⟩]
abbrev f_is_integer : Nat := 0
abbrev f_is_short : Nat := 1
abbrev f_is_name : Nat := 2
abbrev f_is_sum : Nat := 3
abbrev f_is_place : Nat := 4
abbrev f_is_deed : Nat := 5
abbrev f__law_pool : Nat := 6
abbrev f__law_draw : Nat := 7
abbrev f__law_sum : Nat := 8
abbrev f__law_deed : Nat := 9
abbrev f__law_odd_sums : Nat := 10
abbrev f__law_odd_deeds : Nat := 11
abbrev f_law : Nat := 12
end K01


set_option Elab.async false
set_option linter.all false
set_option maxRecDepth 100000
set_option maxHeartbeats 0
namespace K01
open PySem L2 VM
def top (i : Nat) : Stmt := PySem.Challenge.pw_finestcuts_k01_sums_and_deeds.main.body.getD i (.Pass ⟨0, 0, 0, 0⟩)
def d_is_integer : DD := ⟨"is_integer", top 4, ["candidate"], ["candidate"], b_is_integer⟩
def d_is_short : DD := ⟨"is_short", top 5, ["candidate"], ["candidate"], b_is_short⟩
def d_is_name : DD := ⟨"is_name", top 6, ["candidate", "letter"], ["candidate"], b_is_name⟩
def d_is_sum : DD := ⟨"is_sum", top 9, ["value", "term", "factor", "name", "names", "one", "other"], ["value"], b_is_sum⟩
def d_is_place : DD := ⟨"is_place", top 10, ["value"], ["value"], b_is_place⟩
def d_is_deed : DD := ⟨"is_deed", top 11, ["value"], ["value"], b_is_deed⟩
def d__law_pool : DD := ⟨"_law_pool", top 13, ["_law_script", "_law_k", "_law_cell", "_law_size", "_law_seed"], ["_law_script", "_law_k"], b__law_pool⟩
def d__law_draw : DD := ⟨"_law_draw", top 14, ["_law_pool_here", "_law_count", "_law_found"], ["_law_pool_here", "_law_count"], b__law_draw⟩
def d__law_sum : DD := ⟨"_law_sum", top 15, ["_law_pool_here", "_law_names", "_law_total", "_law_turn", "_law_name", "_law_terms"], ["_law_pool_here", "_law_names"], b__law_sum⟩
def d__law_deed : DD := ⟨"_law_deed", top 16, ["_law_pool_here", "_law_params", "_law_known", "_law_some", "_law_place", "_law_word"], ["_law_pool_here", "_law_params", "_law_known"], b__law_deed⟩
def d__law_odd_sums : DD := ⟨"_law_odd_sums", top 17, ["_law_great", "_law_found", "_law_terms"], [], b__law_odd_sums⟩
def d__law_odd_deeds : DD := ⟨"_law_odd_deeds", top 18, ["_law_total", "_law_great", "_law_found"], [], b__law_odd_deeds⟩
def d_law : DD := ⟨"law", top 19, ["_law_script", "_law_odd", "_law_k", "_law_pool_here", "_law_known", "_law_turn", "_law_deed_here", "_law_great"], ["_law_script"], b_law⟩
def DS : List DD := [d_is_integer, d_is_short, d_is_name, d_is_sum, d_is_place, d_is_deed, d__law_pool, d__law_draw, d__law_sum, d__law_deed, d__law_odd_sums, d__law_odd_deeds, d_law]
def pg : Pg := ⟨[("is_integer", 0, ["candidate"]), ("is_short", 1, ["candidate"]), ("is_name", 2, ["candidate"]), ("is_sum", 3, ["value"]), ("is_place", 4, ["value"]), ("is_deed", 5, ["value"]), ("_law_pool", 6, ["_law_script", "_law_k"]), ("_law_draw", 7, ["_law_pool_here", "_law_count"]), ("_law_sum", 8, ["_law_pool_here", "_law_names"]), ("_law_deed", 9, ["_law_pool_here", "_law_params", "_law_known"]), ("_law_odd_sums", 10, []), ("_law_odd_deeds", 11, []), ("law", 12, ["_law_script"])], [("RESERVED", .tup [.str [107, 105, 110, 100], .str [117, 110, 108, 105, 107, 101], .str [98, 97, 99, 107, 115], .str [97, 108, 111, 110, 101], .str [114, 101, 97, 100], .str [97, 100, 100], .str [114, 97, 105, 115, 101], .str [108, 111, 119, 101, 114], .str [112, 117, 116], .str [99, 104, 101, 99, 107], .str [99, 104, 111, 111, 115, 101], .str [111, 114], .str [101, 110, 100], .str [110, 111, 110, 101]]), ("MAX_LENGTH", .int 8), ("MAX_NUMBER", .int 10000000000000000000000000000000000000000000000000000000000000000000000000000000000000000000000000000), ("SUMMED", .tup [.str [97, 100, 100], .str [114, 97, 105, 115, 101], .str [108, 111, 119, 101, 114], .str [112, 117, 116]])], ["abs", "all", "bool", "int", "isinstance", "len", "list", "max", "min", "range", "sorted", "str", "tuple", "zip"], ["is_sum"]⟩
theorem pf : DS.map DD.fd = PF := by rfl
theorem ck : DS.all (ckD pg 60) = true := by decide +kernel
theorem fns : fnsB pg DS = true := by decide +kernel
end K01


set_option linter.all false
set_option maxRecDepth 100000
set_option maxHeartbeats 4000000
namespace K01
open VM
abbrev C (d : Nat) : CF := callF PF 60 d
def Pool (h : VH) (p : Ad) : Prop := ∃ a b : Int, h.get p = some (.lst [.int a, .int b]) ∧ 0 ≤ a ∧ 0 ≤ b ∧ b < 2147483647 ∧ p.num < h.nx.num
def Frm (p : Ad) (h h' : VH) : Prop := (∀ q, q ≠ p → q.num < h.nx.num → h'.get q = h.get q) ∧ h.nx.num ≤ h'.nx.num
theorem cell_of {h : VH} {p : Ad} {ws : List W} (e : h.get p = some (.lst ws)) : cell h p = some ws := by unfold cell; rw [e]
theorem R_ixc {h : VH} {p : Ad} {ws : List W} {k : Int} {w : W} {Q : W → VH → Prop} (e : cell h p = some ws) (e2 : ((ix ws.length k).bind fun j => nth ws j) = some w) (q : Q w h) : Rn (Res.of (idxA h (.w (.ref p)) (.int k)) h) Q := by
  have : idxA h (.w (.ref p)) (.int k) = (cell h p).bind fun ws => (ix ws.length k).bind fun j => nth ws j := rfl
  rw [this, e]
  show Rn (Res.of ((ix ws.length k).bind fun j => nth ws j) h) Q
  rw [e2]
  exact q
theorem draw_spec {d : Nat} {p : Ad} {n : Int} {h : VH} {Q : W → VH → Prop} (hp : Pool h p) (hn : 0 < n) (hn2 : n < 1000000000000000000)
    (q : ∀ r h', 0 ≤ r → r < n → Pool h' p → Frm p h h' → Q (.int r) h') : Rn (C (d + 1) 7 [.ref p, .int n] h) Q := by
  obtain ⟨a, b, hg, ha, hb, hb2, hx⟩ := hp
  have hc := cell_of hg
  refine Rn_call rfl rfl ?_
  repeat (first | with_reducible refine R_ixc hc rfl ?_ | ((with_reducible apply E_var); rfl) | with_reducible refine E_cst ?_ | with_reducible refine V_e ?_ | with_reducible refine V_l ?_ | with_reducible refine A_nil ?_ | with_reducible refine A_cons ?_ | with_reducible refine S_cons ?_ | with_reducible refine S_nil ?_ | with_reducible refine S_ret ?_ | with_reducible refine S_if ?_ | with_reducible refine S_asg ?_ | with_reducible refine T_val ?_ | with_reducible refine T_not ?_ | with_reducible refine T_cmp ?_ | with_reducible refine T_or1 ?_ | with_reducible refine T_or ?_ | with_reducible refine T_and1 ?_ | with_reducible refine T_and ?_ | with_reducible refine T_chn ?_ | with_reducible refine E_idx ?_ | with_reducible refine E_tup ?_ | with_reducible refine E_bin ?_ | with_reducible refine E_cmp ?_ | with_reducible refine E_isi ?_ | with_reducible refine E_blt ?_ | with_reducible refine E_call ?_ | with_reducible refine E_callK ?_ | with_reducible refine E_chn ?_ | with_reducible refine E_and1 ?_ | with_reducible refine E_and ?_ | with_reducible refine E_or1 ?_ | with_reducible refine E_or ?_ | with_reducible refine E_not ?_ | with_reducible refine E_neg ?_ | with_reducible refine E_lis ?_ | with_reducible refine E_new ?_ | with_reducible refine E_ndic ?_ | with_reducible refine E_ite ?_ | with_reducible refine E_didx ?_ | with_reducible refine E_dget ?_ | with_reducible refine E_app ?_ | with_reducible refine L_lst ?_ | with_reducible refine L_cat ?_ | with_reducible refine L_slc ?_ | with_reducible refine L_lof ?_ | with_reducible refine L_srt ?_ | with_reducible refine L_comp ?_ | with_reducible refine O_none ?_ | with_reducible refine O_some ?_ | with_reducible refine I_v ?_ | with_reducible refine I_rng ?_ | with_reducible refine I_zip ?_ | with_reducible refine I_enm ?_ | with_reducible refine S_for ?_ | with_reducible refine S_lcp ?_ | with_reducible refine S_lc ?_ | with_reducible refine S_par ?_ | with_reducible refine S_sub ?_ | with_reducible refine S_dsub ?_ | with_reducible refine S_exp ?_ | with_reducible refine R_add ?_ | with_reducible refine R_sub ?_ | ((with_reducible apply R_cmp); rfl) | ((with_reducible apply R_idx); rfl) | ((with_reducible apply R_ty); rfl) | ((with_reducible apply R_blt); rfl) | ((with_reducible apply R_bnd); rfl) | ((with_reducible apply R_map); rfl) | ((with_reducible apply R_wlk); rfl) | ((with_reducible apply R_seq); rfl) | ((with_reducible apply R_srt); rfl) | ((with_reducible apply R_pow); rfl) | ((with_reducible apply R_adds); rfl) | ((with_reducible apply R_muls); rfl) | ((with_reducible apply iteY); rfl) | ((with_reducible apply iteN); rfl) | ((with_reducible apply X_bl); rfl) | ((with_reducible apply X_int); rfl) | ((with_reducible apply X_bind); rfl) | ((with_reducible apply X_and); rfl) | ((with_reducible refine R_mod ?_ ?_); omega) | ((with_reducible refine R_div ?_ ?_); omega) | ((with_reducible refine R_mul ?_ ?_); first | (left; omega) | (right; omega) | (left; decide)) | ((with_reducible apply C_nil); rfl; rfl) | ((with_reducible apply F_nil); rfl; rfl) | ((with_reducible apply C_none); rfl; rfl; rfl) | ((with_reducible apply C_some); rfl; rfl; rfl) | ((with_reducible apply F_cons); rfl; rfl; rfl) | ((with_reducible refine ⟨?_, ?_, ?_⟩); (first | omega | decide); (first | omega | decide)))
  by_cases ha0 : 0 < a
  · refine iteY (decide_eq_true ha0) ?_
    repeat (first | with_reducible refine R_ixc hc rfl ?_ | refine ⟨_, _, _, _, rfl, rfl, hg, rfl, ?_⟩ | ((with_reducible apply E_var); rfl) | with_reducible refine E_cst ?_ | with_reducible refine V_e ?_ | with_reducible refine V_l ?_ | with_reducible refine A_nil ?_ | with_reducible refine A_cons ?_ | with_reducible refine S_cons ?_ | with_reducible refine S_nil ?_ | with_reducible refine S_ret ?_ | with_reducible refine S_if ?_ | with_reducible refine S_asg ?_ | with_reducible refine T_val ?_ | with_reducible refine T_not ?_ | with_reducible refine T_cmp ?_ | with_reducible refine T_or1 ?_ | with_reducible refine T_or ?_ | with_reducible refine T_and1 ?_ | with_reducible refine T_and ?_ | with_reducible refine T_chn ?_ | with_reducible refine E_idx ?_ | with_reducible refine E_tup ?_ | with_reducible refine E_bin ?_ | with_reducible refine E_cmp ?_ | with_reducible refine E_isi ?_ | with_reducible refine E_blt ?_ | with_reducible refine E_call ?_ | with_reducible refine E_callK ?_ | with_reducible refine E_chn ?_ | with_reducible refine E_and1 ?_ | with_reducible refine E_and ?_ | with_reducible refine E_or1 ?_ | with_reducible refine E_or ?_ | with_reducible refine E_not ?_ | with_reducible refine E_neg ?_ | with_reducible refine E_lis ?_ | with_reducible refine E_new ?_ | with_reducible refine E_ndic ?_ | with_reducible refine E_ite ?_ | with_reducible refine E_didx ?_ | with_reducible refine E_dget ?_ | with_reducible refine E_app ?_ | with_reducible refine L_lst ?_ | with_reducible refine L_cat ?_ | with_reducible refine L_slc ?_ | with_reducible refine L_lof ?_ | with_reducible refine L_srt ?_ | with_reducible refine L_comp ?_ | with_reducible refine O_none ?_ | with_reducible refine O_some ?_ | with_reducible refine I_v ?_ | with_reducible refine I_rng ?_ | with_reducible refine I_zip ?_ | with_reducible refine I_enm ?_ | with_reducible refine S_for ?_ | with_reducible refine S_lcp ?_ | with_reducible refine S_lc ?_ | with_reducible refine S_par ?_ | with_reducible refine S_sub ?_ | with_reducible refine S_dsub ?_ | with_reducible refine S_exp ?_ | with_reducible refine R_add ?_ | with_reducible refine R_sub ?_ | ((with_reducible apply R_cmp); rfl) | ((with_reducible apply R_idx); rfl) | ((with_reducible apply R_ty); rfl) | ((with_reducible apply R_blt); rfl) | ((with_reducible apply R_bnd); rfl) | ((with_reducible apply R_map); rfl) | ((with_reducible apply R_wlk); rfl) | ((with_reducible apply R_seq); rfl) | ((with_reducible apply R_srt); rfl) | ((with_reducible apply R_pow); rfl) | ((with_reducible apply R_adds); rfl) | ((with_reducible apply R_muls); rfl) | ((with_reducible apply iteY); rfl) | ((with_reducible apply iteN); rfl) | ((with_reducible apply X_bl); rfl) | ((with_reducible apply X_int); rfl) | ((with_reducible apply X_bind); rfl) | ((with_reducible apply X_and); rfl) | ((with_reducible refine R_mod ?_ ?_); omega) | ((with_reducible refine R_div ?_ ?_); omega) | ((with_reducible refine R_mul ?_ ?_); first | (left; omega) | (right; omega) | (left; decide)) | ((with_reducible apply C_nil); rfl; rfl) | ((with_reducible apply F_nil); rfl; rfl) | ((with_reducible apply C_none); rfl; rfl; rfl) | ((with_reducible apply C_some); rfl; rfl; rfl) | ((with_reducible apply F_cons); rfl; rfl; rfl) | ((with_reducible refine ⟨?_, ?_, ?_⟩); (first | omega | decide); (first | omega | decide)))
    refine q _ _ (Int.emod_nonneg _ (by omega)) (Int.emod_lt_of_pos _ hn) ⟨a / n, b, VH.get_set_same _ _ _, Int.ediv_nonneg ha (by omega), hb, hb2, hx⟩ ⟨fun z hz _ => VH.get_set_ne _ _ hz, Nat.le_refl _⟩
  · refine iteN (decide_eq_false ha0) ?_
    have hn0 : (b * 48271 + 11) % 2147483647 < 2147483647 := Int.emod_lt_of_pos _ (by decide)
    have hn1 : 0 ≤ (b * 48271 + 11) % 2147483647 := Int.emod_nonneg _ (by decide)
    have hg2 : (h.set p (.lst [.int a, .int ((b * 48271 + 11) % 2147483647)])).get p = some (.lst [.int a, .int ((b * 48271 + 11) % 2147483647)]) := VH.get_set_same _ _ _
    have hc2 := cell_of hg2
    repeat (first | with_reducible refine R_ixc hc rfl ?_ | refine ⟨_, _, _, _, rfl, rfl, hg, rfl, ?_⟩ | refine R_ixc hc2 rfl ?_ | ((with_reducible apply E_var); rfl) | with_reducible refine E_cst ?_ | with_reducible refine V_e ?_ | with_reducible refine V_l ?_ | with_reducible refine A_nil ?_ | with_reducible refine A_cons ?_ | with_reducible refine S_cons ?_ | with_reducible refine S_nil ?_ | with_reducible refine S_ret ?_ | with_reducible refine S_if ?_ | with_reducible refine S_asg ?_ | with_reducible refine T_val ?_ | with_reducible refine T_not ?_ | with_reducible refine T_cmp ?_ | with_reducible refine T_or1 ?_ | with_reducible refine T_or ?_ | with_reducible refine T_and1 ?_ | with_reducible refine T_and ?_ | with_reducible refine T_chn ?_ | with_reducible refine E_idx ?_ | with_reducible refine E_tup ?_ | with_reducible refine E_bin ?_ | with_reducible refine E_cmp ?_ | with_reducible refine E_isi ?_ | with_reducible refine E_blt ?_ | with_reducible refine E_call ?_ | with_reducible refine E_callK ?_ | with_reducible refine E_chn ?_ | with_reducible refine E_and1 ?_ | with_reducible refine E_and ?_ | with_reducible refine E_or1 ?_ | with_reducible refine E_or ?_ | with_reducible refine E_not ?_ | with_reducible refine E_neg ?_ | with_reducible refine E_lis ?_ | with_reducible refine E_new ?_ | with_reducible refine E_ndic ?_ | with_reducible refine E_ite ?_ | with_reducible refine E_didx ?_ | with_reducible refine E_dget ?_ | with_reducible refine E_app ?_ | with_reducible refine L_lst ?_ | with_reducible refine L_cat ?_ | with_reducible refine L_slc ?_ | with_reducible refine L_lof ?_ | with_reducible refine L_srt ?_ | with_reducible refine L_comp ?_ | with_reducible refine O_none ?_ | with_reducible refine O_some ?_ | with_reducible refine I_v ?_ | with_reducible refine I_rng ?_ | with_reducible refine I_zip ?_ | with_reducible refine I_enm ?_ | with_reducible refine S_for ?_ | with_reducible refine S_lcp ?_ | with_reducible refine S_lc ?_ | with_reducible refine S_par ?_ | with_reducible refine S_sub ?_ | with_reducible refine S_dsub ?_ | with_reducible refine S_exp ?_ | with_reducible refine R_add ?_ | with_reducible refine R_sub ?_ | ((with_reducible apply R_cmp); rfl) | ((with_reducible apply R_idx); rfl) | ((with_reducible apply R_ty); rfl) | ((with_reducible apply R_blt); rfl) | ((with_reducible apply R_bnd); rfl) | ((with_reducible apply R_map); rfl) | ((with_reducible apply R_wlk); rfl) | ((with_reducible apply R_seq); rfl) | ((with_reducible apply R_srt); rfl) | ((with_reducible apply R_pow); rfl) | ((with_reducible apply R_adds); rfl) | ((with_reducible apply R_muls); rfl) | ((with_reducible apply iteY); rfl) | ((with_reducible apply iteN); rfl) | ((with_reducible apply X_bl); rfl) | ((with_reducible apply X_int); rfl) | ((with_reducible apply X_bind); rfl) | ((with_reducible apply X_and); rfl) | ((with_reducible refine R_mod ?_ ?_); omega) | ((with_reducible refine R_div ?_ ?_); omega) | ((with_reducible refine R_mul ?_ ?_); first | (left; omega) | (right; omega) | (left; decide)) | ((with_reducible apply C_nil); rfl; rfl) | ((with_reducible apply F_nil); rfl; rfl) | ((with_reducible apply C_none); rfl; rfl; rfl) | ((with_reducible apply C_some); rfl; rfl; rfl) | ((with_reducible apply F_cons); rfl; rfl; rfl) | ((with_reducible refine ⟨?_, ?_, ?_⟩); (first | omega | decide); (first | omega | decide)))
    refine q _ _ (Int.emod_nonneg _ (by omega)) (Int.emod_lt_of_pos _ hn) ⟨a, _, hg2, ha, hn1, hn0, hx⟩ ⟨fun z hz _ => VH.get_set_ne _ _ hz, Nat.le_refl _⟩

theorem len_frz {h : VH} {p : Ad} {k : Bool} {ws : List W} {w : W} {Q : W → VH → Prop} (e : h.get p = some (.frz k ws)) (q : Q (.int ws.length) h) : Rn (Res.of (bltF h .len [.w (.ref p)]) h) Q := by
  have : bltF h .len [.w (.ref p)] = some (.int ws.length) := by
    show (match h.get p with
      | some (.lst ws) => some (W.int ws.length)
      | some (.frz _ ws) => some (.int ws.length)
      | some (.dic kvs) => some (.int kvs.length)
      | none => none) = _
    rw [e]
  rw [this]; exact q
theorem nth_map {ns : List Int} {k : Int} (h0 : 0 ≤ k) (h1 : k < ns.length) : ∃ i, ((ix (ns.map W.int).length k).bind fun j => nth (ns.map W.int) j) = some (.int i) := by
  obtain ⟨j, rfl⟩ := Int.eq_ofNat_of_zero_le h0
  have hj : j < ns.length := by omega
  have e1 : ix (ns.map W.int).length (j : Int) = some j := by
    show (if Nat.blt j (ns.map W.int).length then some j else none) = _
    rw [List.length_map, Nat.blt_eq.mpr hj]; rfl
  rw [e1]
  have : ∀ (l : List Int) (j : Nat), j < l.length → ∃ i, nth (l.map W.int) j = some (.int i) := by
    intro l
    induction l with
    | nil => intro j hj; exact absurd hj (Nat.not_lt_zero _)
    | cons a l ih =>
      intro j hj
      cases j with
      | zero => exact ⟨a, rfl⟩
      | succ j => exact ih j (Nat.lt_of_succ_lt_succ hj)
  exact this ns j hj
theorem num_ne {p q : Ad} (h : p.num < q.num) : p ≠ q := fun e => by rw [e] at h; exact absurd h (Nat.lt_irrefl _)
theorem pool_spec {d : Nat} {ns : List Int} {kk : Bool} {k : Int} {h : VH} {Q : W → VH → Prop} (hs : h.get .one = some (.frz kk (ns.map W.int))) (hk : 0 ≤ k) (hk2 : k < 8)
    (q : ∀ h', Pool h' h.nx → (∀ z, z.num < h.nx.num → h'.get z = h.get z) → h'.nx = h.nx.succ → Q (.ref h.nx) h') : Rn (C (d + 1) 6 [.ref .one, .int k] h) Q := by
  have hc : cell h .one = some (ns.map W.int) := by unfold cell; rw [hs]
  have fin : ∀ i : Int, Q (W.ref h.nx) (h.push (.lst [.int ((if i < 0 then -i else i) * if decide (10 ^ Int.toNat 18 ≤ if i < 0 then -i else i) = true then 1 else 0), .int (((if i < 0 then -i else i) % 2147483629 + 7919 * k + 31) * 48271 % 2147483647)])) := by
    intro i
    have hsz : (0 : Int) ≤ if i < 0 then -i else i := by split <;> omega
    refine q _ ⟨_, _, VH.get_push_same _ _, ?_, Int.emod_nonneg _ (by decide), Int.emod_lt_of_pos _ (by decide), ?_⟩ (fun z hz => VH.get_push_ne _ _ (num_ne hz)) rfl
    · exact Int.mul_nonneg hsz ((by intro b; cases b <;> decide : ∀ b : Bool, (0 : Int) ≤ if b = true then 1 else 0) _)
    · show h.nx.num < h.nx.succ.num
      rw [Ad.num_succ]
      exact Nat.lt_succ_self _
  refine Rn_call rfl rfl ?_
  repeat (first | with_reducible refine len_frz (w := .non) hs ?_ | ((with_reducible apply E_var); rfl) | with_reducible refine E_cst ?_ | with_reducible refine V_e ?_ | with_reducible refine V_l ?_ | with_reducible refine A_nil ?_ | with_reducible refine A_cons ?_ | with_reducible refine S_cons ?_ | with_reducible refine S_nil ?_ | with_reducible refine S_ret ?_ | with_reducible refine S_if ?_ | with_reducible refine S_asg ?_ | with_reducible refine T_val ?_ | with_reducible refine T_not ?_ | with_reducible refine T_cmp ?_ | with_reducible refine T_or1 ?_ | with_reducible refine T_or ?_ | with_reducible refine T_and1 ?_ | with_reducible refine T_and ?_ | with_reducible refine T_chn ?_ | with_reducible refine E_idx ?_ | with_reducible refine E_tup ?_ | with_reducible refine E_bin ?_ | with_reducible refine E_cmp ?_ | with_reducible refine E_isi ?_ | with_reducible refine E_blt ?_ | with_reducible refine E_call ?_ | with_reducible refine E_callK ?_ | with_reducible refine E_chn ?_ | with_reducible refine E_and1 ?_ | with_reducible refine E_and ?_ | with_reducible refine E_or1 ?_ | with_reducible refine E_or ?_ | with_reducible refine E_not ?_ | with_reducible refine E_neg ?_ | with_reducible refine E_lis ?_ | with_reducible refine E_new ?_ | with_reducible refine E_ndic ?_ | with_reducible refine E_ite ?_ | with_reducible refine E_didx ?_ | with_reducible refine E_dget ?_ | with_reducible refine E_app ?_ | with_reducible refine L_lst ?_ | with_reducible refine L_cat ?_ | with_reducible refine L_slc ?_ | with_reducible refine L_lof ?_ | with_reducible refine L_srt ?_ | with_reducible refine L_comp ?_ | with_reducible refine O_none ?_ | with_reducible refine O_some ?_ | with_reducible refine I_v ?_ | with_reducible refine I_rng ?_ | with_reducible refine I_zip ?_ | with_reducible refine I_enm ?_ | with_reducible refine S_for ?_ | with_reducible refine S_lcp ?_ | with_reducible refine S_lc ?_ | with_reducible refine S_par ?_ | with_reducible refine S_sub ?_ | with_reducible refine S_dsub ?_ | with_reducible refine S_exp ?_ | with_reducible refine R_add ?_ | with_reducible refine R_sub ?_ | ((with_reducible apply R_cmp); rfl) | ((with_reducible apply R_idx); rfl) | ((with_reducible apply R_ty); rfl) | ((with_reducible apply R_blt); rfl) | ((with_reducible apply R_bnd); rfl) | ((with_reducible apply R_map); rfl) | ((with_reducible apply R_wlk); rfl) | ((with_reducible apply R_seq); rfl) | ((with_reducible apply R_srt); rfl) | ((with_reducible apply R_pow); rfl) | ((with_reducible apply R_adds); rfl) | ((with_reducible apply R_muls); rfl) | ((with_reducible apply iteY); rfl) | ((with_reducible apply iteN); rfl) | ((with_reducible apply X_bl); rfl) | ((with_reducible apply X_int); rfl) | ((with_reducible apply X_bind); rfl) | ((with_reducible apply X_and); rfl) | ((with_reducible refine R_mod ?_ ?_); omega) | ((with_reducible refine R_div ?_ ?_); omega) | ((with_reducible refine R_mul ?_ ?_); first | (left; omega) | (right; omega) | (left; decide)) | ((with_reducible apply C_nil); rfl; rfl) | ((with_reducible apply F_nil); rfl; rfl) | ((with_reducible apply C_none); rfl; rfl; rfl) | ((with_reducible apply C_some); rfl; rfl; rfl) | ((with_reducible apply F_cons); rfl; rfl; rfl) | ((with_reducible refine ⟨?_, ?_, ?_⟩); (first | omega | decide); (first | omega | decide)))
  rw [List.length_map]
  by_cases hlt : k < ns.length
  · refine iteY (decide_eq_true hlt) ?_
    obtain ⟨i, hi⟩ := nth_map hk hlt
    repeat (first | with_reducible refine R_ixc hc hi ?_ | ((with_reducible apply E_var); rfl) | with_reducible refine E_cst ?_ | with_reducible refine V_e ?_ | with_reducible refine V_l ?_ | with_reducible refine A_nil ?_ | with_reducible refine A_cons ?_ | with_reducible refine S_cons ?_ | with_reducible refine S_nil ?_ | with_reducible refine S_ret ?_ | with_reducible refine S_if ?_ | with_reducible refine S_asg ?_ | with_reducible refine T_val ?_ | with_reducible refine T_not ?_ | with_reducible refine T_cmp ?_ | with_reducible refine T_or1 ?_ | with_reducible refine T_or ?_ | with_reducible refine T_and1 ?_ | with_reducible refine T_and ?_ | with_reducible refine T_chn ?_ | with_reducible refine E_idx ?_ | with_reducible refine E_tup ?_ | with_reducible refine E_bin ?_ | with_reducible refine E_cmp ?_ | with_reducible refine E_isi ?_ | with_reducible refine E_blt ?_ | with_reducible refine E_call ?_ | with_reducible refine E_callK ?_ | with_reducible refine E_chn ?_ | with_reducible refine E_and1 ?_ | with_reducible refine E_and ?_ | with_reducible refine E_or1 ?_ | with_reducible refine E_or ?_ | with_reducible refine E_not ?_ | with_reducible refine E_neg ?_ | with_reducible refine E_lis ?_ | with_reducible refine E_new ?_ | with_reducible refine E_ndic ?_ | with_reducible refine E_ite ?_ | with_reducible refine E_didx ?_ | with_reducible refine E_dget ?_ | with_reducible refine E_app ?_ | with_reducible refine L_lst ?_ | with_reducible refine L_cat ?_ | with_reducible refine L_slc ?_ | with_reducible refine L_lof ?_ | with_reducible refine L_srt ?_ | with_reducible refine L_comp ?_ | with_reducible refine O_none ?_ | with_reducible refine O_some ?_ | with_reducible refine I_v ?_ | with_reducible refine I_rng ?_ | with_reducible refine I_zip ?_ | with_reducible refine I_enm ?_ | with_reducible refine S_for ?_ | with_reducible refine S_lcp ?_ | with_reducible refine S_lc ?_ | with_reducible refine S_par ?_ | with_reducible refine S_sub ?_ | with_reducible refine S_dsub ?_ | with_reducible refine S_exp ?_ | with_reducible refine R_add ?_ | with_reducible refine R_sub ?_ | ((with_reducible apply R_cmp); rfl) | ((with_reducible apply R_idx); rfl) | ((with_reducible apply R_ty); rfl) | ((with_reducible apply R_blt); rfl) | ((with_reducible apply R_bnd); rfl) | ((with_reducible apply R_map); rfl) | ((with_reducible apply R_wlk); rfl) | ((with_reducible apply R_seq); rfl) | ((with_reducible apply R_srt); rfl) | ((with_reducible apply R_pow); rfl) | ((with_reducible apply R_adds); rfl) | ((with_reducible apply R_muls); rfl) | ((with_reducible apply iteY); rfl) | ((with_reducible apply iteN); rfl) | ((with_reducible apply X_bl); rfl) | ((with_reducible apply X_int); rfl) | ((with_reducible apply X_bind); rfl) | ((with_reducible apply X_and); rfl) | ((with_reducible refine R_mod ?_ ?_); omega) | ((with_reducible refine R_div ?_ ?_); omega) | ((with_reducible refine R_mul ?_ ?_); first | (left; omega) | (right; omega) | (left; decide)) | ((with_reducible apply C_nil); rfl; rfl) | ((with_reducible apply F_nil); rfl; rfl) | ((with_reducible apply C_none); rfl; rfl; rfl) | ((with_reducible apply C_some); rfl; rfl; rfl) | ((with_reducible apply F_cons); rfl; rfl; rfl) | ((with_reducible refine ⟨?_, ?_, ?_⟩); (first | omega | decide); (first | omega | decide)))
    exact fin i
  · refine iteN (decide_eq_false hlt) ?_
    repeat (first | ((with_reducible apply E_var); rfl) | with_reducible refine E_cst ?_ | with_reducible refine V_e ?_ | with_reducible refine V_l ?_ | with_reducible refine A_nil ?_ | with_reducible refine A_cons ?_ | with_reducible refine S_cons ?_ | with_reducible refine S_nil ?_ | with_reducible refine S_ret ?_ | with_reducible refine S_if ?_ | with_reducible refine S_asg ?_ | with_reducible refine T_val ?_ | with_reducible refine T_not ?_ | with_reducible refine T_cmp ?_ | with_reducible refine T_or1 ?_ | with_reducible refine T_or ?_ | with_reducible refine T_and1 ?_ | with_reducible refine T_and ?_ | with_reducible refine T_chn ?_ | with_reducible refine E_idx ?_ | with_reducible refine E_tup ?_ | with_reducible refine E_bin ?_ | with_reducible refine E_cmp ?_ | with_reducible refine E_isi ?_ | with_reducible refine E_blt ?_ | with_reducible refine E_call ?_ | with_reducible refine E_callK ?_ | with_reducible refine E_chn ?_ | with_reducible refine E_and1 ?_ | with_reducible refine E_and ?_ | with_reducible refine E_or1 ?_ | with_reducible refine E_or ?_ | with_reducible refine E_not ?_ | with_reducible refine E_neg ?_ | with_reducible refine E_lis ?_ | with_reducible refine E_new ?_ | with_reducible refine E_ndic ?_ | with_reducible refine E_ite ?_ | with_reducible refine E_didx ?_ | with_reducible refine E_dget ?_ | with_reducible refine E_app ?_ | with_reducible refine L_lst ?_ | with_reducible refine L_cat ?_ | with_reducible refine L_slc ?_ | with_reducible refine L_lof ?_ | with_reducible refine L_srt ?_ | with_reducible refine L_comp ?_ | with_reducible refine O_none ?_ | with_reducible refine O_some ?_ | with_reducible refine I_v ?_ | with_reducible refine I_rng ?_ | with_reducible refine I_zip ?_ | with_reducible refine I_enm ?_ | with_reducible refine S_for ?_ | with_reducible refine S_lcp ?_ | with_reducible refine S_lc ?_ | with_reducible refine S_par ?_ | with_reducible refine S_sub ?_ | with_reducible refine S_dsub ?_ | with_reducible refine S_exp ?_ | with_reducible refine R_add ?_ | with_reducible refine R_sub ?_ | ((with_reducible apply R_cmp); rfl) | ((with_reducible apply R_idx); rfl) | ((with_reducible apply R_ty); rfl) | ((with_reducible apply R_blt); rfl) | ((with_reducible apply R_bnd); rfl) | ((with_reducible apply R_map); rfl) | ((with_reducible apply R_wlk); rfl) | ((with_reducible apply R_seq); rfl) | ((with_reducible apply R_srt); rfl) | ((with_reducible apply R_pow); rfl) | ((with_reducible apply R_adds); rfl) | ((with_reducible apply R_muls); rfl) | ((with_reducible apply iteY); rfl) | ((with_reducible apply iteN); rfl) | ((with_reducible apply X_bl); rfl) | ((with_reducible apply X_int); rfl) | ((with_reducible apply X_bind); rfl) | ((with_reducible apply X_and); rfl) | ((with_reducible refine R_mod ?_ ?_); omega) | ((with_reducible refine R_div ?_ ?_); omega) | ((with_reducible refine R_mul ?_ ?_); first | (left; omega) | (right; omega) | (left; decide)) | ((with_reducible apply C_nil); rfl; rfl) | ((with_reducible apply F_nil); rfl; rfl) | ((with_reducible apply C_none); rfl; rfl; rfl) | ((with_reducible apply C_some); rfl; rfl; rfl) | ((with_reducible apply F_cons); rfl; rfl; rfl) | ((with_reducible refine ⟨?_, ?_, ?_⟩); (first | omega | decide); (first | omega | decide)))
    exact fin 0
theorem short_spec {d : Nat} {i : Int} {h : VH} {Q : W → VH → Prop} (h1 : -10000000000000000000000000000000000000000000000000000000000000000000000000000000000000000000000000000 < i) (h2 : i < 10000000000000000000000000000000000000000000000000000000000000000000000000000000000000000000000000000) (q : Q (.bl true) h) : Rn (C (d + 2) 1 [.int i] h) Q := by
  refine Rn_call rfl rfl ?_
  repeat (first | ((with_reducible apply E_var); rfl) | with_reducible refine E_cst ?_ | with_reducible refine V_e ?_ | with_reducible refine V_l ?_ | with_reducible refine A_nil ?_ | with_reducible refine A_cons ?_ | with_reducible refine S_cons ?_ | with_reducible refine S_nil ?_ | with_reducible refine S_ret ?_ | with_reducible refine S_if ?_ | with_reducible refine S_asg ?_ | with_reducible refine T_val ?_ | with_reducible refine T_not ?_ | with_reducible refine T_cmp ?_ | with_reducible refine T_or1 ?_ | with_reducible refine T_or ?_ | with_reducible refine T_and1 ?_ | with_reducible refine T_and ?_ | with_reducible refine T_chn ?_ | with_reducible refine E_idx ?_ | with_reducible refine E_tup ?_ | with_reducible refine E_bin ?_ | with_reducible refine E_cmp ?_ | with_reducible refine E_isi ?_ | with_reducible refine E_blt ?_ | with_reducible refine E_call ?_ | with_reducible refine E_callK ?_ | with_reducible refine E_chn ?_ | with_reducible refine E_and1 ?_ | with_reducible refine E_and ?_ | with_reducible refine E_or1 ?_ | with_reducible refine E_or ?_ | with_reducible refine E_not ?_ | with_reducible refine E_neg ?_ | with_reducible refine E_lis ?_ | with_reducible refine E_new ?_ | with_reducible refine E_ndic ?_ | with_reducible refine E_ite ?_ | with_reducible refine E_didx ?_ | with_reducible refine E_dget ?_ | with_reducible refine E_app ?_ | with_reducible refine L_lst ?_ | with_reducible refine L_cat ?_ | with_reducible refine L_slc ?_ | with_reducible refine L_lof ?_ | with_reducible refine L_srt ?_ | with_reducible refine L_comp ?_ | with_reducible refine O_none ?_ | with_reducible refine O_some ?_ | with_reducible refine I_v ?_ | with_reducible refine I_rng ?_ | with_reducible refine I_zip ?_ | with_reducible refine I_enm ?_ | with_reducible refine S_for ?_ | with_reducible refine S_lcp ?_ | with_reducible refine S_lc ?_ | with_reducible refine S_par ?_ | with_reducible refine S_sub ?_ | with_reducible refine S_dsub ?_ | with_reducible refine S_exp ?_ | with_reducible refine R_add ?_ | with_reducible refine R_sub ?_ | ((with_reducible apply R_cmp); rfl) | ((with_reducible apply R_idx); rfl) | ((with_reducible apply R_ty); rfl) | ((with_reducible apply R_blt); rfl) | ((with_reducible apply R_bnd); rfl) | ((with_reducible apply R_map); rfl) | ((with_reducible apply R_wlk); rfl) | ((with_reducible apply R_seq); rfl) | ((with_reducible apply R_srt); rfl) | ((with_reducible apply R_pow); rfl) | ((with_reducible apply R_adds); rfl) | ((with_reducible apply R_muls); rfl) | ((with_reducible apply iteY); rfl) | ((with_reducible apply iteN); rfl) | ((with_reducible apply X_bl); rfl) | ((with_reducible apply X_int); rfl) | ((with_reducible apply X_bind); rfl) | ((with_reducible apply X_and); rfl) | ((with_reducible refine R_mod ?_ ?_); omega) | ((with_reducible refine R_div ?_ ?_); omega) | ((with_reducible refine R_mul ?_ ?_); first | (left; omega) | (right; omega) | (left; decide)) | ((with_reducible apply C_nil); rfl; rfl) | ((with_reducible apply F_nil); rfl; rfl) | ((with_reducible apply C_none); rfl; rfl; rfl) | ((with_reducible apply C_some); rfl; rfl; rfl) | ((with_reducible apply F_cons); rfl; rfl; rfl) | ((with_reducible refine ⟨?_, ?_, ?_⟩); (first | omega | decide); (first | omega | decide)))
  refine Rn_of_eq (show callF PF 60 (d + 1) 0 [.int i] h = .ok (.bl true) h from rfl) ?_
  repeat (first | ((with_reducible apply E_var); rfl) | with_reducible refine E_cst ?_ | with_reducible refine V_e ?_ | with_reducible refine V_l ?_ | with_reducible refine A_nil ?_ | with_reducible refine A_cons ?_ | with_reducible refine S_cons ?_ | with_reducible refine S_nil ?_ | with_reducible refine S_ret ?_ | with_reducible refine S_if ?_ | with_reducible refine S_asg ?_ | with_reducible refine T_val ?_ | with_reducible refine T_not ?_ | with_reducible refine T_cmp ?_ | with_reducible refine T_or1 ?_ | with_reducible refine T_or ?_ | with_reducible refine T_and1 ?_ | with_reducible refine T_and ?_ | with_reducible refine T_chn ?_ | with_reducible refine E_idx ?_ | with_reducible refine E_tup ?_ | with_reducible refine E_bin ?_ | with_reducible refine E_cmp ?_ | with_reducible refine E_isi ?_ | with_reducible refine E_blt ?_ | with_reducible refine E_call ?_ | with_reducible refine E_callK ?_ | with_reducible refine E_chn ?_ | with_reducible refine E_and1 ?_ | with_reducible refine E_and ?_ | with_reducible refine E_or1 ?_ | with_reducible refine E_or ?_ | with_reducible refine E_not ?_ | with_reducible refine E_neg ?_ | with_reducible refine E_lis ?_ | with_reducible refine E_new ?_ | with_reducible refine E_ndic ?_ | with_reducible refine E_ite ?_ | with_reducible refine E_didx ?_ | with_reducible refine E_dget ?_ | with_reducible refine E_app ?_ | with_reducible refine L_lst ?_ | with_reducible refine L_cat ?_ | with_reducible refine L_slc ?_ | with_reducible refine L_lof ?_ | with_reducible refine L_srt ?_ | with_reducible refine L_comp ?_ | with_reducible refine O_none ?_ | with_reducible refine O_some ?_ | with_reducible refine I_v ?_ | with_reducible refine I_rng ?_ | with_reducible refine I_zip ?_ | with_reducible refine I_enm ?_ | with_reducible refine S_for ?_ | with_reducible refine S_lcp ?_ | with_reducible refine S_lc ?_ | with_reducible refine S_par ?_ | with_reducible refine S_sub ?_ | with_reducible refine S_dsub ?_ | with_reducible refine S_exp ?_ | with_reducible refine R_add ?_ | with_reducible refine R_sub ?_ | ((with_reducible apply R_cmp); rfl) | ((with_reducible apply R_idx); rfl) | ((with_reducible apply R_ty); rfl) | ((with_reducible apply R_blt); rfl) | ((with_reducible apply R_bnd); rfl) | ((with_reducible apply R_map); rfl) | ((with_reducible apply R_wlk); rfl) | ((with_reducible apply R_seq); rfl) | ((with_reducible apply R_srt); rfl) | ((with_reducible apply R_pow); rfl) | ((with_reducible apply R_adds); rfl) | ((with_reducible apply R_muls); rfl) | ((with_reducible apply iteY); rfl) | ((with_reducible apply iteN); rfl) | ((with_reducible apply X_bl); rfl) | ((with_reducible apply X_int); rfl) | ((with_reducible apply X_bind); rfl) | ((with_reducible apply X_and); rfl) | ((with_reducible refine R_mod ?_ ?_); omega) | ((with_reducible refine R_div ?_ ?_); omega) | ((with_reducible refine R_mul ?_ ?_); first | (left; omega) | (right; omega) | (left; decide)) | ((with_reducible apply C_nil); rfl; rfl) | ((with_reducible apply F_nil); rfl; rfl) | ((with_reducible apply C_none); rfl; rfl; rfl) | ((with_reducible apply C_some); rfl; rfl; rfl) | ((with_reducible apply F_cons); rfl; rfl; rfl) | ((with_reducible refine ⟨?_, ?_, ?_⟩); (first | omega | decide); (first | omega | decide)))
  refine iteY (decide_eq_true h1) ?_
  repeat (first | ((with_reducible apply E_var); rfl) | with_reducible refine E_cst ?_ | with_reducible refine V_e ?_ | with_reducible refine V_l ?_ | with_reducible refine A_nil ?_ | with_reducible refine A_cons ?_ | with_reducible refine S_cons ?_ | with_reducible refine S_nil ?_ | with_reducible refine S_ret ?_ | with_reducible refine S_if ?_ | with_reducible refine S_asg ?_ | with_reducible refine T_val ?_ | with_reducible refine T_not ?_ | with_reducible refine T_cmp ?_ | with_reducible refine T_or1 ?_ | with_reducible refine T_or ?_ | with_reducible refine T_and1 ?_ | with_reducible refine T_and ?_ | with_reducible refine T_chn ?_ | with_reducible refine E_idx ?_ | with_reducible refine E_tup ?_ | with_reducible refine E_bin ?_ | with_reducible refine E_cmp ?_ | with_reducible refine E_isi ?_ | with_reducible refine E_blt ?_ | with_reducible refine E_call ?_ | with_reducible refine E_callK ?_ | with_reducible refine E_chn ?_ | with_reducible refine E_and1 ?_ | with_reducible refine E_and ?_ | with_reducible refine E_or1 ?_ | with_reducible refine E_or ?_ | with_reducible refine E_not ?_ | with_reducible refine E_neg ?_ | with_reducible refine E_lis ?_ | with_reducible refine E_new ?_ | with_reducible refine E_ndic ?_ | with_reducible refine E_ite ?_ | with_reducible refine E_didx ?_ | with_reducible refine E_dget ?_ | with_reducible refine E_app ?_ | with_reducible refine L_lst ?_ | with_reducible refine L_cat ?_ | with_reducible refine L_slc ?_ | with_reducible refine L_lof ?_ | with_reducible refine L_srt ?_ | with_reducible refine L_comp ?_ | with_reducible refine O_none ?_ | with_reducible refine O_some ?_ | with_reducible refine I_v ?_ | with_reducible refine I_rng ?_ | with_reducible refine I_zip ?_ | with_reducible refine I_enm ?_ | with_reducible refine S_for ?_ | with_reducible refine S_lcp ?_ | with_reducible refine S_lc ?_ | with_reducible refine S_par ?_ | with_reducible refine S_sub ?_ | with_reducible refine S_dsub ?_ | with_reducible refine S_exp ?_ | with_reducible refine R_add ?_ | with_reducible refine R_sub ?_ | ((with_reducible apply R_cmp); rfl) | ((with_reducible apply R_idx); rfl) | ((with_reducible apply R_ty); rfl) | ((with_reducible apply R_blt); rfl) | ((with_reducible apply R_bnd); rfl) | ((with_reducible apply R_map); rfl) | ((with_reducible apply R_wlk); rfl) | ((with_reducible apply R_seq); rfl) | ((with_reducible apply R_srt); rfl) | ((with_reducible apply R_pow); rfl) | ((with_reducible apply R_adds); rfl) | ((with_reducible apply R_muls); rfl) | ((with_reducible apply iteY); rfl) | ((with_reducible apply iteN); rfl) | ((with_reducible apply X_bl); rfl) | ((with_reducible apply X_int); rfl) | ((with_reducible apply X_bind); rfl) | ((with_reducible apply X_and); rfl) | ((with_reducible refine R_mod ?_ ?_); omega) | ((with_reducible refine R_div ?_ ?_); omega) | ((with_reducible refine R_mul ?_ ?_); first | (left; omega) | (right; omega) | (left; decide)) | ((with_reducible apply C_nil); rfl; rfl) | ((with_reducible apply F_nil); rfl; rfl) | ((with_reducible apply C_none); rfl; rfl; rfl) | ((with_reducible apply C_some); rfl; rfl; rfl) | ((with_reducible apply F_cons); rfl; rfl; rfl) | ((with_reducible refine ⟨?_, ?_, ?_⟩); (first | omega | decide); (first | omega | decide)))
  rw [decide_eq_true h2]
  exact q

/-! ### the sums -/
def NM : List (List Nat) := [[112], [113], [120], [121]]
def PR : List (List Nat × List Nat) := [([112], [113]), ([112], [120]), ([112], [121]), ([113], [120]), ([113], [121]), ([120], [121])]
def Tm (ts : List W) : Prop := ts = [] ∨ (∃ f n, n ∈ NM ∧ f ≠ 0 ∧ -9 < f ∧ f < 9 ∧ ts = [.tup [.int f, .str n]]) ∨ ∃ f n g m, (n, m) ∈ PR ∧ f ≠ 0 ∧ -9 < f ∧ f < 9 ∧ g ≠ 0 ∧ -9 < g ∧ g < 9 ∧ ts = [.tup [.int f, .str n], .tup [.int g, .str m]]
def IsSum (w : W) : Prop := ∃ c ts, w = .tup [.str [115, 117, 109], .int c, .tup ts] ∧ -9 < c ∧ c < 9 ∧ Tm ts
theorem nm_p (d : Nat) (h : VH) : C (d + 1) 2 [.str [112]] h = .ok (.bl true) h := rfl
theorem nm_q (d : Nat) (h : VH) : C (d + 1) 2 [.str [113]] h = .ok (.bl true) h := rfl
theorem nm_x (d : Nat) (h : VH) : C (d + 1) 2 [.str [120]] h = .ok (.bl true) h := rfl
theorem nm_y (d : Nat) (h : VH) : C (d + 1) 2 [.str [121]] h = .ok (.bl true) h := rfl
theorem nm_a (d : Nat) (h : VH) : C (d + 1) 2 [.str [97]] h = .ok (.bl true) h := rfl
theorem nm_b (d : Nat) (h : VH) : C (d + 1) 2 [.str [98]] h = .ok (.bl true) h := rfl
theorem nm_zz (d : Nat) (h : VH) : C (d + 1) 2 [.str [122, 122]] h = .ok (.bl true) h := rfl
theorem nm_8 (d : Nat) (h : VH) : C (d + 1) 2 [.str [97, 98, 99, 100, 101, 102, 103, 104]] h = .ok (.bl true) h := rfl
theorem nm_spec {d : Nat} {n : List Nat} {h : VH} {Q : W → VH → Prop} (hn : n ∈ NM) (q : Q (.bl true) h) : Rn (C (d + 1) 2 [.str n] h) Q := by
  simp only [NM, List.mem_cons, List.not_mem_nil, or_false] at hn
  rcases hn with rfl | rfl | rfl | rfl
  · exact Rn_of_eq (nm_p d h) q
  · exact Rn_of_eq (nm_q d h) q
  · exact Rn_of_eq (nm_x d h) q
  · exact Rn_of_eq (nm_y d h) q
theorem sum_true {d : Nat} {w : W} {h : VH} {Q : W → VH → Prop} (hw : IsSum w) (q : Q (.bl true) h) : Rn (C (d + 3) 3 [w] h) Q := by
  obtain ⟨c, ts, rfl, c1, c2, ht⟩ := hw
  rcases ht with rfl | ⟨f, n, hn, f0, f1, f2, rfl⟩ | ⟨f, n, g, m, hn, f0, f1, f2, g0, g1, g2, rfl⟩
  · refine Rn_call rfl rfl ?_
    repeat (first | ((with_reducible refine short_spec ?_ ?_ ?_); omega; omega) | ((with_reducible apply E_var); rfl) | with_reducible refine E_cst ?_ | with_reducible refine V_e ?_ | with_reducible refine V_l ?_ | with_reducible refine A_nil ?_ | with_reducible refine A_cons ?_ | with_reducible refine S_cons ?_ | with_reducible refine S_nil ?_ | with_reducible refine S_ret ?_ | with_reducible refine S_if ?_ | with_reducible refine S_asg ?_ | with_reducible refine T_val ?_ | with_reducible refine T_not ?_ | with_reducible refine T_cmp ?_ | with_reducible refine T_or1 ?_ | with_reducible refine T_or ?_ | with_reducible refine T_and1 ?_ | with_reducible refine T_and ?_ | with_reducible refine T_chn ?_ | with_reducible refine E_idx ?_ | with_reducible refine E_tup ?_ | with_reducible refine E_bin ?_ | with_reducible refine E_cmp ?_ | with_reducible refine E_isi ?_ | with_reducible refine E_blt ?_ | with_reducible refine E_call ?_ | with_reducible refine E_callK ?_ | with_reducible refine E_chn ?_ | with_reducible refine E_and1 ?_ | with_reducible refine E_and ?_ | with_reducible refine E_or1 ?_ | with_reducible refine E_or ?_ | with_reducible refine E_not ?_ | with_reducible refine E_neg ?_ | with_reducible refine E_lis ?_ | with_reducible refine E_new ?_ | with_reducible refine E_ndic ?_ | with_reducible refine E_ite ?_ | with_reducible refine E_didx ?_ | with_reducible refine E_dget ?_ | with_reducible refine E_app ?_ | with_reducible refine L_lst ?_ | with_reducible refine L_cat ?_ | with_reducible refine L_slc ?_ | with_reducible refine L_lof ?_ | with_reducible refine L_srt ?_ | with_reducible refine L_comp ?_ | with_reducible refine O_none ?_ | with_reducible refine O_some ?_ | with_reducible refine I_v ?_ | with_reducible refine I_rng ?_ | with_reducible refine I_zip ?_ | with_reducible refine I_enm ?_ | with_reducible refine S_for ?_ | with_reducible refine S_lcp ?_ | with_reducible refine S_lc ?_ | with_reducible refine S_par ?_ | with_reducible refine S_sub ?_ | with_reducible refine S_dsub ?_ | with_reducible refine S_exp ?_ | with_reducible refine R_add ?_ | with_reducible refine R_sub ?_ | ((with_reducible apply R_cmp); rfl) | ((with_reducible apply R_idx); rfl) | ((with_reducible apply R_ty); rfl) | ((with_reducible apply R_blt); rfl) | ((with_reducible apply R_bnd); rfl) | ((with_reducible apply R_map); rfl) | ((with_reducible apply R_wlk); rfl) | ((with_reducible apply R_seq); rfl) | ((with_reducible apply R_srt); rfl) | ((with_reducible apply R_pow); rfl) | ((with_reducible apply R_adds); rfl) | ((with_reducible apply R_muls); rfl) | ((with_reducible apply iteY); rfl) | ((with_reducible apply iteN); rfl) | ((with_reducible apply X_bl); rfl) | ((with_reducible apply X_int); rfl) | ((with_reducible apply X_bind); rfl) | ((with_reducible apply X_and); rfl) | ((with_reducible refine R_mod ?_ ?_); omega) | ((with_reducible refine R_div ?_ ?_); omega) | ((with_reducible refine R_mul ?_ ?_); first | (left; omega) | (right; omega) | (left; decide)) | ((with_reducible apply C_nil); rfl; rfl) | ((with_reducible apply F_nil); rfl; rfl) | ((with_reducible apply C_none); rfl; rfl; rfl) | ((with_reducible apply C_some); rfl; rfl; rfl) | ((with_reducible apply F_cons); rfl; rfl; rfl) | ((with_reducible refine ⟨?_, ?_, ?_⟩); (first | omega | decide); (first | omega | decide)))
    exact q
  · have e : eqP (.int f) (.int 0) = false := decide_eq_false f0
    refine Rn_call rfl rfl ?_
    repeat (first | ((with_reducible refine short_spec ?_ ?_ ?_); omega; omega) | with_reducible refine nm_spec hn ?_ | with_reducible refine iteN e ?_ | ((with_reducible apply E_var); rfl) | with_reducible refine E_cst ?_ | with_reducible refine V_e ?_ | with_reducible refine V_l ?_ | with_reducible refine A_nil ?_ | with_reducible refine A_cons ?_ | with_reducible refine S_cons ?_ | with_reducible refine S_nil ?_ | with_reducible refine S_ret ?_ | with_reducible refine S_if ?_ | with_reducible refine S_asg ?_ | with_reducible refine T_val ?_ | with_reducible refine T_not ?_ | with_reducible refine T_cmp ?_ | with_reducible refine T_or1 ?_ | with_reducible refine T_or ?_ | with_reducible refine T_and1 ?_ | with_reducible refine T_and ?_ | with_reducible refine T_chn ?_ | with_reducible refine E_idx ?_ | with_reducible refine E_tup ?_ | with_reducible refine E_bin ?_ | with_reducible refine E_cmp ?_ | with_reducible refine E_isi ?_ | with_reducible refine E_blt ?_ | with_reducible refine E_call ?_ | with_reducible refine E_callK ?_ | with_reducible refine E_chn ?_ | with_reducible refine E_and1 ?_ | with_reducible refine E_and ?_ | with_reducible refine E_or1 ?_ | with_reducible refine E_or ?_ | with_reducible refine E_not ?_ | with_reducible refine E_neg ?_ | with_reducible refine E_lis ?_ | with_reducible refine E_new ?_ | with_reducible refine E_ndic ?_ | with_reducible refine E_ite ?_ | with_reducible refine E_didx ?_ | with_reducible refine E_dget ?_ | with_reducible refine E_app ?_ | with_reducible refine L_lst ?_ | with_reducible refine L_cat ?_ | with_reducible refine L_slc ?_ | with_reducible refine L_lof ?_ | with_reducible refine L_srt ?_ | with_reducible refine L_comp ?_ | with_reducible refine O_none ?_ | with_reducible refine O_some ?_ | with_reducible refine I_v ?_ | with_reducible refine I_rng ?_ | with_reducible refine I_zip ?_ | with_reducible refine I_enm ?_ | with_reducible refine S_for ?_ | with_reducible refine S_lcp ?_ | with_reducible refine S_lc ?_ | with_reducible refine S_par ?_ | with_reducible refine S_sub ?_ | with_reducible refine S_dsub ?_ | with_reducible refine S_exp ?_ | with_reducible refine R_add ?_ | with_reducible refine R_sub ?_ | ((with_reducible apply R_cmp); rfl) | ((with_reducible apply R_idx); rfl) | ((with_reducible apply R_ty); rfl) | ((with_reducible apply R_blt); rfl) | ((with_reducible apply R_bnd); rfl) | ((with_reducible apply R_map); rfl) | ((with_reducible apply R_wlk); rfl) | ((with_reducible apply R_seq); rfl) | ((with_reducible apply R_srt); rfl) | ((with_reducible apply R_pow); rfl) | ((with_reducible apply R_adds); rfl) | ((with_reducible apply R_muls); rfl) | ((with_reducible apply iteY); rfl) | ((with_reducible apply iteN); rfl) | ((with_reducible apply X_bl); rfl) | ((with_reducible apply X_int); rfl) | ((with_reducible apply X_bind); rfl) | ((with_reducible apply X_and); rfl) | ((with_reducible refine R_mod ?_ ?_); omega) | ((with_reducible refine R_div ?_ ?_); omega) | ((with_reducible refine R_mul ?_ ?_); first | (left; omega) | (right; omega) | (left; decide)) | ((with_reducible apply C_nil); rfl; rfl) | ((with_reducible apply F_nil); rfl; rfl) | ((with_reducible apply C_none); rfl; rfl; rfl) | ((with_reducible apply C_some); rfl; rfl; rfl) | ((with_reducible apply F_cons); rfl; rfl; rfl) | ((with_reducible refine ⟨?_, ?_, ?_⟩); (first | omega | decide); (first | omega | decide)))
    exact q
  · have e : eqP (.int f) (.int 0) = false := decide_eq_false f0
    have e' : eqP (.int g) (.int 0) = false := decide_eq_false g0
    have hn1 : n ∈ NM := by
      simp only [PR, List.mem_cons, List.not_mem_nil, or_false, Prod.mk.injEq] at hn
      rcases hn with ⟨rfl, rfl⟩ | ⟨rfl, rfl⟩ | ⟨rfl, rfl⟩ | ⟨rfl, rfl⟩ | ⟨rfl, rfl⟩ | ⟨rfl, rfl⟩ <;> simp [NM]
    have hn2 : m ∈ NM := by
      simp only [PR, List.mem_cons, List.not_mem_nil, or_false, Prod.mk.injEq] at hn
      rcases hn with ⟨rfl, rfl⟩ | ⟨rfl, rfl⟩ | ⟨rfl, rfl⟩ | ⟨rfl, rfl⟩ | ⟨rfl, rfl⟩ | ⟨rfl, rfl⟩ <;> simp [NM]
    have hlt : ltS n m = true := by
      simp only [PR, List.mem_cons, List.not_mem_nil, or_false, Prod.mk.injEq] at hn
      rcases hn with ⟨rfl, rfl⟩ | ⟨rfl, rfl⟩ | ⟨rfl, rfl⟩ | ⟨rfl, rfl⟩ | ⟨rfl, rfl⟩ | ⟨rfl, rfl⟩ <;> rfl
    refine Rn_call rfl rfl ?_
    repeat (first | ((with_reducible refine short_spec ?_ ?_ ?_); omega; omega) | with_reducible refine nm_spec hn1 ?_ | with_reducible refine nm_spec hn2 ?_ | with_reducible refine iteN e ?_ | with_reducible refine iteN e' ?_ | ((with_reducible apply E_var); rfl) | with_reducible refine E_cst ?_ | with_reducible refine V_e ?_ | with_reducible refine V_l ?_ | with_reducible refine A_nil ?_ | with_reducible refine A_cons ?_ | with_reducible refine S_cons ?_ | with_reducible refine S_nil ?_ | with_reducible refine S_ret ?_ | with_reducible refine S_if ?_ | with_reducible refine S_asg ?_ | with_reducible refine T_val ?_ | with_reducible refine T_not ?_ | with_reducible refine T_cmp ?_ | with_reducible refine T_or1 ?_ | with_reducible refine T_or ?_ | with_reducible refine T_and1 ?_ | with_reducible refine T_and ?_ | with_reducible refine T_chn ?_ | with_reducible refine E_idx ?_ | with_reducible refine E_tup ?_ | with_reducible refine E_bin ?_ | with_reducible refine E_cmp ?_ | with_reducible refine E_isi ?_ | with_reducible refine E_blt ?_ | with_reducible refine E_call ?_ | with_reducible refine E_callK ?_ | with_reducible refine E_chn ?_ | with_reducible refine E_and1 ?_ | with_reducible refine E_and ?_ | with_reducible refine E_or1 ?_ | with_reducible refine E_or ?_ | with_reducible refine E_not ?_ | with_reducible refine E_neg ?_ | with_reducible refine E_lis ?_ | with_reducible refine E_new ?_ | with_reducible refine E_ndic ?_ | with_reducible refine E_ite ?_ | with_reducible refine E_didx ?_ | with_reducible refine E_dget ?_ | with_reducible refine E_app ?_ | with_reducible refine L_lst ?_ | with_reducible refine L_cat ?_ | with_reducible refine L_slc ?_ | with_reducible refine L_lof ?_ | with_reducible refine L_srt ?_ | with_reducible refine L_comp ?_ | with_reducible refine O_none ?_ | with_reducible refine O_some ?_ | with_reducible refine I_v ?_ | with_reducible refine I_rng ?_ | with_reducible refine I_zip ?_ | with_reducible refine I_enm ?_ | with_reducible refine S_for ?_ | with_reducible refine S_lcp ?_ | with_reducible refine S_lc ?_ | with_reducible refine S_par ?_ | with_reducible refine S_sub ?_ | with_reducible refine S_dsub ?_ | with_reducible refine S_exp ?_ | with_reducible refine R_add ?_ | with_reducible refine R_sub ?_ | ((with_reducible apply R_cmp); rfl) | ((with_reducible apply R_idx); rfl) | ((with_reducible apply R_ty); rfl) | ((with_reducible apply R_blt); rfl) | ((with_reducible apply R_bnd); rfl) | ((with_reducible apply R_map); rfl) | ((with_reducible apply R_wlk); rfl) | ((with_reducible apply R_seq); rfl) | ((with_reducible apply R_srt); rfl) | ((with_reducible apply R_pow); rfl) | ((with_reducible apply R_adds); rfl) | ((with_reducible apply R_muls); rfl) | ((with_reducible apply iteY); rfl) | ((with_reducible apply iteN); rfl) | ((with_reducible apply X_bl); rfl) | ((with_reducible apply X_int); rfl) | ((with_reducible apply X_bind); rfl) | ((with_reducible apply X_and); rfl) | ((with_reducible refine R_mod ?_ ?_); omega) | ((with_reducible refine R_div ?_ ?_); omega) | ((with_reducible refine R_mul ?_ ?_); first | (left; omega) | (right; omega) | (left; decide)) | ((with_reducible apply C_nil); rfl; rfl) | ((with_reducible apply F_nil); rfl; rfl) | ((with_reducible apply C_none); rfl; rfl; rfl) | ((with_reducible apply C_some); rfl; rfl; rfl) | ((with_reducible apply F_cons); rfl; rfl; rfl) | ((with_reducible refine ⟨?_, ?_, ?_⟩); (first | omega | decide); (first | omega | decide)))
    show Q (.bl (ltS n m && true)) h
    rw [hlt]
    exact q
end K01


set_option linter.all false
set_option maxRecDepth 100000
set_option maxHeartbeats 4000000
namespace K01
open VM
theorem dic_of {h : VH} {p : Ad} {kvs : List (W × W)} (e : h.get p = some (.dic kvs)) : dicOf h (.ref p) = some (p, kvs) := by
  show (match h.get p with | some (.dic kvs) => some (p, kvs) | _ => none) = _
  rw [e]
theorem X_dic {h : VH} {x : W} {z : Ad × List (W × W)} {Q : Prop} (hd : dicOf h x = some z) (q : Q) : (∃ z, dicOf h x = some z) ∧ Q := ⟨⟨z, hd⟩, q⟩
theorem R_dget {h : VH} {x k y : W} {p : Ad} {kvs : List (W × W)} {Q : W → VH → Prop} (hd : dicOf h x = some (p, kvs)) (hk : keyOk k = true) (q : Q ((dfind k kvs).getD y) h) : Rn (Res.of ((dicOf h x).bind fun d => if keyOk k then some ((dfind k d.2).getD y) else none) h) Q := by
  rw [hd]
  show Rn (Res.of (if keyOk k then some ((dfind k kvs).getD y) else none) h) Q
  rw [hk]; exact q
theorem R_didx {h : VH} {x k w : W} {p : Ad} {kvs : List (W × W)} {Q : W → VH → Prop} (hd : dicOf h x = some (p, kvs)) (e : (if keyOk k then dfind k kvs else none) = some w) (q : Q w h) : Rn (Res.of ((dicOf h x).bind fun d => if keyOk k then dfind k d.2 else none) h) Q := by
  rw [hd]
  show Rn (Res.of (if keyOk k then dfind k kvs else none) h) Q
  rw [e]; exact q
theorem name_at {ws : List W} {r : Int} {h : VH} (hm : ∀ w ∈ ws, ∃ n, n ∈ NM ∧ w = .str n) (h0 : 0 ≤ r) (h1 : r < ws.length) : ∃ n, n ∈ NM ∧ idxA h (.w (.lis ws)) (.int r) = some (.str n) := by
  obtain ⟨j, rfl⟩ := Int.eq_ofNat_of_zero_le h0
  have hj : j < ws.length := by omega
  have e1 : ix ws.length (j : Int) = some j := by
    show (if Nat.blt j ws.length then some j else none) = _
    rw [Nat.blt_eq.mpr hj]; rfl
  have e2 : ∀ (l : List W) (j : Nat), j < l.length → ∃ w, w ∈ l ∧ nth l j = some w := by
    intro l
    induction l with
    | nil => intro j hj; exact absurd hj (Nat.not_lt_zero _)
    | cons a l ih =>
      intro j hj
      cases j with
      | zero => exact ⟨a, List.mem_cons_self, rfl⟩
      | succ j =>
        obtain ⟨w, a1, a2⟩ := ih j (Nat.lt_of_succ_lt_succ hj)
        exact ⟨w, List.mem_cons_of_mem _ a1, a2⟩
  obtain ⟨w, hw, e⟩ := e2 ws j hj
  obtain ⟨n, hn, rfl⟩ := hm w hw
  refine ⟨n, hn, ?_⟩
  show (ix ws.length (j : Int)).bind (fun j => nth ws j) = _
  rw [e1]
  exact e
theorem Frm.trans {p : Ad} {h h1 h2 : VH} (a : Frm p h h1) (b : Frm p h1 h2) : Frm p h h2 := ⟨fun q hq hl => (b.1 q hq (Nat.lt_of_lt_of_le hl a.2)).trans (a.1 q hq hl), Nat.le_trans a.2 b.2⟩
theorem Pool.nx {h : VH} {p : Ad} (hp : Pool h p) : p.num < h.nx.num := by obtain ⟨_, _, _, _, _, _, z⟩ := hp; exact z
/-- one turn of the loop of _law_sum -/
theorem turn_spec {d : Nat} {p t : Ad} {ws : List W} {kvs : List (W × W)} {v3 v4 v5 : Option W} {h : VH} {N B C' : Env → VH → Prop} {T : W → VH → Prop} (hp : Pool h p) (hw : 0 < ws.length) (hl : ws.length < 1000) (hm : ∀ w ∈ ws, ∃ n, n ∈ NM ∧ w = .str n)
    (ht : h.get t = some (.dic kvs)) (htp : t ≠ p) (htn : t.num < h.nx.num) (hk : kvs.length < 1000) (hv : ∀ n, n ∈ NM → ∃ i, (dfind (.str n) kvs).getD (.int 0) = .int i)
    (q : ∀ n f i h', n ∈ NM → -3 < f → f < 3 → f ≠ 0 → (dfind (.str n) kvs).getD (.int 0) = .int i → Pool h' p → (∀ z, z ≠ p → z ≠ t → z.num < h.nx.num → h'.get z = h.get z) → h.nx.num ≤ h'.nx.num → h'.get t = some (.dic (dput (.str n) (.int (i + f)) kvs)) → N [some (.ref p), some (.lis ws), some (.ref t), v3, some (.str n), v5] h') :
    Sn ((lvl (C (d + 1)) 59).S [.asg (.nm 4) (.idx (.e (.var 1)) (.call 7 [.var 0, .blt .len [.e (.var 1)]])),
    .dsub (.var 2) (.var 4) (.bin .add (.dget (.var 2) (.var 4) (.cst (.int 0))) (.idx (.l (.lst [.cst (.int 1), .neg (.cst (.int 1)), .cst (.int 2)])) (.call 7 [.var 0, .cst (.int 3)])))] [some (.ref p), some (.lis ws), some (.ref t), v3, v4, v5] h) N T B C' := by
  repeat (first | ((with_reducible apply E_var); rfl) | with_reducible refine E_cst ?_ | with_reducible refine V_e ?_ | with_reducible refine V_l ?_ | with_reducible refine A_nil ?_ | with_reducible refine A_cons ?_ | with_reducible refine S_cons ?_ | with_reducible refine S_nil ?_ | with_reducible refine S_ret ?_ | with_reducible refine S_if ?_ | with_reducible refine S_asg ?_ | with_reducible refine T_val ?_ | with_reducible refine T_not ?_ | with_reducible refine T_cmp ?_ | with_reducible refine T_or1 ?_ | with_reducible refine T_or ?_ | with_reducible refine T_and1 ?_ | with_reducible refine T_and ?_ | with_reducible refine T_chn ?_ | with_reducible refine E_idx ?_ | with_reducible refine E_tup ?_ | with_reducible refine E_bin ?_ | with_reducible refine E_cmp ?_ | with_reducible refine E_isi ?_ | with_reducible refine E_blt ?_ | with_reducible refine E_call ?_ | with_reducible refine E_callK ?_ | with_reducible refine E_chn ?_ | with_reducible refine E_and1 ?_ | with_reducible refine E_and ?_ | with_reducible refine E_or1 ?_ | with_reducible refine E_or ?_ | with_reducible refine E_not ?_ | with_reducible refine E_neg ?_ | with_reducible refine E_lis ?_ | with_reducible refine E_new ?_ | with_reducible refine E_ndic ?_ | with_reducible refine E_ite ?_ | with_reducible refine E_didx ?_ | with_reducible refine E_dget ?_ | with_reducible refine E_app ?_ | with_reducible refine L_lst ?_ | with_reducible refine L_cat ?_ | with_reducible refine L_slc ?_ | with_reducible refine L_lof ?_ | with_reducible refine L_srt ?_ | with_reducible refine L_comp ?_ | with_reducible refine O_none ?_ | with_reducible refine O_some ?_ | with_reducible refine I_v ?_ | with_reducible refine I_rng ?_ | with_reducible refine I_zip ?_ | with_reducible refine I_enm ?_ | with_reducible refine S_for ?_ | with_reducible refine S_lcp ?_ | with_reducible refine S_lc ?_ | with_reducible refine S_par ?_ | with_reducible refine S_sub ?_ | with_reducible refine S_dsub ?_ | with_reducible refine S_exp ?_ | with_reducible refine R_add ?_ | with_reducible refine R_sub ?_ | ((with_reducible apply R_cmp); rfl) | ((with_reducible apply R_idx); rfl) | ((with_reducible apply R_ty); rfl) | ((with_reducible apply R_blt); rfl) | ((with_reducible apply R_bnd); rfl) | ((with_reducible apply R_map); rfl) | ((with_reducible apply R_wlk); rfl) | ((with_reducible apply R_seq); rfl) | ((with_reducible apply R_srt); rfl) | ((with_reducible apply R_pow); rfl) | ((with_reducible apply R_adds); rfl) | ((with_reducible apply R_muls); rfl) | ((with_reducible apply iteY); rfl) | ((with_reducible apply iteN); rfl) | ((with_reducible apply X_bl); rfl) | ((with_reducible apply X_int); rfl) | ((with_reducible apply X_bind); rfl) | ((with_reducible apply X_and); rfl) | ((with_reducible refine R_mod ?_ ?_); omega) | ((with_reducible refine R_div ?_ ?_); omega) | ((with_reducible refine R_mul ?_ ?_); first | (left; omega) | (right; omega) | (left; decide)) | ((with_reducible apply C_nil); rfl; rfl) | ((with_reducible apply F_nil); rfl; rfl) | ((with_reducible apply C_none); rfl; rfl; rfl) | ((with_reducible apply C_some); rfl; rfl; rfl) | ((with_reducible apply F_cons); rfl; rfl; rfl) | ((with_reducible refine ⟨?_, ?_, ?_⟩); (first | omega | decide); (first | omega | decide)))
  refine draw_spec hp (by show (0 : Int) < ((ws.length : Nat) : Int); omega) (by show ((ws.length : Nat) : Int) < _; omega) fun r h1 r0 r1 hp1 fr1 => ?_
  obtain ⟨n, hn, en⟩ := name_at (h := h1) hm r0 r1
  have t1 : h1.get t = some (.dic kvs) := (fr1.1 t htp htn).trans ht
  have d1 := dic_of t1
  repeat (first | with_reducible refine R_idx en ?_ | with_reducible refine X_dic d1 ?_ | with_reducible refine R_dget d1 rfl ?_ | ((with_reducible apply E_var); rfl) | with_reducible refine E_cst ?_ | with_reducible refine V_e ?_ | with_reducible refine V_l ?_ | with_reducible refine A_nil ?_ | with_reducible refine A_cons ?_ | with_reducible refine S_cons ?_ | with_reducible refine S_nil ?_ | with_reducible refine S_ret ?_ | with_reducible refine S_if ?_ | with_reducible refine S_asg ?_ | with_reducible refine T_val ?_ | with_reducible refine T_not ?_ | with_reducible refine T_cmp ?_ | with_reducible refine T_or1 ?_ | with_reducible refine T_or ?_ | with_reducible refine T_and1 ?_ | with_reducible refine T_and ?_ | with_reducible refine T_chn ?_ | with_reducible refine E_idx ?_ | with_reducible refine E_tup ?_ | with_reducible refine E_bin ?_ | with_reducible refine E_cmp ?_ | with_reducible refine E_isi ?_ | with_reducible refine E_blt ?_ | with_reducible refine E_call ?_ | with_reducible refine E_callK ?_ | with_reducible refine E_chn ?_ | with_reducible refine E_and1 ?_ | with_reducible refine E_and ?_ | with_reducible refine E_or1 ?_ | with_reducible refine E_or ?_ | with_reducible refine E_not ?_ | with_reducible refine E_neg ?_ | with_reducible refine E_lis ?_ | with_reducible refine E_new ?_ | with_reducible refine E_ndic ?_ | with_reducible refine E_ite ?_ | with_reducible refine E_didx ?_ | with_reducible refine E_dget ?_ | with_reducible refine E_app ?_ | with_reducible refine L_lst ?_ | with_reducible refine L_cat ?_ | with_reducible refine L_slc ?_ | with_reducible refine L_lof ?_ | with_reducible refine L_srt ?_ | with_reducible refine L_comp ?_ | with_reducible refine O_none ?_ | with_reducible refine O_some ?_ | with_reducible refine I_v ?_ | with_reducible refine I_rng ?_ | with_reducible refine I_zip ?_ | with_reducible refine I_enm ?_ | with_reducible refine S_for ?_ | with_reducible refine S_lcp ?_ | with_reducible refine S_lc ?_ | with_reducible refine S_par ?_ | with_reducible refine S_sub ?_ | with_reducible refine S_dsub ?_ | with_reducible refine S_exp ?_ | with_reducible refine R_add ?_ | with_reducible refine R_sub ?_ | ((with_reducible apply R_cmp); rfl) | ((with_reducible apply R_idx); rfl) | ((with_reducible apply R_ty); rfl) | ((with_reducible apply R_blt); rfl) | ((with_reducible apply R_bnd); rfl) | ((with_reducible apply R_map); rfl) | ((with_reducible apply R_wlk); rfl) | ((with_reducible apply R_seq); rfl) | ((with_reducible apply R_srt); rfl) | ((with_reducible apply R_pow); rfl) | ((with_reducible apply R_adds); rfl) | ((with_reducible apply R_muls); rfl) | ((with_reducible apply iteY); rfl) | ((with_reducible apply iteN); rfl) | ((with_reducible apply X_bl); rfl) | ((with_reducible apply X_int); rfl) | ((with_reducible apply X_bind); rfl) | ((with_reducible apply X_and); rfl) | ((with_reducible refine R_mod ?_ ?_); omega) | ((with_reducible refine R_div ?_ ?_); omega) | ((with_reducible refine R_mul ?_ ?_); first | (left; omega) | (right; omega) | (left; decide)) | ((with_reducible apply C_nil); rfl; rfl) | ((with_reducible apply F_nil); rfl; rfl) | ((with_reducible apply C_none); rfl; rfl; rfl) | ((with_reducible apply C_some); rfl; rfl; rfl) | ((with_reducible apply F_cons); rfl; rfl; rfl) | ((with_reducible refine ⟨?_, ?_, ?_⟩); (first | omega | decide); (first | omega | decide)))
  obtain ⟨i, hi⟩ := hv n hn
  rw [hi]
  refine draw_spec hp1 (by decide) (by decide) fun s h2 s0 s1 hp2 fr2 => ?_
  have t2 : h2.get t = some (.dic kvs) := (fr2.1 t htp (Nat.lt_of_lt_of_le htn fr1.2)).trans t1
  have d2 := dic_of t2
  have fin : ∀ f, -3 < f → f < 3 → f ≠ 0 → N [some (.ref p), some (.lis ws), some (.ref t), v3, some (.str n), v5] (h2.set t (.dic (dput (.str n) (.int (i + f)) kvs))) := by
    intro f f1 f2 f3
    obtain ⟨a, b, g0, g1, g2, g3, g4⟩ := hp2
    refine q n f i _ hn f1 f2 f3 hi ⟨a, b, (VH.get_set_ne _ _ (Ne.symm htp)).trans g0, g1, g2, g3, g4⟩ (fun z z1 z2 z3 => ?_) (Nat.le_trans fr1.2 fr2.2) (VH.get_set_same _ _ _)
    exact (VH.get_set_ne _ _ z2).trans ((fr2.1 z z1 (Nat.lt_of_lt_of_le z3 fr1.2)).trans (fr1.1 z z1 z3))
  have hk2 : Nat.blt kvs.length size = true := Nat.blt_eq.mpr (Nat.lt_trans hk (by decide))
  have h3 : s = 0 ∨ s = 1 ∨ s = 2 := by omega
  rcases h3 with rfl | rfl | rfl
  · repeat (first | refine ⟨_, _, d2, rfl, hk2, ?_⟩ | ((with_reducible apply E_var); rfl) | with_reducible refine E_cst ?_ | with_reducible refine V_e ?_ | with_reducible refine V_l ?_ | with_reducible refine A_nil ?_ | with_reducible refine A_cons ?_ | with_reducible refine S_cons ?_ | with_reducible refine S_nil ?_ | with_reducible refine S_ret ?_ | with_reducible refine S_if ?_ | with_reducible refine S_asg ?_ | with_reducible refine T_val ?_ | with_reducible refine T_not ?_ | with_reducible refine T_cmp ?_ | with_reducible refine T_or1 ?_ | with_reducible refine T_or ?_ | with_reducible refine T_and1 ?_ | with_reducible refine T_and ?_ | with_reducible refine T_chn ?_ | with_reducible refine E_idx ?_ | with_reducible refine E_tup ?_ | with_reducible refine E_bin ?_ | with_reducible refine E_cmp ?_ | with_reducible refine E_isi ?_ | with_reducible refine E_blt ?_ | with_reducible refine E_call ?_ | with_reducible refine E_callK ?_ | with_reducible refine E_chn ?_ | with_reducible refine E_and1 ?_ | with_reducible refine E_and ?_ | with_reducible refine E_or1 ?_ | with_reducible refine E_or ?_ | with_reducible refine E_not ?_ | with_reducible refine E_neg ?_ | with_reducible refine E_lis ?_ | with_reducible refine E_new ?_ | with_reducible refine E_ndic ?_ | with_reducible refine E_ite ?_ | with_reducible refine E_didx ?_ | with_reducible refine E_dget ?_ | with_reducible refine E_app ?_ | with_reducible refine L_lst ?_ | with_reducible refine L_cat ?_ | with_reducible refine L_slc ?_ | with_reducible refine L_lof ?_ | with_reducible refine L_srt ?_ | with_reducible refine L_comp ?_ | with_reducible refine O_none ?_ | with_reducible refine O_some ?_ | with_reducible refine I_v ?_ | with_reducible refine I_rng ?_ | with_reducible refine I_zip ?_ | with_reducible refine I_enm ?_ | with_reducible refine S_for ?_ | with_reducible refine S_lcp ?_ | with_reducible refine S_lc ?_ | with_reducible refine S_par ?_ | with_reducible refine S_sub ?_ | with_reducible refine S_dsub ?_ | with_reducible refine S_exp ?_ | with_reducible refine R_add ?_ | with_reducible refine R_sub ?_ | ((with_reducible apply R_cmp); rfl) | ((with_reducible apply R_idx); rfl) | ((with_reducible apply R_ty); rfl) | ((with_reducible apply R_blt); rfl) | ((with_reducible apply R_bnd); rfl) | ((with_reducible apply R_map); rfl) | ((with_reducible apply R_wlk); rfl) | ((with_reducible apply R_seq); rfl) | ((with_reducible apply R_srt); rfl) | ((with_reducible apply R_pow); rfl) | ((with_reducible apply R_adds); rfl) | ((with_reducible apply R_muls); rfl) | ((with_reducible apply iteY); rfl) | ((with_reducible apply iteN); rfl) | ((with_reducible apply X_bl); rfl) | ((with_reducible apply X_int); rfl) | ((with_reducible apply X_bind); rfl) | ((with_reducible apply X_and); rfl) | ((with_reducible refine R_mod ?_ ?_); omega) | ((with_reducible refine R_div ?_ ?_); omega) | ((with_reducible refine R_mul ?_ ?_); first | (left; omega) | (right; omega) | (left; decide)) | ((with_reducible apply C_nil); rfl; rfl) | ((with_reducible apply F_nil); rfl; rfl) | ((with_reducible apply C_none); rfl; rfl; rfl) | ((with_reducible apply C_some); rfl; rfl; rfl) | ((with_reducible apply F_cons); rfl; rfl; rfl) | ((with_reducible refine ⟨?_, ?_, ?_⟩); (first | omega | decide); (first | omega | decide)))
    exact fin 1 (by decide) (by decide) (by decide)
  · repeat (first | refine ⟨_, _, d2, rfl, hk2, ?_⟩ | ((with_reducible apply E_var); rfl) | with_reducible refine E_cst ?_ | with_reducible refine V_e ?_ | with_reducible refine V_l ?_ | with_reducible refine A_nil ?_ | with_reducible refine A_cons ?_ | with_reducible refine S_cons ?_ | with_reducible refine S_nil ?_ | with_reducible refine S_ret ?_ | with_reducible refine S_if ?_ | with_reducible refine S_asg ?_ | with_reducible refine T_val ?_ | with_reducible refine T_not ?_ | with_reducible refine T_cmp ?_ | with_reducible refine T_or1 ?_ | with_reducible refine T_or ?_ | with_reducible refine T_and1 ?_ | with_reducible refine T_and ?_ | with_reducible refine T_chn ?_ | with_reducible refine E_idx ?_ | with_reducible refine E_tup ?_ | with_reducible refine E_bin ?_ | with_reducible refine E_cmp ?_ | with_reducible refine E_isi ?_ | with_reducible refine E_blt ?_ | with_reducible refine E_call ?_ | with_reducible refine E_callK ?_ | with_reducible refine E_chn ?_ | with_reducible refine E_and1 ?_ | with_reducible refine E_and ?_ | with_reducible refine E_or1 ?_ | with_reducible refine E_or ?_ | with_reducible refine E_not ?_ | with_reducible refine E_neg ?_ | with_reducible refine E_lis ?_ | with_reducible refine E_new ?_ | with_reducible refine E_ndic ?_ | with_reducible refine E_ite ?_ | with_reducible refine E_didx ?_ | with_reducible refine E_dget ?_ | with_reducible refine E_app ?_ | with_reducible refine L_lst ?_ | with_reducible refine L_cat ?_ | with_reducible refine L_slc ?_ | with_reducible refine L_lof ?_ | with_reducible refine L_srt ?_ | with_reducible refine L_comp ?_ | with_reducible refine O_none ?_ | with_reducible refine O_some ?_ | with_reducible refine I_v ?_ | with_reducible refine I_rng ?_ | with_reducible refine I_zip ?_ | with_reducible refine I_enm ?_ | with_reducible refine S_for ?_ | with_reducible refine S_lcp ?_ | with_reducible refine S_lc ?_ | with_reducible refine S_par ?_ | with_reducible refine S_sub ?_ | with_reducible refine S_dsub ?_ | with_reducible refine S_exp ?_ | with_reducible refine R_add ?_ | with_reducible refine R_sub ?_ | ((with_reducible apply R_cmp); rfl) | ((with_reducible apply R_idx); rfl) | ((with_reducible apply R_ty); rfl) | ((with_reducible apply R_blt); rfl) | ((with_reducible apply R_bnd); rfl) | ((with_reducible apply R_map); rfl) | ((with_reducible apply R_wlk); rfl) | ((with_reducible apply R_seq); rfl) | ((with_reducible apply R_srt); rfl) | ((with_reducible apply R_pow); rfl) | ((with_reducible apply R_adds); rfl) | ((with_reducible apply R_muls); rfl) | ((with_reducible apply iteY); rfl) | ((with_reducible apply iteN); rfl) | ((with_reducible apply X_bl); rfl) | ((with_reducible apply X_int); rfl) | ((with_reducible apply X_bind); rfl) | ((with_reducible apply X_and); rfl) | ((with_reducible refine R_mod ?_ ?_); omega) | ((with_reducible refine R_div ?_ ?_); omega) | ((with_reducible refine R_mul ?_ ?_); first | (left; omega) | (right; omega) | (left; decide)) | ((with_reducible apply C_nil); rfl; rfl) | ((with_reducible apply F_nil); rfl; rfl) | ((with_reducible apply C_none); rfl; rfl; rfl) | ((with_reducible apply C_some); rfl; rfl; rfl) | ((with_reducible apply F_cons); rfl; rfl; rfl) | ((with_reducible refine ⟨?_, ?_, ?_⟩); (first | omega | decide); (first | omega | decide)))
    exact fin (-1) (by decide) (by decide) (by decide)
  · repeat (first | refine ⟨_, _, d2, rfl, hk2, ?_⟩ | ((with_reducible apply E_var); rfl) | with_reducible refine E_cst ?_ | with_reducible refine V_e ?_ | with_reducible refine V_l ?_ | with_reducible refine A_nil ?_ | with_reducible refine A_cons ?_ | with_reducible refine S_cons ?_ | with_reducible refine S_nil ?_ | with_reducible refine S_ret ?_ | with_reducible refine S_if ?_ | with_reducible refine S_asg ?_ | with_reducible refine T_val ?_ | with_reducible refine T_not ?_ | with_reducible refine T_cmp ?_ | with_reducible refine T_or1 ?_ | with_reducible refine T_or ?_ | with_reducible refine T_and1 ?_ | with_reducible refine T_and ?_ | with_reducible refine T_chn ?_ | with_reducible refine E_idx ?_ | with_reducible refine E_tup ?_ | with_reducible refine E_bin ?_ | with_reducible refine E_cmp ?_ | with_reducible refine E_isi ?_ | with_reducible refine E_blt ?_ | with_reducible refine E_call ?_ | with_reducible refine E_callK ?_ | with_reducible refine E_chn ?_ | with_reducible refine E_and1 ?_ | with_reducible refine E_and ?_ | with_reducible refine E_or1 ?_ | with_reducible refine E_or ?_ | with_reducible refine E_not ?_ | with_reducible refine E_neg ?_ | with_reducible refine E_lis ?_ | with_reducible refine E_new ?_ | with_reducible refine E_ndic ?_ | with_reducible refine E_ite ?_ | with_reducible refine E_didx ?_ | with_reducible refine E_dget ?_ | with_reducible refine E_app ?_ | with_reducible refine L_lst ?_ | with_reducible refine L_cat ?_ | with_reducible refine L_slc ?_ | with_reducible refine L_lof ?_ | with_reducible refine L_srt ?_ | with_reducible refine L_comp ?_ | with_reducible refine O_none ?_ | with_reducible refine O_some ?_ | with_reducible refine I_v ?_ | with_reducible refine I_rng ?_ | with_reducible refine I_zip ?_ | with_reducible refine I_enm ?_ | with_reducible refine S_for ?_ | with_reducible refine S_lcp ?_ | with_reducible refine S_lc ?_ | with_reducible refine S_par ?_ | with_reducible refine S_sub ?_ | with_reducible refine S_dsub ?_ | with_reducible refine S_exp ?_ | with_reducible refine R_add ?_ | with_reducible refine R_sub ?_ | ((with_reducible apply R_cmp); rfl) | ((with_reducible apply R_idx); rfl) | ((with_reducible apply R_ty); rfl) | ((with_reducible apply R_blt); rfl) | ((with_reducible apply R_bnd); rfl) | ((with_reducible apply R_map); rfl) | ((with_reducible apply R_wlk); rfl) | ((with_reducible apply R_seq); rfl) | ((with_reducible apply R_srt); rfl) | ((with_reducible apply R_pow); rfl) | ((with_reducible apply R_adds); rfl) | ((with_reducible apply R_muls); rfl) | ((with_reducible apply iteY); rfl) | ((with_reducible apply iteN); rfl) | ((with_reducible apply X_bl); rfl) | ((with_reducible apply X_int); rfl) | ((with_reducible apply X_bind); rfl) | ((with_reducible apply X_and); rfl) | ((with_reducible refine R_mod ?_ ?_); omega) | ((with_reducible refine R_div ?_ ?_); omega) | ((with_reducible refine R_mul ?_ ?_); first | (left; omega) | (right; omega) | (left; decide)) | ((with_reducible apply C_nil); rfl; rfl) | ((with_reducible apply F_nil); rfl; rfl) | ((with_reducible apply C_none); rfl; rfl; rfl) | ((with_reducible apply C_some); rfl; rfl; rfl) | ((with_reducible apply F_cons); rfl; rfl; rfl) | ((with_reducible refine ⟨?_, ?_, ?_⟩); (first | omega | decide); (first | omega | decide)))
    exact fin 2 (by decide) (by decide) (by decide)
end K01


set_option linter.all false
set_option maxRecDepth 100000
set_option maxHeartbeats 4000000
namespace K01
open VM
def Dc (kvs : List (W × W)) : Prop := kvs = [] ∨ (∃ n f, n ∈ NM ∧ -9 < f ∧ f < 9 ∧ kvs = [(.str n, .int f)]) ∨ ∃ n f m g, ((n, m) ∈ PR ∨ (m, n) ∈ PR) ∧ f ≠ 0 ∧ -9 < f ∧ f < 9 ∧ g ≠ 0 ∧ -9 < g ∧ g < 9 ∧ kvs = [(.str n, .int f), (.str m, .int g)]
theorem NM_pr {n m : List Nat} (h1 : n ∈ NM) (h2 : m ∈ NM) (ne : n ≠ m) : (n, m) ∈ PR ∨ (m, n) ∈ PR := by
  simp only [NM, List.mem_cons, List.not_mem_nil, or_false] at h1 h2
  rcases h1 with rfl | rfl | rfl | rfl <;> rcases h2 with rfl | rfl | rfl | rfl <;> first | exact absurd rfl ne | simp [PR]
theorem PR_lt {n m : List Nat} (h : (n, m) ∈ PR) : ltS n m = true ∧ ltS m n = false ∧ eqS n m = false ∧ eqS m n = false ∧ n ∈ NM ∧ m ∈ NM := by
  simp only [PR, List.mem_cons, List.not_mem_nil, or_false, Prod.mk.injEq] at h
  rcases h with ⟨rfl, rfl⟩ | ⟨rfl, rfl⟩ | ⟨rfl, rfl⟩ | ⟨rfl, rfl⟩ | ⟨rfl, rfl⟩ | ⟨rfl, rfl⟩ <;> decide
theorem self (n : List Nat) : beqW (.str n) (.str n) = true := beqW_self _
/-- what follows the loop -/
theorem tail_spec {d : Nat} {p t : Ad} {ws : List W} {kvs : List (W × W)} {v3 v4 v5 : Option W} {h : VH} {N B C' : Env → VH → Prop} {Q : W → VH → Prop} (hp : Pool h p) (ht : h.get t = some (.dic kvs)) (htp : t ≠ p) (htn : t.num < h.nx.num) (hd : Dc kvs)
    (q : ∀ w h', IsSum w → Pool h' p → Frm p h h' → Q w h') :
    Sn ((lvl (C (d + 1)) 60).S [.asg (.nm 5) (.blt .tuple [.l (.comp (.tup [.didx (.var 2) (.var 4), .var 4]) (.nm 4) [4] (.v (.l (.srt (.e (.var 2))))) (some (.cmp .ne (.e (.didx (.var 2) (.var 4))) (.e (.cst (.int 0))))))]),
    .ret (.tup [.cst (.str [115, 117, 109]), .idx (.l (.lst [.cst (.int 0), .cst (.int 1), .neg (.cst (.int 2)), .cst (.int 5)])) (.call 7 [.var 0, .cst (.int 4)]), .var 5])] [some (.ref p), some (.lis ws), some (.ref t), v3, v4, v5] h) N Q B C' := by
  have d0 := dic_of ht
  have so : sortF h (.w (.ref t)) = ((txts (kvs.map fun q : W × W => q.1)).bind fun ss => if Nat.blt ss.length 64 then some ((sortS ss).map W.str) else none) := by
    show (match h.get t with
      | some (.dic kvs) => (txts (kvs.map fun q : W × W => q.1)).bind fun ss => if Nat.blt ss.length 64 then some ((sortS ss).map W.str) else none
      | _ => (cell h t).bind fun ws => (txts ws).bind fun ss => if Nat.blt ss.length 64 then some ((sortS ss).map W.str) else none) = _
    rw [ht]
  have last : ∀ ts : List W, Tm ts → Rn (C (d + 1) 7 [W.ref p, W.int 4] h) fun k h2 =>
    Rn (Res.of (idxA h2 (Arg.fr [W.int 0, W.int 1, W.int (-2), W.int 5]) k) h2) fun w h1 =>
      Rn (evs (lvl (C (d + 1)) 58).E [IE.var 5] ([some (W.ref p), some (W.lis ws), some (W.ref t), v3, v4, v5].set 5 (some (.tup ts))) h1)
        fun ws h2 => Q (W.tup (W.str [115, 117, 109] :: w :: ws)) h2 := by
    intro ts hT
    refine draw_spec hp (by decide) (by decide) fun s h2 s0 s1 hp2 fr2 => ?_
    have h3 : s = 0 ∨ s = 1 ∨ s = 2 ∨ s = 3 := by omega
    rcases h3 with rfl | rfl | rfl | rfl
    · repeat (first | ((with_reducible apply E_var); rfl) | with_reducible refine E_cst ?_ | with_reducible refine V_e ?_ | with_reducible refine V_l ?_ | with_reducible refine A_nil ?_ | with_reducible refine A_cons ?_ | with_reducible refine S_cons ?_ | with_reducible refine S_nil ?_ | with_reducible refine S_ret ?_ | with_reducible refine S_if ?_ | with_reducible refine S_asg ?_ | with_reducible refine T_val ?_ | with_reducible refine T_not ?_ | with_reducible refine T_cmp ?_ | with_reducible refine T_or1 ?_ | with_reducible refine T_or ?_ | with_reducible refine T_and1 ?_ | with_reducible refine T_and ?_ | with_reducible refine T_chn ?_ | with_reducible refine E_idx ?_ | with_reducible refine E_tup ?_ | with_reducible refine E_bin ?_ | with_reducible refine E_cmp ?_ | with_reducible refine E_isi ?_ | with_reducible refine E_blt ?_ | with_reducible refine E_call ?_ | with_reducible refine E_callK ?_ | with_reducible refine E_chn ?_ | with_reducible refine E_and1 ?_ | with_reducible refine E_and ?_ | with_reducible refine E_or1 ?_ | with_reducible refine E_or ?_ | with_reducible refine E_not ?_ | with_reducible refine E_neg ?_ | with_reducible refine E_lis ?_ | with_reducible refine E_new ?_ | with_reducible refine E_ndic ?_ | with_reducible refine E_ite ?_ | with_reducible refine E_didx ?_ | with_reducible refine E_dget ?_ | with_reducible refine E_app ?_ | with_reducible refine L_lst ?_ | with_reducible refine L_cat ?_ | with_reducible refine L_slc ?_ | with_reducible refine L_lof ?_ | with_reducible refine L_srt ?_ | with_reducible refine L_comp ?_ | with_reducible refine O_none ?_ | with_reducible refine O_some ?_ | with_reducible refine I_v ?_ | with_reducible refine I_rng ?_ | with_reducible refine I_zip ?_ | with_reducible refine I_enm ?_ | with_reducible refine S_for ?_ | with_reducible refine S_lcp ?_ | with_reducible refine S_lc ?_ | with_reducible refine S_par ?_ | with_reducible refine S_sub ?_ | with_reducible refine S_dsub ?_ | with_reducible refine S_exp ?_ | with_reducible refine R_add ?_ | with_reducible refine R_sub ?_ | ((with_reducible apply R_cmp); rfl) | ((with_reducible apply R_idx); rfl) | ((with_reducible apply R_ty); rfl) | ((with_reducible apply R_blt); rfl) | ((with_reducible apply R_bnd); rfl) | ((with_reducible apply R_map); rfl) | ((with_reducible apply R_wlk); rfl) | ((with_reducible apply R_seq); rfl) | ((with_reducible apply R_srt); rfl) | ((with_reducible apply R_pow); rfl) | ((with_reducible apply R_adds); rfl) | ((with_reducible apply R_muls); rfl) | ((with_reducible apply iteY); rfl) | ((with_reducible apply iteN); rfl) | ((with_reducible apply X_bl); rfl) | ((with_reducible apply X_int); rfl) | ((with_reducible apply X_bind); rfl) | ((with_reducible apply X_and); rfl) | ((with_reducible refine R_mod ?_ ?_); omega) | ((with_reducible refine R_div ?_ ?_); omega) | ((with_reducible refine R_mul ?_ ?_); first | (left; omega) | (right; omega) | (left; decide)) | ((with_reducible apply C_nil); rfl; rfl) | ((with_reducible apply F_nil); rfl; rfl) | ((with_reducible apply C_none); rfl; rfl; rfl) | ((with_reducible apply C_some); rfl; rfl; rfl) | ((with_reducible apply F_cons); rfl; rfl; rfl) | ((with_reducible refine ⟨?_, ?_, ?_⟩); (first | omega | decide); (first | omega | decide)))
      exact q _ _ ⟨0, ts, rfl, by decide, by decide, hT⟩ hp2 fr2
    · repeat (first | ((with_reducible apply E_var); rfl) | with_reducible refine E_cst ?_ | with_reducible refine V_e ?_ | with_reducible refine V_l ?_ | with_reducible refine A_nil ?_ | with_reducible refine A_cons ?_ | with_reducible refine S_cons ?_ | with_reducible refine S_nil ?_ | with_reducible refine S_ret ?_ | with_reducible refine S_if ?_ | with_reducible refine S_asg ?_ | with_reducible refine T_val ?_ | with_reducible refine T_not ?_ | with_reducible refine T_cmp ?_ | with_reducible refine T_or1 ?_ | with_reducible refine T_or ?_ | with_reducible refine T_and1 ?_ | with_reducible refine T_and ?_ | with_reducible refine T_chn ?_ | with_reducible refine E_idx ?_ | with_reducible refine E_tup ?_ | with_reducible refine E_bin ?_ | with_reducible refine E_cmp ?_ | with_reducible refine E_isi ?_ | with_reducible refine E_blt ?_ | with_reducible refine E_call ?_ | with_reducible refine E_callK ?_ | with_reducible refine E_chn ?_ | with_reducible refine E_and1 ?_ | with_reducible refine E_and ?_ | with_reducible refine E_or1 ?_ | with_reducible refine E_or ?_ | with_reducible refine E_not ?_ | with_reducible refine E_neg ?_ | with_reducible refine E_lis ?_ | with_reducible refine E_new ?_ | with_reducible refine E_ndic ?_ | with_reducible refine E_ite ?_ | with_reducible refine E_didx ?_ | with_reducible refine E_dget ?_ | with_reducible refine E_app ?_ | with_reducible refine L_lst ?_ | with_reducible refine L_cat ?_ | with_reducible refine L_slc ?_ | with_reducible refine L_lof ?_ | with_reducible refine L_srt ?_ | with_reducible refine L_comp ?_ | with_reducible refine O_none ?_ | with_reducible refine O_some ?_ | with_reducible refine I_v ?_ | with_reducible refine I_rng ?_ | with_reducible refine I_zip ?_ | with_reducible refine I_enm ?_ | with_reducible refine S_for ?_ | with_reducible refine S_lcp ?_ | with_reducible refine S_lc ?_ | with_reducible refine S_par ?_ | with_reducible refine S_sub ?_ | with_reducible refine S_dsub ?_ | with_reducible refine S_exp ?_ | with_reducible refine R_add ?_ | with_reducible refine R_sub ?_ | ((with_reducible apply R_cmp); rfl) | ((with_reducible apply R_idx); rfl) | ((with_reducible apply R_ty); rfl) | ((with_reducible apply R_blt); rfl) | ((with_reducible apply R_bnd); rfl) | ((with_reducible apply R_map); rfl) | ((with_reducible apply R_wlk); rfl) | ((with_reducible apply R_seq); rfl) | ((with_reducible apply R_srt); rfl) | ((with_reducible apply R_pow); rfl) | ((with_reducible apply R_adds); rfl) | ((with_reducible apply R_muls); rfl) | ((with_reducible apply iteY); rfl) | ((with_reducible apply iteN); rfl) | ((with_reducible apply X_bl); rfl) | ((with_reducible apply X_int); rfl) | ((with_reducible apply X_bind); rfl) | ((with_reducible apply X_and); rfl) | ((with_reducible refine R_mod ?_ ?_); omega) | ((with_reducible refine R_div ?_ ?_); omega) | ((with_reducible refine R_mul ?_ ?_); first | (left; omega) | (right; omega) | (left; decide)) | ((with_reducible apply C_nil); rfl; rfl) | ((with_reducible apply F_nil); rfl; rfl) | ((with_reducible apply C_none); rfl; rfl; rfl) | ((with_reducible apply C_some); rfl; rfl; rfl) | ((with_reducible apply F_cons); rfl; rfl; rfl) | ((with_reducible refine ⟨?_, ?_, ?_⟩); (first | omega | decide); (first | omega | decide)))
      exact q _ _ ⟨1, ts, rfl, by decide, by decide, hT⟩ hp2 fr2
    · repeat (first | ((with_reducible apply E_var); rfl) | with_reducible refine E_cst ?_ | with_reducible refine V_e ?_ | with_reducible refine V_l ?_ | with_reducible refine A_nil ?_ | with_reducible refine A_cons ?_ | with_reducible refine S_cons ?_ | with_reducible refine S_nil ?_ | with_reducible refine S_ret ?_ | with_reducible refine S_if ?_ | with_reducible refine S_asg ?_ | with_reducible refine T_val ?_ | with_reducible refine T_not ?_ | with_reducible refine T_cmp ?_ | with_reducible refine T_or1 ?_ | with_reducible refine T_or ?_ | with_reducible refine T_and1 ?_ | with_reducible refine T_and ?_ | with_reducible refine T_chn ?_ | with_reducible refine E_idx ?_ | with_reducible refine E_tup ?_ | with_reducible refine E_bin ?_ | with_reducible refine E_cmp ?_ | with_reducible refine E_isi ?_ | with_reducible refine E_blt ?_ | with_reducible refine E_call ?_ | with_reducible refine E_callK ?_ | with_reducible refine E_chn ?_ | with_reducible refine E_and1 ?_ | with_reducible refine E_and ?_ | with_reducible refine E_or1 ?_ | with_reducible refine E_or ?_ | with_reducible refine E_not ?_ | with_reducible refine E_neg ?_ | with_reducible refine E_lis ?_ | with_reducible refine E_new ?_ | with_reducible refine E_ndic ?_ | with_reducible refine E_ite ?_ | with_reducible refine E_didx ?_ | with_reducible refine E_dget ?_ | with_reducible refine E_app ?_ | with_reducible refine L_lst ?_ | with_reducible refine L_cat ?_ | with_reducible refine L_slc ?_ | with_reducible refine L_lof ?_ | with_reducible refine L_srt ?_ | with_reducible refine L_comp ?_ | with_reducible refine O_none ?_ | with_reducible refine O_some ?_ | with_reducible refine I_v ?_ | with_reducible refine I_rng ?_ | with_reducible refine I_zip ?_ | with_reducible refine I_enm ?_ | with_reducible refine S_for ?_ | with_reducible refine S_lcp ?_ | with_reducible refine S_lc ?_ | with_reducible refine S_par ?_ | with_reducible refine S_sub ?_ | with_reducible refine S_dsub ?_ | with_reducible refine S_exp ?_ | with_reducible refine R_add ?_ | with_reducible refine R_sub ?_ | ((with_reducible apply R_cmp); rfl) | ((with_reducible apply R_idx); rfl) | ((with_reducible apply R_ty); rfl) | ((with_reducible apply R_blt); rfl) | ((with_reducible apply R_bnd); rfl) | ((with_reducible apply R_map); rfl) | ((with_reducible apply R_wlk); rfl) | ((with_reducible apply R_seq); rfl) | ((with_reducible apply R_srt); rfl) | ((with_reducible apply R_pow); rfl) | ((with_reducible apply R_adds); rfl) | ((with_reducible apply R_muls); rfl) | ((with_reducible apply iteY); rfl) | ((with_reducible apply iteN); rfl) | ((with_reducible apply X_bl); rfl) | ((with_reducible apply X_int); rfl) | ((with_reducible apply X_bind); rfl) | ((with_reducible apply X_and); rfl) | ((with_reducible refine R_mod ?_ ?_); omega) | ((with_reducible refine R_div ?_ ?_); omega) | ((with_reducible refine R_mul ?_ ?_); first | (left; omega) | (right; omega) | (left; decide)) | ((with_reducible apply C_nil); rfl; rfl) | ((with_reducible apply F_nil); rfl; rfl) | ((with_reducible apply C_none); rfl; rfl; rfl) | ((with_reducible apply C_some); rfl; rfl; rfl) | ((with_reducible apply F_cons); rfl; rfl; rfl) | ((with_reducible refine ⟨?_, ?_, ?_⟩); (first | omega | decide); (first | omega | decide)))
      exact q _ _ ⟨-2, ts, rfl, by decide, by decide, hT⟩ hp2 fr2
    · repeat (first | ((with_reducible apply E_var); rfl) | with_reducible refine E_cst ?_ | with_reducible refine V_e ?_ | with_reducible refine V_l ?_ | with_reducible refine A_nil ?_ | with_reducible refine A_cons ?_ | with_reducible refine S_cons ?_ | with_reducible refine S_nil ?_ | with_reducible refine S_ret ?_ | with_reducible refine S_if ?_ | with_reducible refine S_asg ?_ | with_reducible refine T_val ?_ | with_reducible refine T_not ?_ | with_reducible refine T_cmp ?_ | with_reducible refine T_or1 ?_ | with_reducible refine T_or ?_ | with_reducible refine T_and1 ?_ | with_reducible refine T_and ?_ | with_reducible refine T_chn ?_ | with_reducible refine E_idx ?_ | with_reducible refine E_tup ?_ | with_reducible refine E_bin ?_ | with_reducible refine E_cmp ?_ | with_reducible refine E_isi ?_ | with_reducible refine E_blt ?_ | with_reducible refine E_call ?_ | with_reducible refine E_callK ?_ | with_reducible refine E_chn ?_ | with_reducible refine E_and1 ?_ | with_reducible refine E_and ?_ | with_reducible refine E_or1 ?_ | with_reducible refine E_or ?_ | with_reducible refine E_not ?_ | with_reducible refine E_neg ?_ | with_reducible refine E_lis ?_ | with_reducible refine E_new ?_ | with_reducible refine E_ndic ?_ | with_reducible refine E_ite ?_ | with_reducible refine E_didx ?_ | with_reducible refine E_dget ?_ | with_reducible refine E_app ?_ | with_reducible refine L_lst ?_ | with_reducible refine L_cat ?_ | with_reducible refine L_slc ?_ | with_reducible refine L_lof ?_ | with_reducible refine L_srt ?_ | with_reducible refine L_comp ?_ | with_reducible refine O_none ?_ | with_reducible refine O_some ?_ | with_reducible refine I_v ?_ | with_reducible refine I_rng ?_ | with_reducible refine I_zip ?_ | with_reducible refine I_enm ?_ | with_reducible refine S_for ?_ | with_reducible refine S_lcp ?_ | with_reducible refine S_lc ?_ | with_reducible refine S_par ?_ | with_reducible refine S_sub ?_ | with_reducible refine S_dsub ?_ | with_reducible refine S_exp ?_ | with_reducible refine R_add ?_ | with_reducible refine R_sub ?_ | ((with_reducible apply R_cmp); rfl) | ((with_reducible apply R_idx); rfl) | ((with_reducible apply R_ty); rfl) | ((with_reducible apply R_blt); rfl) | ((with_reducible apply R_bnd); rfl) | ((with_reducible apply R_map); rfl) | ((with_reducible apply R_wlk); rfl) | ((with_reducible apply R_seq); rfl) | ((with_reducible apply R_srt); rfl) | ((with_reducible apply R_pow); rfl) | ((with_reducible apply R_adds); rfl) | ((with_reducible apply R_muls); rfl) | ((with_reducible apply iteY); rfl) | ((with_reducible apply iteN); rfl) | ((with_reducible apply X_bl); rfl) | ((with_reducible apply X_int); rfl) | ((with_reducible apply X_bind); rfl) | ((with_reducible apply X_and); rfl) | ((with_reducible refine R_mod ?_ ?_); omega) | ((with_reducible refine R_div ?_ ?_); omega) | ((with_reducible refine R_mul ?_ ?_); first | (left; omega) | (right; omega) | (left; decide)) | ((with_reducible apply C_nil); rfl; rfl) | ((with_reducible apply F_nil); rfl; rfl) | ((with_reducible apply C_none); rfl; rfl; rfl) | ((with_reducible apply C_some); rfl; rfl; rfl) | ((with_reducible apply F_cons); rfl; rfl; rfl) | ((with_reducible refine ⟨?_, ?_, ?_⟩); (first | omega | decide); (first | omega | decide)))
      exact q _ _ ⟨5, ts, rfl, by decide, by decide, hT⟩ hp2 fr2
  rcases hd with rfl | ⟨n, f, hn, f1, f2, rfl⟩ | ⟨n, f, m, g, hn, f0, f1, f2, g0, g1, g2, rfl⟩
  · have s1 : sortF h (.w (.ref t)) = some [] := so
    refine S_cons (S_asg ?_)
    repeat (first | with_reducible refine R_srt s1 ?_ | ((with_reducible apply E_var); rfl) | with_reducible refine E_cst ?_ | with_reducible refine V_e ?_ | with_reducible refine V_l ?_ | with_reducible refine A_nil ?_ | with_reducible refine A_cons ?_ | with_reducible refine S_cons ?_ | with_reducible refine S_nil ?_ | with_reducible refine S_ret ?_ | with_reducible refine S_if ?_ | with_reducible refine S_asg ?_ | with_reducible refine T_val ?_ | with_reducible refine T_not ?_ | with_reducible refine T_cmp ?_ | with_reducible refine T_or1 ?_ | with_reducible refine T_or ?_ | with_reducible refine T_and1 ?_ | with_reducible refine T_and ?_ | with_reducible refine T_chn ?_ | with_reducible refine E_idx ?_ | with_reducible refine E_tup ?_ | with_reducible refine E_bin ?_ | with_reducible refine E_cmp ?_ | with_reducible refine E_isi ?_ | with_reducible refine E_blt ?_ | with_reducible refine E_call ?_ | with_reducible refine E_callK ?_ | with_reducible refine E_chn ?_ | with_reducible refine E_and1 ?_ | with_reducible refine E_and ?_ | with_reducible refine E_or1 ?_ | with_reducible refine E_or ?_ | with_reducible refine E_not ?_ | with_reducible refine E_neg ?_ | with_reducible refine E_lis ?_ | with_reducible refine E_new ?_ | with_reducible refine E_ndic ?_ | with_reducible refine E_ite ?_ | with_reducible refine E_didx ?_ | with_reducible refine E_dget ?_ | with_reducible refine E_app ?_ | with_reducible refine L_lst ?_ | with_reducible refine L_cat ?_ | with_reducible refine L_slc ?_ | with_reducible refine L_lof ?_ | with_reducible refine L_srt ?_ | with_reducible refine L_comp ?_ | with_reducible refine O_none ?_ | with_reducible refine O_some ?_ | with_reducible refine I_v ?_ | with_reducible refine I_rng ?_ | with_reducible refine I_zip ?_ | with_reducible refine I_enm ?_ | with_reducible refine S_for ?_ | with_reducible refine S_lcp ?_ | with_reducible refine S_lc ?_ | with_reducible refine S_par ?_ | with_reducible refine S_sub ?_ | with_reducible refine S_dsub ?_ | with_reducible refine S_exp ?_ | with_reducible refine R_add ?_ | with_reducible refine R_sub ?_ | ((with_reducible apply R_cmp); rfl) | ((with_reducible apply R_idx); rfl) | ((with_reducible apply R_ty); rfl) | ((with_reducible apply R_blt); rfl) | ((with_reducible apply R_bnd); rfl) | ((with_reducible apply R_map); rfl) | ((with_reducible apply R_wlk); rfl) | ((with_reducible apply R_seq); rfl) | ((with_reducible apply R_srt); rfl) | ((with_reducible apply R_pow); rfl) | ((with_reducible apply R_adds); rfl) | ((with_reducible apply R_muls); rfl) | ((with_reducible apply iteY); rfl) | ((with_reducible apply iteN); rfl) | ((with_reducible apply X_bl); rfl) | ((with_reducible apply X_int); rfl) | ((with_reducible apply X_bind); rfl) | ((with_reducible apply X_and); rfl) | ((with_reducible refine R_mod ?_ ?_); omega) | ((with_reducible refine R_div ?_ ?_); omega) | ((with_reducible refine R_mul ?_ ?_); first | (left; omega) | (right; omega) | (left; decide)) | ((with_reducible apply C_nil); rfl; rfl) | ((with_reducible apply F_nil); rfl; rfl) | ((with_reducible apply C_none); rfl; rfl; rfl) | ((with_reducible apply C_some); rfl; rfl; rfl) | ((with_reducible apply F_cons); rfl; rfl; rfl) | ((with_reducible refine ⟨?_, ?_, ?_⟩); (first | omega | decide); (first | omega | decide)))
    exact last [] (.inl rfl)
  · have s1 : sortF h (.w (.ref t)) = some [.str n] := so
    have g1 : (if keyOk (.str n) then dfind (.str n) [(.str n, .int f)] else none) = some (W.int f) := by
      show (if beqW (.str n) (.str n) then some (W.int f) else none) = _
      rw [self]; rfl
    refine S_cons (S_asg ?_)
    by_cases f0 : f = 0
    · subst f0
      repeat (first | with_reducible refine R_srt s1 ?_ | with_reducible refine R_didx d0 g1 ?_ | ((with_reducible apply E_var); rfl) | with_reducible refine E_cst ?_ | with_reducible refine V_e ?_ | with_reducible refine V_l ?_ | with_reducible refine A_nil ?_ | with_reducible refine A_cons ?_ | with_reducible refine S_cons ?_ | with_reducible refine S_nil ?_ | with_reducible refine S_ret ?_ | with_reducible refine S_if ?_ | with_reducible refine S_asg ?_ | with_reducible refine T_val ?_ | with_reducible refine T_not ?_ | with_reducible refine T_cmp ?_ | with_reducible refine T_or1 ?_ | with_reducible refine T_or ?_ | with_reducible refine T_and1 ?_ | with_reducible refine T_and ?_ | with_reducible refine T_chn ?_ | with_reducible refine E_idx ?_ | with_reducible refine E_tup ?_ | with_reducible refine E_bin ?_ | with_reducible refine E_cmp ?_ | with_reducible refine E_isi ?_ | with_reducible refine E_blt ?_ | with_reducible refine E_call ?_ | with_reducible refine E_callK ?_ | with_reducible refine E_chn ?_ | with_reducible refine E_and1 ?_ | with_reducible refine E_and ?_ | with_reducible refine E_or1 ?_ | with_reducible refine E_or ?_ | with_reducible refine E_not ?_ | with_reducible refine E_neg ?_ | with_reducible refine E_lis ?_ | with_reducible refine E_new ?_ | with_reducible refine E_ndic ?_ | with_reducible refine E_ite ?_ | with_reducible refine E_didx ?_ | with_reducible refine E_dget ?_ | with_reducible refine E_app ?_ | with_reducible refine L_lst ?_ | with_reducible refine L_cat ?_ | with_reducible refine L_slc ?_ | with_reducible refine L_lof ?_ | with_reducible refine L_srt ?_ | with_reducible refine L_comp ?_ | with_reducible refine O_none ?_ | with_reducible refine O_some ?_ | with_reducible refine I_v ?_ | with_reducible refine I_rng ?_ | with_reducible refine I_zip ?_ | with_reducible refine I_enm ?_ | with_reducible refine S_for ?_ | with_reducible refine S_lcp ?_ | with_reducible refine S_lc ?_ | with_reducible refine S_par ?_ | with_reducible refine S_sub ?_ | with_reducible refine S_dsub ?_ | with_reducible refine S_exp ?_ | with_reducible refine R_add ?_ | with_reducible refine R_sub ?_ | ((with_reducible apply R_cmp); rfl) | ((with_reducible apply R_idx); rfl) | ((with_reducible apply R_ty); rfl) | ((with_reducible apply R_blt); rfl) | ((with_reducible apply R_bnd); rfl) | ((with_reducible apply R_map); rfl) | ((with_reducible apply R_wlk); rfl) | ((with_reducible apply R_seq); rfl) | ((with_reducible apply R_srt); rfl) | ((with_reducible apply R_pow); rfl) | ((with_reducible apply R_adds); rfl) | ((with_reducible apply R_muls); rfl) | ((with_reducible apply iteY); rfl) | ((with_reducible apply iteN); rfl) | ((with_reducible apply X_bl); rfl) | ((with_reducible apply X_int); rfl) | ((with_reducible apply X_bind); rfl) | ((with_reducible apply X_and); rfl) | ((with_reducible refine R_mod ?_ ?_); omega) | ((with_reducible refine R_div ?_ ?_); omega) | ((with_reducible refine R_mul ?_ ?_); first | (left; omega) | (right; omega) | (left; decide)) | ((with_reducible apply C_nil); rfl; rfl) | ((with_reducible apply F_nil); rfl; rfl) | ((with_reducible apply C_none); rfl; rfl; rfl) | ((with_reducible apply C_some); rfl; rfl; rfl) | ((with_reducible apply F_cons); rfl; rfl; rfl) | ((with_reducible refine ⟨?_, ?_, ?_⟩); (first | omega | decide); (first | omega | decide)))
      exact last [] (.inl rfl)
    · have e : (!eqP (.int f) (.int 0)) = true := by
        show (!decide (f = 0)) = true
        rw [decide_eq_false f0]; rfl
      repeat (first | with_reducible refine R_srt s1 ?_ | with_reducible refine R_didx d0 g1 ?_ | with_reducible refine iteY e ?_ | ((with_reducible apply E_var); rfl) | with_reducible refine E_cst ?_ | with_reducible refine V_e ?_ | with_reducible refine V_l ?_ | with_reducible refine A_nil ?_ | with_reducible refine A_cons ?_ | with_reducible refine S_cons ?_ | with_reducible refine S_nil ?_ | with_reducible refine S_ret ?_ | with_reducible refine S_if ?_ | with_reducible refine S_asg ?_ | with_reducible refine T_val ?_ | with_reducible refine T_not ?_ | with_reducible refine T_cmp ?_ | with_reducible refine T_or1 ?_ | with_reducible refine T_or ?_ | with_reducible refine T_and1 ?_ | with_reducible refine T_and ?_ | with_reducible refine T_chn ?_ | with_reducible refine E_idx ?_ | with_reducible refine E_tup ?_ | with_reducible refine E_bin ?_ | with_reducible refine E_cmp ?_ | with_reducible refine E_isi ?_ | with_reducible refine E_blt ?_ | with_reducible refine E_call ?_ | with_reducible refine E_callK ?_ | with_reducible refine E_chn ?_ | with_reducible refine E_and1 ?_ | with_reducible refine E_and ?_ | with_reducible refine E_or1 ?_ | with_reducible refine E_or ?_ | with_reducible refine E_not ?_ | with_reducible refine E_neg ?_ | with_reducible refine E_lis ?_ | with_reducible refine E_new ?_ | with_reducible refine E_ndic ?_ | with_reducible refine E_ite ?_ | with_reducible refine E_didx ?_ | with_reducible refine E_dget ?_ | with_reducible refine E_app ?_ | with_reducible refine L_lst ?_ | with_reducible refine L_cat ?_ | with_reducible refine L_slc ?_ | with_reducible refine L_lof ?_ | with_reducible refine L_srt ?_ | with_reducible refine L_comp ?_ | with_reducible refine O_none ?_ | with_reducible refine O_some ?_ | with_reducible refine I_v ?_ | with_reducible refine I_rng ?_ | with_reducible refine I_zip ?_ | with_reducible refine I_enm ?_ | with_reducible refine S_for ?_ | with_reducible refine S_lcp ?_ | with_reducible refine S_lc ?_ | with_reducible refine S_par ?_ | with_reducible refine S_sub ?_ | with_reducible refine S_dsub ?_ | with_reducible refine S_exp ?_ | with_reducible refine R_add ?_ | with_reducible refine R_sub ?_ | ((with_reducible apply R_cmp); rfl) | ((with_reducible apply R_idx); rfl) | ((with_reducible apply R_ty); rfl) | ((with_reducible apply R_blt); rfl) | ((with_reducible apply R_bnd); rfl) | ((with_reducible apply R_map); rfl) | ((with_reducible apply R_wlk); rfl) | ((with_reducible apply R_seq); rfl) | ((with_reducible apply R_srt); rfl) | ((with_reducible apply R_pow); rfl) | ((with_reducible apply R_adds); rfl) | ((with_reducible apply R_muls); rfl) | ((with_reducible apply iteY); rfl) | ((with_reducible apply iteN); rfl) | ((with_reducible apply X_bl); rfl) | ((with_reducible apply X_int); rfl) | ((with_reducible apply X_bind); rfl) | ((with_reducible apply X_and); rfl) | ((with_reducible refine R_mod ?_ ?_); omega) | ((with_reducible refine R_div ?_ ?_); omega) | ((with_reducible refine R_mul ?_ ?_); first | (left; omega) | (right; omega) | (left; decide)) | ((with_reducible apply C_nil); rfl; rfl) | ((with_reducible apply F_nil); rfl; rfl) | ((with_reducible apply C_none); rfl; rfl; rfl) | ((with_reducible apply C_some); rfl; rfl; rfl) | ((with_reducible apply F_cons); rfl; rfl; rfl) | ((with_reducible refine ⟨?_, ?_, ?_⟩); (first | omega | decide); (first | omega | decide)))
      exact last [.tup [.int f, .str n]] (.inr (.inl ⟨f, n, hn, f0, f1, f2, rfl⟩))
  · have e : (!eqP (.int f) (.int 0)) = true := by
      show (!decide (f = 0)) = true
      rw [decide_eq_false f0]; rfl
    have e' : (!eqP (.int g) (.int 0)) = true := by
      show (!decide (g = 0)) = true
      rw [decide_eq_false g0]; rfl
    have i1 : (if keyOk (.str n) then dfind (.str n) [(.str n, .int f), (.str m, .int g)] else none) = some (W.int f) := by
      show (if beqW (.str n) (.str n) then some (W.int f) else _) = _
      rw [self]; rfl
    have ne : eqS n m = false := by
      rcases hn with hn | hn
      · exact (PR_lt hn).2.2.1
      · exact (PR_lt hn).2.2.2.1
    have i2 : (if keyOk (.str m) then dfind (.str m) [(.str n, .int f), (.str m, .int g)] else none) = some (W.int g) := by
      show (if eqS n m then some (W.int f) else if beqW (.str m) (.str m) then some (W.int g) else none) = _
      rw [self, ne]; rfl
    refine S_cons (S_asg ?_)
    rcases hn with hn | hn
    · have s1 : sortF h (.w (.ref t)) = some [.str n, .str m] := by
        rw [so]
        show some ((if ltS m n then m :: [n] else n :: [m]).map W.str) = _
        rw [(PR_lt hn).2.1]; rfl
      repeat (first | with_reducible refine R_srt s1 ?_ | with_reducible refine R_didx d0 i1 ?_ | with_reducible refine R_didx d0 i2 ?_ | with_reducible refine iteY e ?_ | with_reducible refine iteY e' ?_ | ((with_reducible apply E_var); rfl) | with_reducible refine E_cst ?_ | with_reducible refine V_e ?_ | with_reducible refine V_l ?_ | with_reducible refine A_nil ?_ | with_reducible refine A_cons ?_ | with_reducible refine S_cons ?_ | with_reducible refine S_nil ?_ | with_reducible refine S_ret ?_ | with_reducible refine S_if ?_ | with_reducible refine S_asg ?_ | with_reducible refine T_val ?_ | with_reducible refine T_not ?_ | with_reducible refine T_cmp ?_ | with_reducible refine T_or1 ?_ | with_reducible refine T_or ?_ | with_reducible refine T_and1 ?_ | with_reducible refine T_and ?_ | with_reducible refine T_chn ?_ | with_reducible refine E_idx ?_ | with_reducible refine E_tup ?_ | with_reducible refine E_bin ?_ | with_reducible refine E_cmp ?_ | with_reducible refine E_isi ?_ | with_reducible refine E_blt ?_ | with_reducible refine E_call ?_ | with_reducible refine E_callK ?_ | with_reducible refine E_chn ?_ | with_reducible refine E_and1 ?_ | with_reducible refine E_and ?_ | with_reducible refine E_or1 ?_ | with_reducible refine E_or ?_ | with_reducible refine E_not ?_ | with_reducible refine E_neg ?_ | with_reducible refine E_lis ?_ | with_reducible refine E_new ?_ | with_reducible refine E_ndic ?_ | with_reducible refine E_ite ?_ | with_reducible refine E_didx ?_ | with_reducible refine E_dget ?_ | with_reducible refine E_app ?_ | with_reducible refine L_lst ?_ | with_reducible refine L_cat ?_ | with_reducible refine L_slc ?_ | with_reducible refine L_lof ?_ | with_reducible refine L_srt ?_ | with_reducible refine L_comp ?_ | with_reducible refine O_none ?_ | with_reducible refine O_some ?_ | with_reducible refine I_v ?_ | with_reducible refine I_rng ?_ | with_reducible refine I_zip ?_ | with_reducible refine I_enm ?_ | with_reducible refine S_for ?_ | with_reducible refine S_lcp ?_ | with_reducible refine S_lc ?_ | with_reducible refine S_par ?_ | with_reducible refine S_sub ?_ | with_reducible refine S_dsub ?_ | with_reducible refine S_exp ?_ | with_reducible refine R_add ?_ | with_reducible refine R_sub ?_ | ((with_reducible apply R_cmp); rfl) | ((with_reducible apply R_idx); rfl) | ((with_reducible apply R_ty); rfl) | ((with_reducible apply R_blt); rfl) | ((with_reducible apply R_bnd); rfl) | ((with_reducible apply R_map); rfl) | ((with_reducible apply R_wlk); rfl) | ((with_reducible apply R_seq); rfl) | ((with_reducible apply R_srt); rfl) | ((with_reducible apply R_pow); rfl) | ((with_reducible apply R_adds); rfl) | ((with_reducible apply R_muls); rfl) | ((with_reducible apply iteY); rfl) | ((with_reducible apply iteN); rfl) | ((with_reducible apply X_bl); rfl) | ((with_reducible apply X_int); rfl) | ((with_reducible apply X_bind); rfl) | ((with_reducible apply X_and); rfl) | ((with_reducible refine R_mod ?_ ?_); omega) | ((with_reducible refine R_div ?_ ?_); omega) | ((with_reducible refine R_mul ?_ ?_); first | (left; omega) | (right; omega) | (left; decide)) | ((with_reducible apply C_nil); rfl; rfl) | ((with_reducible apply F_nil); rfl; rfl) | ((with_reducible apply C_none); rfl; rfl; rfl) | ((with_reducible apply C_some); rfl; rfl; rfl) | ((with_reducible apply F_cons); rfl; rfl; rfl) | ((with_reducible refine ⟨?_, ?_, ?_⟩); (first | omega | decide); (first | omega | decide)))
      exact last [.tup [.int f, .str n], .tup [.int g, .str m]] (.inr (.inr ⟨f, n, g, m, hn, f0, f1, f2, g0, g1, g2, rfl⟩))
    · have s1 : sortF h (.w (.ref t)) = some [.str m, .str n] := by
        rw [so]
        show some ((if ltS m n then m :: [n] else n :: [m]).map W.str) = _
        rw [(PR_lt hn).1]; rfl
      repeat (first | with_reducible refine R_srt s1 ?_ | with_reducible refine R_didx d0 i1 ?_ | with_reducible refine R_didx d0 i2 ?_ | with_reducible refine iteY e ?_ | with_reducible refine iteY e' ?_ | ((with_reducible apply E_var); rfl) | with_reducible refine E_cst ?_ | with_reducible refine V_e ?_ | with_reducible refine V_l ?_ | with_reducible refine A_nil ?_ | with_reducible refine A_cons ?_ | with_reducible refine S_cons ?_ | with_reducible refine S_nil ?_ | with_reducible refine S_ret ?_ | with_reducible refine S_if ?_ | with_reducible refine S_asg ?_ | with_reducible refine T_val ?_ | with_reducible refine T_not ?_ | with_reducible refine T_cmp ?_ | with_reducible refine T_or1 ?_ | with_reducible refine T_or ?_ | with_reducible refine T_and1 ?_ | with_reducible refine T_and ?_ | with_reducible refine T_chn ?_ | with_reducible refine E_idx ?_ | with_reducible refine E_tup ?_ | with_reducible refine E_bin ?_ | with_reducible refine E_cmp ?_ | with_reducible refine E_isi ?_ | with_reducible refine E_blt ?_ | with_reducible refine E_call ?_ | with_reducible refine E_callK ?_ | with_reducible refine E_chn ?_ | with_reducible refine E_and1 ?_ | with_reducible refine E_and ?_ | with_reducible refine E_or1 ?_ | with_reducible refine E_or ?_ | with_reducible refine E_not ?_ | with_reducible refine E_neg ?_ | with_reducible refine E_lis ?_ | with_reducible refine E_new ?_ | with_reducible refine E_ndic ?_ | with_reducible refine E_ite ?_ | with_reducible refine E_didx ?_ | with_reducible refine E_dget ?_ | with_reducible refine E_app ?_ | with_reducible refine L_lst ?_ | with_reducible refine L_cat ?_ | with_reducible refine L_slc ?_ | with_reducible refine L_lof ?_ | with_reducible refine L_srt ?_ | with_reducible refine L_comp ?_ | with_reducible refine O_none ?_ | with_reducible refine O_some ?_ | with_reducible refine I_v ?_ | with_reducible refine I_rng ?_ | with_reducible refine I_zip ?_ | with_reducible refine I_enm ?_ | with_reducible refine S_for ?_ | with_reducible refine S_lcp ?_ | with_reducible refine S_lc ?_ | with_reducible refine S_par ?_ | with_reducible refine S_sub ?_ | with_reducible refine S_dsub ?_ | with_reducible refine S_exp ?_ | with_reducible refine R_add ?_ | with_reducible refine R_sub ?_ | ((with_reducible apply R_cmp); rfl) | ((with_reducible apply R_idx); rfl) | ((with_reducible apply R_ty); rfl) | ((with_reducible apply R_blt); rfl) | ((with_reducible apply R_bnd); rfl) | ((with_reducible apply R_map); rfl) | ((with_reducible apply R_wlk); rfl) | ((with_reducible apply R_seq); rfl) | ((with_reducible apply R_srt); rfl) | ((with_reducible apply R_pow); rfl) | ((with_reducible apply R_adds); rfl) | ((with_reducible apply R_muls); rfl) | ((with_reducible apply iteY); rfl) | ((with_reducible apply iteN); rfl) | ((with_reducible apply X_bl); rfl) | ((with_reducible apply X_int); rfl) | ((with_reducible apply X_bind); rfl) | ((with_reducible apply X_and); rfl) | ((with_reducible refine R_mod ?_ ?_); omega) | ((with_reducible refine R_div ?_ ?_); omega) | ((with_reducible refine R_mul ?_ ?_); first | (left; omega) | (right; omega) | (left; decide)) | ((with_reducible apply C_nil); rfl; rfl) | ((with_reducible apply F_nil); rfl; rfl) | ((with_reducible apply C_none); rfl; rfl; rfl) | ((with_reducible apply C_some); rfl; rfl; rfl) | ((with_reducible apply F_cons); rfl; rfl; rfl) | ((with_reducible refine ⟨?_, ?_, ?_⟩); (first | omega | decide); (first | omega | decide)))
      exact last [.tup [.int g, .str m], .tup [.int f, .str n]] (.inr (.inr ⟨g, m, f, n, hn, g0, g1, g2, f0, f1, f2, rfl⟩))
theorem dput_new {n m : List Nat} {f : Int} {v : W} (ne : eqS n m = false) : dput (.str m) v [(.str n, .int f)] = [(.str n, .int f), (.str m, v)] := by
  have e : dfind (.str m) [(.str n, .int f)] = none := by
    show (if eqS n m then some (W.int f) else none) = _
    rw [ne]; rfl
  unfold dput
  rw [e]; rfl
theorem dput_old {n : List Nat} {f : Int} {v : W} : dput (.str n) v [(.str n, .int f)] = [(.str n, v)] := by
  have e : dfind (.str n) [(.str n, .int f)] = some (.int f) := by
    show (if beqW (.str n) (.str n) then some (W.int f) else none) = _
    rw [self]; rfl
  unfold dput
  rw [e]
  show [if beqW (.str n) (.str n) then (W.str n, v) else _] = _
  rw [self]; rfl
theorem ne_nil {ws : List W} {h : VH} (hw : 0 < ws.length) (hm : ∀ w ∈ ws, ∃ n, n ∈ NM ∧ w = .str n) : cmpA h .ne (.w (.lis ws)) (.fr []) = some true := by
  have ok : ∀ (k : Nat) (l : List W), (∀ w ∈ l, ∃ n, n ∈ NM ∧ w = .str n) → okWs k l = true := by
    intro k l
    induction l with
    | nil => intro _; cases k <;> rfl
    | cons a l ih =>
      intro hl
      obtain ⟨n, _, rfl⟩ := hl a List.mem_cons_self
      have := ih fun w hw => hl w (List.mem_cons_of_mem _ hw)
      cases k <;> (simp only [okWs, okW, Bool.true_and]; exact this)
  cases ws with
  | nil => exact absurd hw (by decide)
  | cons a l =>
    show ((if okWs 59 (a :: l) && okW 60 (.lis []) then some (eqP (.lis (a :: l)) (.lis [])) else none).map (!·)) = some true
    rw [ok 59 (a :: l) hm]; rfl
theorem sum_spec {d : Nat} {p : Ad} {ws : List W} {h : VH} {Q : W → VH → Prop} (hp : Pool h p) (hw : 0 < ws.length) (hl : ws.length < 1000) (hm : ∀ w ∈ ws, ∃ n, n ∈ NM ∧ w = .str n)
    (q : ∀ w h', IsSum w → Pool h' p → Frm p h h' → Q w h') : Rn (C (d + 2) 8 [.ref p, .lis ws] h) Q := by
  have hne : ∀ h, cmpA h .ne (.w (.lis ws)) (.fr []) = some true := fun h => ne_nil hw hm
  have tp : h.nx ≠ p := Ne.symm (num_ne hp.nx)
  have hp1 : Pool (h.push (.dic [])) p := by
    obtain ⟨a, b, g0, g1, g2, g3, g4⟩ := hp
    refine ⟨a, b, (VH.get_push_ne _ _ (num_ne g4)).trans g0, g1, g2, g3, ?_⟩
    show p.num < h.nx.succ.num
    rw [Ad.num_succ]; omega
  have hn1 : h.nx.num < (h.push (.dic [])).nx.num := by
    show h.nx.num < h.nx.succ.num
    rw [Ad.num_succ]; exact Nat.lt_succ_self _
  have pg : ∀ z, z.num < h.nx.num → (h.push (.dic [])).get z = h.get z := fun z hz => VH.get_push_ne _ _ (num_ne hz)
  refine Rn_call rfl rfl ?_
  repeat (first | ((with_reducible apply E_var); rfl) | with_reducible refine E_cst ?_ | with_reducible refine V_e ?_ | with_reducible refine V_l ?_ | with_reducible refine A_nil ?_ | with_reducible refine A_cons ?_ | with_reducible refine S_cons ?_ | with_reducible refine S_nil ?_ | with_reducible refine S_ret ?_ | with_reducible refine S_if ?_ | with_reducible refine S_asg ?_ | with_reducible refine T_val ?_ | with_reducible refine T_not ?_ | with_reducible refine T_cmp ?_ | with_reducible refine T_or1 ?_ | with_reducible refine T_or ?_ | with_reducible refine T_and1 ?_ | with_reducible refine T_and ?_ | with_reducible refine T_chn ?_ | with_reducible refine E_idx ?_ | with_reducible refine E_tup ?_ | with_reducible refine E_bin ?_ | with_reducible refine E_cmp ?_ | with_reducible refine E_isi ?_ | with_reducible refine E_blt ?_ | with_reducible refine E_call ?_ | with_reducible refine E_callK ?_ | with_reducible refine E_chn ?_ | with_reducible refine E_and1 ?_ | with_reducible refine E_and ?_ | with_reducible refine E_or1 ?_ | with_reducible refine E_or ?_ | with_reducible refine E_not ?_ | with_reducible refine E_neg ?_ | with_reducible refine E_lis ?_ | with_reducible refine E_new ?_ | with_reducible refine E_ndic ?_ | with_reducible refine E_ite ?_ | with_reducible refine E_didx ?_ | with_reducible refine E_dget ?_ | with_reducible refine E_app ?_ | with_reducible refine L_lst ?_ | with_reducible refine L_cat ?_ | with_reducible refine L_slc ?_ | with_reducible refine L_lof ?_ | with_reducible refine L_srt ?_ | with_reducible refine L_comp ?_ | with_reducible refine O_none ?_ | with_reducible refine O_some ?_ | with_reducible refine I_v ?_ | with_reducible refine I_rng ?_ | with_reducible refine I_zip ?_ | with_reducible refine I_enm ?_ | with_reducible refine S_for ?_ | with_reducible refine S_lcp ?_ | with_reducible refine S_lc ?_ | with_reducible refine S_par ?_ | with_reducible refine S_sub ?_ | with_reducible refine S_dsub ?_ | with_reducible refine S_exp ?_ | with_reducible refine R_add ?_ | with_reducible refine R_sub ?_ | ((with_reducible apply R_cmp); rfl) | ((with_reducible apply R_idx); rfl) | ((with_reducible apply R_ty); rfl) | ((with_reducible apply R_blt); rfl) | ((with_reducible apply R_bnd); rfl) | ((with_reducible apply R_map); rfl) | ((with_reducible apply R_wlk); rfl) | ((with_reducible apply R_seq); rfl) | ((with_reducible apply R_srt); rfl) | ((with_reducible apply R_pow); rfl) | ((with_reducible apply R_adds); rfl) | ((with_reducible apply R_muls); rfl) | ((with_reducible apply iteY); rfl) | ((with_reducible apply iteN); rfl) | ((with_reducible apply X_bl); rfl) | ((with_reducible apply X_int); rfl) | ((with_reducible apply X_bind); rfl) | ((with_reducible apply X_and); rfl) | ((with_reducible refine R_mod ?_ ?_); omega) | ((with_reducible refine R_div ?_ ?_); omega) | ((with_reducible refine R_mul ?_ ?_); first | (left; omega) | (right; omega) | (left; decide)) | ((with_reducible apply C_nil); rfl; rfl) | ((with_reducible apply F_nil); rfl; rfl) | ((with_reducible apply C_none); rfl; rfl; rfl) | ((with_reducible apply C_some); rfl; rfl; rfl) | ((with_reducible apply F_cons); rfl; rfl; rfl) | ((with_reducible refine ⟨?_, ?_, ?_⟩); (first | omega | decide); (first | omega | decide)))
  refine draw_spec hp1 (by decide) (by decide) fun r h1 r0 r1 hpa fr1 => ?_
  have t1 : h1.get h.nx = some (.dic []) := (fr1.1 h.nx tp hn1).trans (VH.get_push_same _ _)
  have n1 : h.nx.num < h1.nx.num := Nat.lt_of_lt_of_le hn1 fr1.2
  have g1 : ∀ z, z ≠ p → z.num < h.nx.num → h1.get z = h.get z := fun z z1 z2 => (fr1.1 z z1 (Nat.lt_trans z2 hn1)).trans (pg z z2)
  have fin : ∀ (h2 : VH) (kvs : List (W × W)) (v3 v4 v5 : Option W), Pool h2 p → h2.get h.nx = some (.dic kvs) → h.nx.num < h2.nx.num → Dc kvs → (∀ z, z ≠ p → z.num < h.nx.num → h2.get z = h.get z) →
      Sn ((lvl (C (d + 1)) 60).S [.asg (.nm 5) (.blt .tuple [.l (.comp (.tup [.didx (.var 2) (.var 4), .var 4]) (.nm 4) [4] (.v (.l (.srt (.e (.var 2))))) (some (.cmp .ne (.e (.didx (.var 2) (.var 4))) (.e (.cst (.int 0))))))]),
    .ret (.tup [.cst (.str [115, 117, 109]), .idx (.l (.lst [.cst (.int 0), .cst (.int 1), .neg (.cst (.int 2)), .cst (.int 5)])) (.call 7 [.var 0, .cst (.int 4)]), .var 5])] [some (.ref p), some (.lis ws), some (.ref h.nx), v3, v4, v5] h2) (fun _ h => Q .non h) Q (fun _ _ => False) (fun _ _ => False) := by
    intro h2 kvs v3 v4 v5 a1 a2 a3 a4 a5
    refine tail_spec a1 a2 tp a3 a4 fun w h3 b1 b2 b3 => q w h3 b1 b2 ⟨fun z z1 z2 => (b3.1 z z1 (Nat.lt_trans z2 a3)).trans (a5 z z1 z2), Nat.le_of_lt (Nat.lt_of_lt_of_le a3 b3.2)⟩
  have h3 : r = 0 ∨ r = 1 ∨ r = 2 := by omega
  have v0 : ∀ n, n ∈ NM → ∃ i, (dfind (.str n) []).getD (.int 0) = .int i := fun n _ => ⟨0, rfl⟩
  rcases h3 with rfl | rfl | rfl
  · repeat (first | with_reducible refine R_cmp (hne _) ?_ | ((with_reducible apply E_var); rfl) | with_reducible refine E_cst ?_ | with_reducible refine V_e ?_ | with_reducible refine V_l ?_ | with_reducible refine A_nil ?_ | with_reducible refine A_cons ?_ | with_reducible refine S_cons ?_ | with_reducible refine S_nil ?_ | with_reducible refine S_ret ?_ | with_reducible refine S_if ?_ | with_reducible refine S_asg ?_ | with_reducible refine T_val ?_ | with_reducible refine T_not ?_ | with_reducible refine T_cmp ?_ | with_reducible refine T_or1 ?_ | with_reducible refine T_or ?_ | with_reducible refine T_and1 ?_ | with_reducible refine T_and ?_ | with_reducible refine T_chn ?_ | with_reducible refine E_idx ?_ | with_reducible refine E_tup ?_ | with_reducible refine E_bin ?_ | with_reducible refine E_cmp ?_ | with_reducible refine E_isi ?_ | with_reducible refine E_blt ?_ | with_reducible refine E_call ?_ | with_reducible refine E_callK ?_ | with_reducible refine E_chn ?_ | with_reducible refine E_and1 ?_ | with_reducible refine E_and ?_ | with_reducible refine E_or1 ?_ | with_reducible refine E_or ?_ | with_reducible refine E_not ?_ | with_reducible refine E_neg ?_ | with_reducible refine E_lis ?_ | with_reducible refine E_new ?_ | with_reducible refine E_ndic ?_ | with_reducible refine E_ite ?_ | with_reducible refine E_didx ?_ | with_reducible refine E_dget ?_ | with_reducible refine E_app ?_ | with_reducible refine L_lst ?_ | with_reducible refine L_cat ?_ | with_reducible refine L_slc ?_ | with_reducible refine L_lof ?_ | with_reducible refine L_srt ?_ | with_reducible refine L_comp ?_ | with_reducible refine O_none ?_ | with_reducible refine O_some ?_ | with_reducible refine I_v ?_ | with_reducible refine I_rng ?_ | with_reducible refine I_zip ?_ | with_reducible refine I_enm ?_ | with_reducible refine S_for ?_ | with_reducible refine S_lcp ?_ | with_reducible refine S_lc ?_ | with_reducible refine S_par ?_ | with_reducible refine S_sub ?_ | with_reducible refine S_dsub ?_ | with_reducible refine S_exp ?_ | with_reducible refine R_add ?_ | with_reducible refine R_sub ?_ | ((with_reducible apply R_cmp); rfl) | ((with_reducible apply R_idx); rfl) | ((with_reducible apply R_ty); rfl) | ((with_reducible apply R_blt); rfl) | ((with_reducible apply R_bnd); rfl) | ((with_reducible apply R_map); rfl) | ((with_reducible apply R_wlk); rfl) | ((with_reducible apply R_seq); rfl) | ((with_reducible apply R_srt); rfl) | ((with_reducible apply R_pow); rfl) | ((with_reducible apply R_adds); rfl) | ((with_reducible apply R_muls); rfl) | ((with_reducible apply iteY); rfl) | ((with_reducible apply iteN); rfl) | ((with_reducible apply X_bl); rfl) | ((with_reducible apply X_int); rfl) | ((with_reducible apply X_bind); rfl) | ((with_reducible apply X_and); rfl) | ((with_reducible refine R_mod ?_ ?_); omega) | ((with_reducible refine R_div ?_ ?_); omega) | ((with_reducible refine R_mul ?_ ?_); first | (left; omega) | (right; omega) | (left; decide)) | ((with_reducible apply C_nil); rfl; rfl) | ((with_reducible apply C_none); rfl; rfl; rfl) | ((with_reducible apply C_some); rfl; rfl; rfl) | ((with_reducible refine ⟨?_, ?_, ?_⟩); (first | omega | decide); (first | omega | decide)))
    refine F_nil rfl rfl ?_
    exact fin h1 [] _ _ _ hpa t1 n1 (.inl rfl) g1
  · repeat (first | with_reducible refine R_cmp (hne _) ?_ | ((with_reducible apply E_var); rfl) | with_reducible refine E_cst ?_ | with_reducible refine V_e ?_ | with_reducible refine V_l ?_ | with_reducible refine A_nil ?_ | with_reducible refine A_cons ?_ | with_reducible refine S_cons ?_ | with_reducible refine S_nil ?_ | with_reducible refine S_ret ?_ | with_reducible refine S_if ?_ | with_reducible refine S_asg ?_ | with_reducible refine T_val ?_ | with_reducible refine T_not ?_ | with_reducible refine T_cmp ?_ | with_reducible refine T_or1 ?_ | with_reducible refine T_or ?_ | with_reducible refine T_and1 ?_ | with_reducible refine T_and ?_ | with_reducible refine T_chn ?_ | with_reducible refine E_idx ?_ | with_reducible refine E_tup ?_ | with_reducible refine E_bin ?_ | with_reducible refine E_cmp ?_ | with_reducible refine E_isi ?_ | with_reducible refine E_blt ?_ | with_reducible refine E_call ?_ | with_reducible refine E_callK ?_ | with_reducible refine E_chn ?_ | with_reducible refine E_and1 ?_ | with_reducible refine E_and ?_ | with_reducible refine E_or1 ?_ | with_reducible refine E_or ?_ | with_reducible refine E_not ?_ | with_reducible refine E_neg ?_ | with_reducible refine E_lis ?_ | with_reducible refine E_new ?_ | with_reducible refine E_ndic ?_ | with_reducible refine E_ite ?_ | with_reducible refine E_didx ?_ | with_reducible refine E_dget ?_ | with_reducible refine E_app ?_ | with_reducible refine L_lst ?_ | with_reducible refine L_cat ?_ | with_reducible refine L_slc ?_ | with_reducible refine L_lof ?_ | with_reducible refine L_srt ?_ | with_reducible refine L_comp ?_ | with_reducible refine O_none ?_ | with_reducible refine O_some ?_ | with_reducible refine I_v ?_ | with_reducible refine I_rng ?_ | with_reducible refine I_zip ?_ | with_reducible refine I_enm ?_ | with_reducible refine S_for ?_ | with_reducible refine S_lcp ?_ | with_reducible refine S_lc ?_ | with_reducible refine S_par ?_ | with_reducible refine S_sub ?_ | with_reducible refine S_dsub ?_ | with_reducible refine S_exp ?_ | with_reducible refine R_add ?_ | with_reducible refine R_sub ?_ | ((with_reducible apply R_cmp); rfl) | ((with_reducible apply R_idx); rfl) | ((with_reducible apply R_ty); rfl) | ((with_reducible apply R_blt); rfl) | ((with_reducible apply R_bnd); rfl) | ((with_reducible apply R_map); rfl) | ((with_reducible apply R_wlk); rfl) | ((with_reducible apply R_seq); rfl) | ((with_reducible apply R_srt); rfl) | ((with_reducible apply R_pow); rfl) | ((with_reducible apply R_adds); rfl) | ((with_reducible apply R_muls); rfl) | ((with_reducible apply iteY); rfl) | ((with_reducible apply iteN); rfl) | ((with_reducible apply X_bl); rfl) | ((with_reducible apply X_int); rfl) | ((with_reducible apply X_bind); rfl) | ((with_reducible apply X_and); rfl) | ((with_reducible refine R_mod ?_ ?_); omega) | ((with_reducible refine R_div ?_ ?_); omega) | ((with_reducible refine R_mul ?_ ?_); first | (left; omega) | (right; omega) | (left; decide)) | ((with_reducible apply C_nil); rfl; rfl) | ((with_reducible apply C_none); rfl; rfl; rfl) | ((with_reducible apply C_some); rfl; rfl; rfl) | ((with_reducible refine ⟨?_, ?_, ?_⟩); (first | omega | decide); (first | omega | decide)))
    refine F_cons rfl rfl rfl ?_
    refine turn_spec hpa hw hl hm t1 tp n1 (by decide) v0 fun n f i h2 hn f1 f2 f0 hi hp2 k1 k2 t2 => ?_
    cases hi
    refine F_nil rfl rfl ?_
    exact fin h2 [(.str n, .int (0 + f))] _ _ _ hp2 t2 (Nat.lt_of_lt_of_le n1 k2) (.inr (.inl ⟨n, 0 + f, hn, by omega, by omega, rfl⟩)) fun z z1 z2 => (k1 z z1 (num_ne z2) (Nat.lt_trans z2 n1)).trans (g1 z z1 z2)
  · repeat (first | with_reducible refine R_cmp (hne _) ?_ | ((with_reducible apply E_var); rfl) | with_reducible refine E_cst ?_ | with_reducible refine V_e ?_ | with_reducible refine V_l ?_ | with_reducible refine A_nil ?_ | with_reducible refine A_cons ?_ | with_reducible refine S_cons ?_ | with_reducible refine S_nil ?_ | with_reducible refine S_ret ?_ | with_reducible refine S_if ?_ | with_reducible refine S_asg ?_ | with_reducible refine T_val ?_ | with_reducible refine T_not ?_ | with_reducible refine T_cmp ?_ | with_reducible refine T_or1 ?_ | with_reducible refine T_or ?_ | with_reducible refine T_and1 ?_ | with_reducible refine T_and ?_ | with_reducible refine T_chn ?_ | with_reducible refine E_idx ?_ | with_reducible refine E_tup ?_ | with_reducible refine E_bin ?_ | with_reducible refine E_cmp ?_ | with_reducible refine E_isi ?_ | with_reducible refine E_blt ?_ | with_reducible refine E_call ?_ | with_reducible refine E_callK ?_ | with_reducible refine E_chn ?_ | with_reducible refine E_and1 ?_ | with_reducible refine E_and ?_ | with_reducible refine E_or1 ?_ | with_reducible refine E_or ?_ | with_reducible refine E_not ?_ | with_reducible refine E_neg ?_ | with_reducible refine E_lis ?_ | with_reducible refine E_new ?_ | with_reducible refine E_ndic ?_ | with_reducible refine E_ite ?_ | with_reducible refine E_didx ?_ | with_reducible refine E_dget ?_ | with_reducible refine E_app ?_ | with_reducible refine L_lst ?_ | with_reducible refine L_cat ?_ | with_reducible refine L_slc ?_ | with_reducible refine L_lof ?_ | with_reducible refine L_srt ?_ | with_reducible refine L_comp ?_ | with_reducible refine O_none ?_ | with_reducible refine O_some ?_ | with_reducible refine I_v ?_ | with_reducible refine I_rng ?_ | with_reducible refine I_zip ?_ | with_reducible refine I_enm ?_ | with_reducible refine S_for ?_ | with_reducible refine S_lcp ?_ | with_reducible refine S_lc ?_ | with_reducible refine S_par ?_ | with_reducible refine S_sub ?_ | with_reducible refine S_dsub ?_ | with_reducible refine S_exp ?_ | with_reducible refine R_add ?_ | with_reducible refine R_sub ?_ | ((with_reducible apply R_cmp); rfl) | ((with_reducible apply R_idx); rfl) | ((with_reducible apply R_ty); rfl) | ((with_reducible apply R_blt); rfl) | ((with_reducible apply R_bnd); rfl) | ((with_reducible apply R_map); rfl) | ((with_reducible apply R_wlk); rfl) | ((with_reducible apply R_seq); rfl) | ((with_reducible apply R_srt); rfl) | ((with_reducible apply R_pow); rfl) | ((with_reducible apply R_adds); rfl) | ((with_reducible apply R_muls); rfl) | ((with_reducible apply iteY); rfl) | ((with_reducible apply iteN); rfl) | ((with_reducible apply X_bl); rfl) | ((with_reducible apply X_int); rfl) | ((with_reducible apply X_bind); rfl) | ((with_reducible apply X_and); rfl) | ((with_reducible refine R_mod ?_ ?_); omega) | ((with_reducible refine R_div ?_ ?_); omega) | ((with_reducible refine R_mul ?_ ?_); first | (left; omega) | (right; omega) | (left; decide)) | ((with_reducible apply C_nil); rfl; rfl) | ((with_reducible apply C_none); rfl; rfl; rfl) | ((with_reducible apply C_some); rfl; rfl; rfl) | ((with_reducible refine ⟨?_, ?_, ?_⟩); (first | omega | decide); (first | omega | decide)))
    refine F_cons rfl rfl rfl ?_
    refine turn_spec hpa hw hl hm t1 tp n1 (by decide) v0 fun n f i h2 hn f1 f2 f0 hi hp2 k1 k2 t2 => ?_
    cases hi
    have n2 := Nat.lt_of_lt_of_le n1 k2
    have g2 : ∀ z, z ≠ p → z.num < h.nx.num → h2.get z = h.get z := fun z z1 z2 => (k1 z z1 (num_ne z2) (Nat.lt_trans z2 n1)).trans (g1 z z1 z2)
    have v1 : ∀ m, m ∈ NM → ∃ i, (dfind (.str m) [(.str n, .int (0 + f))]).getD (.int 0) = .int i := fun m _ => by
      show ∃ i, (if eqS n m then some (W.int (0 + f)) else none).getD (.int 0) = .int i
      cases eqS n m with
      | true => exact ⟨_, rfl⟩
      | false => exact ⟨_, rfl⟩
    refine F_cons rfl rfl rfl ?_
    refine turn_spec (kvs := [(.str n, .int (0 + f))]) hp2 hw hl hm t2 tp n2 (show 1 < 1000 by decide) v1 fun m g i h4 hm2 j1 j2 j0 hi hp4 k3 k4 t4 => ?_
    have g4 : ∀ z, z ≠ p → z.num < h.nx.num → h4.get z = h.get z := fun z z1 z2 => (k3 z z1 (num_ne z2) (Nat.lt_trans z2 n2)).trans (g2 z z1 z2)
    have n4 := Nat.lt_of_lt_of_le n2 k4
    refine F_nil rfl rfl ?_
    by_cases e : n = m
    · subst e
      have hi2 : i = 0 + f := by
        have z : (if beqW (.str n) (.str n) then some (W.int (0 + f)) else none).getD (.int 0) = .int i := hi
        rw [self] at z
        injection z with z
        exact z.symm
      subst hi2
      rw [dput_old] at t4
      exact fin h4 _ _ _ _ hp4 t4 n4 (.inr (.inl ⟨n, _, hn, by omega, by omega, rfl⟩)) g4
    · have pr := NM_pr hn hm2 e
      have ne : eqS n m = false := by
        rcases pr with pr | pr
        · exact (PR_lt pr).2.2.1
        · exact (PR_lt pr).2.2.2.1
      have hi2 : i = 0 := by
        have z : (if eqS n m then some (W.int (0 + f)) else none).getD (.int 0) = .int i := hi
        rw [ne] at z
        injection z with z
        exact z.symm
      subst hi2
      rw [dput_new ne] at t4
      exact fin h4 _ _ _ _ hp4 t4 n4 (.inr (.inr ⟨n, 0 + f, m, 0 + g, pr, by omega, by omega, by omega, by omega, by omega, by omega, rfl⟩)) g4
end K01


set_option linter.all false
set_option maxRecDepth 100000
set_option maxHeartbeats 4000000
namespace K01
open VM
def PLs : List W := [.str [112], .str [113], .int 0, .int 1]
def Pl (w : W) : Prop := ∃ s x, (s = [97] ∨ s = [98]) ∧ x ∈ PLs ∧ w = .tup [.str s, x]
theorem place_true {d : Nat} {w : W} {h : VH} {Q : W → VH → Prop} (hw : Pl w) (q : Q (.bl true) h) : Rn (C (d + 3) 4 [w] h) Q := by
  obtain ⟨s, x, hs, hx, rfl⟩ := hw
  simp only [PLs, List.mem_cons, List.not_mem_nil, or_false] at hx
  rcases hs with rfl | rfl <;> rcases hx with rfl | rfl | rfl | rfl <;> exact Rn_of_eq rfl q
def WD : List (List Nat) := [[97, 100, 100], [112, 117, 116], [114, 97, 105, 115, 101], [108, 111, 119, 101, 114]]
def XY : List (List Nat) := [[120], [121]]
inductive Deed : W → Prop where
  | read {pl : W} {n : List Nat} : Pl pl → n ∈ XY → Deed (.tup [.str [114, 101, 97, 100], pl, .str n])
  | sum {pl s : W} {n : List Nat} : Pl pl → n ∈ WD → IsSum s → Deed (.tup [.str n, pl, s])
theorem XY_NM {n : List Nat} (h : n ∈ XY) : n ∈ NM := by
  simp only [XY, List.mem_cons, List.not_mem_nil, or_false] at h
  rcases h with rfl | rfl <;> simp [NM]
theorem deed_true {d : Nat} {w : W} {h : VH} {Q : W → VH → Prop} (hw : Deed w) (q : Q (.bl true) h) : Rn (C (d + 4) 5 [w] h) Q := by
  cases hw with
  | read hp hn =>
    refine Rn_call rfl rfl ?_
    repeat (first | with_reducible refine place_true hp ?_ | with_reducible refine nm_spec (XY_NM hn) ?_ | ((with_reducible apply E_var); rfl) | with_reducible refine E_cst ?_ | with_reducible refine V_e ?_ | with_reducible refine V_l ?_ | with_reducible refine A_nil ?_ | with_reducible refine A_cons ?_ | with_reducible refine S_cons ?_ | with_reducible refine S_nil ?_ | with_reducible refine S_ret ?_ | with_reducible refine S_if ?_ | with_reducible refine S_asg ?_ | with_reducible refine T_val ?_ | with_reducible refine T_not ?_ | with_reducible refine T_cmp ?_ | with_reducible refine T_or1 ?_ | with_reducible refine T_or ?_ | with_reducible refine T_and1 ?_ | with_reducible refine T_and ?_ | with_reducible refine T_chn ?_ | with_reducible refine E_idx ?_ | with_reducible refine E_tup ?_ | with_reducible refine E_bin ?_ | with_reducible refine E_cmp ?_ | with_reducible refine E_isi ?_ | with_reducible refine E_blt ?_ | with_reducible refine E_call ?_ | with_reducible refine E_callK ?_ | with_reducible refine E_chn ?_ | with_reducible refine E_and1 ?_ | with_reducible refine E_and ?_ | with_reducible refine E_or1 ?_ | with_reducible refine E_or ?_ | with_reducible refine E_not ?_ | with_reducible refine E_neg ?_ | with_reducible refine E_lis ?_ | with_reducible refine E_new ?_ | with_reducible refine E_ndic ?_ | with_reducible refine E_ite ?_ | with_reducible refine E_didx ?_ | with_reducible refine E_dget ?_ | with_reducible refine E_app ?_ | with_reducible refine L_lst ?_ | with_reducible refine L_cat ?_ | with_reducible refine L_slc ?_ | with_reducible refine L_lof ?_ | with_reducible refine L_srt ?_ | with_reducible refine L_comp ?_ | with_reducible refine O_none ?_ | with_reducible refine O_some ?_ | with_reducible refine I_v ?_ | with_reducible refine I_rng ?_ | with_reducible refine I_zip ?_ | with_reducible refine I_enm ?_ | with_reducible refine S_for ?_ | with_reducible refine S_lcp ?_ | with_reducible refine S_lc ?_ | with_reducible refine S_par ?_ | with_reducible refine S_sub ?_ | with_reducible refine S_dsub ?_ | with_reducible refine S_exp ?_ | with_reducible refine R_add ?_ | with_reducible refine R_sub ?_ | ((with_reducible apply R_cmp); rfl) | ((with_reducible apply R_idx); rfl) | ((with_reducible apply R_ty); rfl) | ((with_reducible apply R_blt); rfl) | ((with_reducible apply R_bnd); rfl) | ((with_reducible apply R_map); rfl) | ((with_reducible apply R_wlk); rfl) | ((with_reducible apply R_seq); rfl) | ((with_reducible apply R_srt); rfl) | ((with_reducible apply R_pow); rfl) | ((with_reducible apply R_adds); rfl) | ((with_reducible apply R_muls); rfl) | ((with_reducible apply iteY); rfl) | ((with_reducible apply iteN); rfl) | ((with_reducible apply X_bl); rfl) | ((with_reducible apply X_int); rfl) | ((with_reducible apply X_bind); rfl) | ((with_reducible apply X_and); rfl) | ((with_reducible refine R_mod ?_ ?_); omega) | ((with_reducible refine R_div ?_ ?_); omega) | ((with_reducible refine R_mul ?_ ?_); first | (left; omega) | (right; omega) | (left; decide)) | ((with_reducible apply C_nil); rfl; rfl) | ((with_reducible apply F_nil); rfl; rfl) | ((with_reducible apply C_none); rfl; rfl; rfl) | ((with_reducible apply C_some); rfl; rfl; rfl) | ((with_reducible apply F_cons); rfl; rfl; rfl) | ((with_reducible refine ⟨?_, ?_, ?_⟩); (first | omega | decide); (first | omega | decide)))
    exact q
  | sum hp hn hs =>
    simp only [WD, List.mem_cons, List.not_mem_nil, or_false] at hn
    refine Rn_call rfl rfl ?_
    rcases hn with rfl | rfl | rfl | rfl
    · repeat (first | with_reducible refine place_true hp ?_ | with_reducible refine sum_true hs ?_ | ((with_reducible apply E_var); rfl) | with_reducible refine E_cst ?_ | with_reducible refine V_e ?_ | with_reducible refine V_l ?_ | with_reducible refine A_nil ?_ | with_reducible refine A_cons ?_ | with_reducible refine S_cons ?_ | with_reducible refine S_nil ?_ | with_reducible refine S_ret ?_ | with_reducible refine S_if ?_ | with_reducible refine S_asg ?_ | with_reducible refine T_val ?_ | with_reducible refine T_not ?_ | with_reducible refine T_cmp ?_ | with_reducible refine T_or1 ?_ | with_reducible refine T_or ?_ | with_reducible refine T_and1 ?_ | with_reducible refine T_and ?_ | with_reducible refine T_chn ?_ | with_reducible refine E_idx ?_ | with_reducible refine E_tup ?_ | with_reducible refine E_bin ?_ | with_reducible refine E_cmp ?_ | with_reducible refine E_isi ?_ | with_reducible refine E_blt ?_ | with_reducible refine E_call ?_ | with_reducible refine E_callK ?_ | with_reducible refine E_chn ?_ | with_reducible refine E_and1 ?_ | with_reducible refine E_and ?_ | with_reducible refine E_or1 ?_ | with_reducible refine E_or ?_ | with_reducible refine E_not ?_ | with_reducible refine E_neg ?_ | with_reducible refine E_lis ?_ | with_reducible refine E_new ?_ | with_reducible refine E_ndic ?_ | with_reducible refine E_ite ?_ | with_reducible refine E_didx ?_ | with_reducible refine E_dget ?_ | with_reducible refine E_app ?_ | with_reducible refine L_lst ?_ | with_reducible refine L_cat ?_ | with_reducible refine L_slc ?_ | with_reducible refine L_lof ?_ | with_reducible refine L_srt ?_ | with_reducible refine L_comp ?_ | with_reducible refine O_none ?_ | with_reducible refine O_some ?_ | with_reducible refine I_v ?_ | with_reducible refine I_rng ?_ | with_reducible refine I_zip ?_ | with_reducible refine I_enm ?_ | with_reducible refine S_for ?_ | with_reducible refine S_lcp ?_ | with_reducible refine S_lc ?_ | with_reducible refine S_par ?_ | with_reducible refine S_sub ?_ | with_reducible refine S_dsub ?_ | with_reducible refine S_exp ?_ | with_reducible refine R_add ?_ | with_reducible refine R_sub ?_ | ((with_reducible apply R_cmp); rfl) | ((with_reducible apply R_idx); rfl) | ((with_reducible apply R_ty); rfl) | ((with_reducible apply R_blt); rfl) | ((with_reducible apply R_bnd); rfl) | ((with_reducible apply R_map); rfl) | ((with_reducible apply R_wlk); rfl) | ((with_reducible apply R_seq); rfl) | ((with_reducible apply R_srt); rfl) | ((with_reducible apply R_pow); rfl) | ((with_reducible apply R_adds); rfl) | ((with_reducible apply R_muls); rfl) | ((with_reducible apply iteY); rfl) | ((with_reducible apply iteN); rfl) | ((with_reducible apply X_bl); rfl) | ((with_reducible apply X_int); rfl) | ((with_reducible apply X_bind); rfl) | ((with_reducible apply X_and); rfl) | ((with_reducible refine R_mod ?_ ?_); omega) | ((with_reducible refine R_div ?_ ?_); omega) | ((with_reducible refine R_mul ?_ ?_); first | (left; omega) | (right; omega) | (left; decide)) | ((with_reducible apply C_nil); rfl; rfl) | ((with_reducible apply F_nil); rfl; rfl) | ((with_reducible apply C_none); rfl; rfl; rfl) | ((with_reducible apply C_some); rfl; rfl; rfl) | ((with_reducible apply F_cons); rfl; rfl; rfl) | ((with_reducible refine ⟨?_, ?_, ?_⟩); (first | omega | decide); (first | omega | decide)))
      exact q
    · repeat (first | with_reducible refine place_true hp ?_ | with_reducible refine sum_true hs ?_ | ((with_reducible apply E_var); rfl) | with_reducible refine E_cst ?_ | with_reducible refine V_e ?_ | with_reducible refine V_l ?_ | with_reducible refine A_nil ?_ | with_reducible refine A_cons ?_ | with_reducible refine S_cons ?_ | with_reducible refine S_nil ?_ | with_reducible refine S_ret ?_ | with_reducible refine S_if ?_ | with_reducible refine S_asg ?_ | with_reducible refine T_val ?_ | with_reducible refine T_not ?_ | with_reducible refine T_cmp ?_ | with_reducible refine T_or1 ?_ | with_reducible refine T_or ?_ | with_reducible refine T_and1 ?_ | with_reducible refine T_and ?_ | with_reducible refine T_chn ?_ | with_reducible refine E_idx ?_ | with_reducible refine E_tup ?_ | with_reducible refine E_bin ?_ | with_reducible refine E_cmp ?_ | with_reducible refine E_isi ?_ | with_reducible refine E_blt ?_ | with_reducible refine E_call ?_ | with_reducible refine E_callK ?_ | with_reducible refine E_chn ?_ | with_reducible refine E_and1 ?_ | with_reducible refine E_and ?_ | with_reducible refine E_or1 ?_ | with_reducible refine E_or ?_ | with_reducible refine E_not ?_ | with_reducible refine E_neg ?_ | with_reducible refine E_lis ?_ | with_reducible refine E_new ?_ | with_reducible refine E_ndic ?_ | with_reducible refine E_ite ?_ | with_reducible refine E_didx ?_ | with_reducible refine E_dget ?_ | with_reducible refine E_app ?_ | with_reducible refine L_lst ?_ | with_reducible refine L_cat ?_ | with_reducible refine L_slc ?_ | with_reducible refine L_lof ?_ | with_reducible refine L_srt ?_ | with_reducible refine L_comp ?_ | with_reducible refine O_none ?_ | with_reducible refine O_some ?_ | with_reducible refine I_v ?_ | with_reducible refine I_rng ?_ | with_reducible refine I_zip ?_ | with_reducible refine I_enm ?_ | with_reducible refine S_for ?_ | with_reducible refine S_lcp ?_ | with_reducible refine S_lc ?_ | with_reducible refine S_par ?_ | with_reducible refine S_sub ?_ | with_reducible refine S_dsub ?_ | with_reducible refine S_exp ?_ | with_reducible refine R_add ?_ | with_reducible refine R_sub ?_ | ((with_reducible apply R_cmp); rfl) | ((with_reducible apply R_idx); rfl) | ((with_reducible apply R_ty); rfl) | ((with_reducible apply R_blt); rfl) | ((with_reducible apply R_bnd); rfl) | ((with_reducible apply R_map); rfl) | ((with_reducible apply R_wlk); rfl) | ((with_reducible apply R_seq); rfl) | ((with_reducible apply R_srt); rfl) | ((with_reducible apply R_pow); rfl) | ((with_reducible apply R_adds); rfl) | ((with_reducible apply R_muls); rfl) | ((with_reducible apply iteY); rfl) | ((with_reducible apply iteN); rfl) | ((with_reducible apply X_bl); rfl) | ((with_reducible apply X_int); rfl) | ((with_reducible apply X_bind); rfl) | ((with_reducible apply X_and); rfl) | ((with_reducible refine R_mod ?_ ?_); omega) | ((with_reducible refine R_div ?_ ?_); omega) | ((with_reducible refine R_mul ?_ ?_); first | (left; omega) | (right; omega) | (left; decide)) | ((with_reducible apply C_nil); rfl; rfl) | ((with_reducible apply F_nil); rfl; rfl) | ((with_reducible apply C_none); rfl; rfl; rfl) | ((with_reducible apply C_some); rfl; rfl; rfl) | ((with_reducible apply F_cons); rfl; rfl; rfl) | ((with_reducible refine ⟨?_, ?_, ?_⟩); (first | omega | decide); (first | omega | decide)))
      exact q
    · repeat (first | with_reducible refine place_true hp ?_ | with_reducible refine sum_true hs ?_ | ((with_reducible apply E_var); rfl) | with_reducible refine E_cst ?_ | with_reducible refine V_e ?_ | with_reducible refine V_l ?_ | with_reducible refine A_nil ?_ | with_reducible refine A_cons ?_ | with_reducible refine S_cons ?_ | with_reducible refine S_nil ?_ | with_reducible refine S_ret ?_ | with_reducible refine S_if ?_ | with_reducible refine S_asg ?_ | with_reducible refine T_val ?_ | with_reducible refine T_not ?_ | with_reducible refine T_cmp ?_ | with_reducible refine T_or1 ?_ | with_reducible refine T_or ?_ | with_reducible refine T_and1 ?_ | with_reducible refine T_and ?_ | with_reducible refine T_chn ?_ | with_reducible refine E_idx ?_ | with_reducible refine E_tup ?_ | with_reducible refine E_bin ?_ | with_reducible refine E_cmp ?_ | with_reducible refine E_isi ?_ | with_reducible refine E_blt ?_ | with_reducible refine E_call ?_ | with_reducible refine E_callK ?_ | with_reducible refine E_chn ?_ | with_reducible refine E_and1 ?_ | with_reducible refine E_and ?_ | with_reducible refine E_or1 ?_ | with_reducible refine E_or ?_ | with_reducible refine E_not ?_ | with_reducible refine E_neg ?_ | with_reducible refine E_lis ?_ | with_reducible refine E_new ?_ | with_reducible refine E_ndic ?_ | with_reducible refine E_ite ?_ | with_reducible refine E_didx ?_ | with_reducible refine E_dget ?_ | with_reducible refine E_app ?_ | with_reducible refine L_lst ?_ | with_reducible refine L_cat ?_ | with_reducible refine L_slc ?_ | with_reducible refine L_lof ?_ | with_reducible refine L_srt ?_ | with_reducible refine L_comp ?_ | with_reducible refine O_none ?_ | with_reducible refine O_some ?_ | with_reducible refine I_v ?_ | with_reducible refine I_rng ?_ | with_reducible refine I_zip ?_ | with_reducible refine I_enm ?_ | with_reducible refine S_for ?_ | with_reducible refine S_lcp ?_ | with_reducible refine S_lc ?_ | with_reducible refine S_par ?_ | with_reducible refine S_sub ?_ | with_reducible refine S_dsub ?_ | with_reducible refine S_exp ?_ | with_reducible refine R_add ?_ | with_reducible refine R_sub ?_ | ((with_reducible apply R_cmp); rfl) | ((with_reducible apply R_idx); rfl) | ((with_reducible apply R_ty); rfl) | ((with_reducible apply R_blt); rfl) | ((with_reducible apply R_bnd); rfl) | ((with_reducible apply R_map); rfl) | ((with_reducible apply R_wlk); rfl) | ((with_reducible apply R_seq); rfl) | ((with_reducible apply R_srt); rfl) | ((with_reducible apply R_pow); rfl) | ((with_reducible apply R_adds); rfl) | ((with_reducible apply R_muls); rfl) | ((with_reducible apply iteY); rfl) | ((with_reducible apply iteN); rfl) | ((with_reducible apply X_bl); rfl) | ((with_reducible apply X_int); rfl) | ((with_reducible apply X_bind); rfl) | ((with_reducible apply X_and); rfl) | ((with_reducible refine R_mod ?_ ?_); omega) | ((with_reducible refine R_div ?_ ?_); omega) | ((with_reducible refine R_mul ?_ ?_); first | (left; omega) | (right; omega) | (left; decide)) | ((with_reducible apply C_nil); rfl; rfl) | ((with_reducible apply F_nil); rfl; rfl) | ((with_reducible apply C_none); rfl; rfl; rfl) | ((with_reducible apply C_some); rfl; rfl; rfl) | ((with_reducible apply F_cons); rfl; rfl; rfl) | ((with_reducible refine ⟨?_, ?_, ?_⟩); (first | omega | decide); (first | omega | decide)))
      exact q
    · repeat (first | with_reducible refine place_true hp ?_ | with_reducible refine sum_true hs ?_ | ((with_reducible apply E_var); rfl) | with_reducible refine E_cst ?_ | with_reducible refine V_e ?_ | with_reducible refine V_l ?_ | with_reducible refine A_nil ?_ | with_reducible refine A_cons ?_ | with_reducible refine S_cons ?_ | with_reducible refine S_nil ?_ | with_reducible refine S_ret ?_ | with_reducible refine S_if ?_ | with_reducible refine S_asg ?_ | with_reducible refine T_val ?_ | with_reducible refine T_not ?_ | with_reducible refine T_cmp ?_ | with_reducible refine T_or1 ?_ | with_reducible refine T_or ?_ | with_reducible refine T_and1 ?_ | with_reducible refine T_and ?_ | with_reducible refine T_chn ?_ | with_reducible refine E_idx ?_ | with_reducible refine E_tup ?_ | with_reducible refine E_bin ?_ | with_reducible refine E_cmp ?_ | with_reducible refine E_isi ?_ | with_reducible refine E_blt ?_ | with_reducible refine E_call ?_ | with_reducible refine E_callK ?_ | with_reducible refine E_chn ?_ | with_reducible refine E_and1 ?_ | with_reducible refine E_and ?_ | with_reducible refine E_or1 ?_ | with_reducible refine E_or ?_ | with_reducible refine E_not ?_ | with_reducible refine E_neg ?_ | with_reducible refine E_lis ?_ | with_reducible refine E_new ?_ | with_reducible refine E_ndic ?_ | with_reducible refine E_ite ?_ | with_reducible refine E_didx ?_ | with_reducible refine E_dget ?_ | with_reducible refine E_app ?_ | with_reducible refine L_lst ?_ | with_reducible refine L_cat ?_ | with_reducible refine L_slc ?_ | with_reducible refine L_lof ?_ | with_reducible refine L_srt ?_ | with_reducible refine L_comp ?_ | with_reducible refine O_none ?_ | with_reducible refine O_some ?_ | with_reducible refine I_v ?_ | with_reducible refine I_rng ?_ | with_reducible refine I_zip ?_ | with_reducible refine I_enm ?_ | with_reducible refine S_for ?_ | with_reducible refine S_lcp ?_ | with_reducible refine S_lc ?_ | with_reducible refine S_par ?_ | with_reducible refine S_sub ?_ | with_reducible refine S_dsub ?_ | with_reducible refine S_exp ?_ | with_reducible refine R_add ?_ | with_reducible refine R_sub ?_ | ((with_reducible apply R_cmp); rfl) | ((with_reducible apply R_idx); rfl) | ((with_reducible apply R_ty); rfl) | ((with_reducible apply R_blt); rfl) | ((with_reducible apply R_bnd); rfl) | ((with_reducible apply R_map); rfl) | ((with_reducible apply R_wlk); rfl) | ((with_reducible apply R_seq); rfl) | ((with_reducible apply R_srt); rfl) | ((with_reducible apply R_pow); rfl) | ((with_reducible apply R_adds); rfl) | ((with_reducible apply R_muls); rfl) | ((with_reducible apply iteY); rfl) | ((with_reducible apply iteN); rfl) | ((with_reducible apply X_bl); rfl) | ((with_reducible apply X_int); rfl) | ((with_reducible apply X_bind); rfl) | ((with_reducible apply X_and); rfl) | ((with_reducible refine R_mod ?_ ?_); omega) | ((with_reducible refine R_div ?_ ?_); omega) | ((with_reducible refine R_mul ?_ ?_); first | (left; omega) | (right; omega) | (left; decide)) | ((with_reducible apply C_nil); rfl; rfl) | ((with_reducible apply F_nil); rfl; rfl) | ((with_reducible apply C_none); rfl; rfl; rfl) | ((with_reducible apply C_some); rfl; rfl; rfl) | ((with_reducible apply F_cons); rfl; rfl; rfl) | ((with_reducible refine ⟨?_, ?_, ?_⟩); (first | omega | decide); (first | omega | decide)))
      exact q
/-- a deed is no sum -/
theorem deed_sum {d : Nat} {w : W} {h : VH} {Q : W → VH → Prop} (hw : Deed w) (q : Q (.bl false) h) : Rn (C (d + 1) 3 [w] h) Q := by
  cases hw with
  | read hp hn => exact Rn_of_eq rfl q
  | sum hp hn hs =>
    simp only [WD, List.mem_cons, List.not_mem_nil, or_false] at hn
    rcases hn with rfl | rfl | rfl | rfl <;> exact Rn_of_eq rfl q
/-- a list is no deed -/
theorem lis_deed {d : Nat} {ws : List W} {h : VH} {Q : W → VH → Prop} (q : Q (.bl false) h) : Rn (C (d + 1) 5 [.lis ws] h) Q := Rn_of_eq rfl q
theorem great_sum {d : Nat} {g : Int} {h : VH} {Q : W → VH → Prop} (h1 : 0 < g) (h2 : g < 10000000000000000000000000000000000000000000000000000000000000000000000000000000000000000000000000000) (q : Q (.bl true) h) : Rn (C (d + 3) 3 [.tup [.str [115, 117, 109], .int g, .tup [.tup [.int (-g), .str [97, 98, 99, 100, 101, 102, 103, 104]]]]] h) Q := by
  have e : eqP (.int (-g)) (.int 0) = false := decide_eq_false (by omega)
  refine Rn_call rfl rfl ?_
  repeat (first | ((with_reducible refine short_spec ?_ ?_ ?_); omega; omega) | with_reducible refine Rn_of_eq (nm_8 _ _) ?_ | with_reducible refine iteN e ?_ | ((with_reducible apply E_var); rfl) | with_reducible refine E_cst ?_ | with_reducible refine V_e ?_ | with_reducible refine V_l ?_ | with_reducible refine A_nil ?_ | with_reducible refine A_cons ?_ | with_reducible refine S_cons ?_ | with_reducible refine S_nil ?_ | with_reducible refine S_ret ?_ | with_reducible refine S_if ?_ | with_reducible refine S_asg ?_ | with_reducible refine T_val ?_ | with_reducible refine T_not ?_ | with_reducible refine T_cmp ?_ | with_reducible refine T_or1 ?_ | with_reducible refine T_or ?_ | with_reducible refine T_and1 ?_ | with_reducible refine T_and ?_ | with_reducible refine T_chn ?_ | with_reducible refine E_idx ?_ | with_reducible refine E_tup ?_ | with_reducible refine E_bin ?_ | with_reducible refine E_cmp ?_ | with_reducible refine E_isi ?_ | with_reducible refine E_blt ?_ | with_reducible refine E_call ?_ | with_reducible refine E_callK ?_ | with_reducible refine E_chn ?_ | with_reducible refine E_and1 ?_ | with_reducible refine E_and ?_ | with_reducible refine E_or1 ?_ | with_reducible refine E_or ?_ | with_reducible refine E_not ?_ | with_reducible refine E_neg ?_ | with_reducible refine E_lis ?_ | with_reducible refine E_new ?_ | with_reducible refine E_ndic ?_ | with_reducible refine E_ite ?_ | with_reducible refine E_didx ?_ | with_reducible refine E_dget ?_ | with_reducible refine E_app ?_ | with_reducible refine L_lst ?_ | with_reducible refine L_cat ?_ | with_reducible refine L_slc ?_ | with_reducible refine L_lof ?_ | with_reducible refine L_srt ?_ | with_reducible refine L_comp ?_ | with_reducible refine O_none ?_ | with_reducible refine O_some ?_ | with_reducible refine I_v ?_ | with_reducible refine I_rng ?_ | with_reducible refine I_zip ?_ | with_reducible refine I_enm ?_ | with_reducible refine S_for ?_ | with_reducible refine S_lcp ?_ | with_reducible refine S_lc ?_ | with_reducible refine S_par ?_ | with_reducible refine S_sub ?_ | with_reducible refine S_dsub ?_ | with_reducible refine S_exp ?_ | with_reducible refine R_add ?_ | with_reducible refine R_sub ?_ | ((with_reducible apply R_cmp); rfl) | ((with_reducible apply R_idx); rfl) | ((with_reducible apply R_ty); rfl) | ((with_reducible apply R_blt); rfl) | ((with_reducible apply R_bnd); rfl) | ((with_reducible apply R_map); rfl) | ((with_reducible apply R_wlk); rfl) | ((with_reducible apply R_seq); rfl) | ((with_reducible apply R_srt); rfl) | ((with_reducible apply R_pow); rfl) | ((with_reducible apply R_adds); rfl) | ((with_reducible apply R_muls); rfl) | ((with_reducible apply iteY); rfl) | ((with_reducible apply iteN); rfl) | ((with_reducible apply X_bl); rfl) | ((with_reducible apply X_int); rfl) | ((with_reducible apply X_bind); rfl) | ((with_reducible apply X_and); rfl) | ((with_reducible refine R_mod ?_ ?_); omega) | ((with_reducible refine R_div ?_ ?_); omega) | ((with_reducible refine R_mul ?_ ?_); first | (left; omega) | (right; omega) | (left; decide)) | ((with_reducible apply C_nil); rfl; rfl) | ((with_reducible apply F_nil); rfl; rfl) | ((with_reducible apply C_none); rfl; rfl; rfl) | ((with_reducible apply C_some); rfl; rfl; rfl) | ((with_reducible apply F_cons); rfl; rfl; rfl) | ((with_reducible refine ⟨?_, ?_, ?_⟩); (first | omega | decide); (first | omega | decide)))
  exact q
theorem great_deed {d : Nat} {g : Int} {h : VH} {Q : W → VH → Prop} (h1 : 0 < g) (h2 : g < 10000000000000000000000000000000000000000000000000000000000000000000000000000000000000000000000000000) (q : Q (.bl true) h) : Rn (C (d + 4) 5 [.tup [.str [114, 101, 97, 100], .tup [.str [122, 122], .int (-g)], .str [97, 98, 99, 100, 101, 102, 103, 104]]] h) Q := by
  have pl : ∀ (d : Nat) (h : VH) (Q : W → VH → Prop), Q (.bl true) h → Rn (C (d + 3) 4 [.tup [.str [122, 122], .int (-g)]] h) Q := by
    intro d h Q q
    refine Rn_call rfl rfl ?_
    repeat (first | ((with_reducible refine short_spec ?_ ?_ ?_); omega; omega) | with_reducible refine Rn_of_eq (nm_zz _ _) ?_ | ((with_reducible apply E_var); rfl) | with_reducible refine E_cst ?_ | with_reducible refine V_e ?_ | with_reducible refine V_l ?_ | with_reducible refine A_nil ?_ | with_reducible refine A_cons ?_ | with_reducible refine S_cons ?_ | with_reducible refine S_nil ?_ | with_reducible refine S_ret ?_ | with_reducible refine S_if ?_ | with_reducible refine S_asg ?_ | with_reducible refine T_val ?_ | with_reducible refine T_not ?_ | with_reducible refine T_cmp ?_ | with_reducible refine T_or1 ?_ | with_reducible refine T_or ?_ | with_reducible refine T_and1 ?_ | with_reducible refine T_and ?_ | with_reducible refine T_chn ?_ | with_reducible refine E_idx ?_ | with_reducible refine E_tup ?_ | with_reducible refine E_bin ?_ | with_reducible refine E_cmp ?_ | with_reducible refine E_isi ?_ | with_reducible refine E_blt ?_ | with_reducible refine E_call ?_ | with_reducible refine E_callK ?_ | with_reducible refine E_chn ?_ | with_reducible refine E_and1 ?_ | with_reducible refine E_and ?_ | with_reducible refine E_or1 ?_ | with_reducible refine E_or ?_ | with_reducible refine E_not ?_ | with_reducible refine E_neg ?_ | with_reducible refine E_lis ?_ | with_reducible refine E_new ?_ | with_reducible refine E_ndic ?_ | with_reducible refine E_ite ?_ | with_reducible refine E_didx ?_ | with_reducible refine E_dget ?_ | with_reducible refine E_app ?_ | with_reducible refine L_lst ?_ | with_reducible refine L_cat ?_ | with_reducible refine L_slc ?_ | with_reducible refine L_lof ?_ | with_reducible refine L_srt ?_ | with_reducible refine L_comp ?_ | with_reducible refine O_none ?_ | with_reducible refine O_some ?_ | with_reducible refine I_v ?_ | with_reducible refine I_rng ?_ | with_reducible refine I_zip ?_ | with_reducible refine I_enm ?_ | with_reducible refine S_for ?_ | with_reducible refine S_lcp ?_ | with_reducible refine S_lc ?_ | with_reducible refine S_par ?_ | with_reducible refine S_sub ?_ | with_reducible refine S_dsub ?_ | with_reducible refine S_exp ?_ | with_reducible refine R_add ?_ | with_reducible refine R_sub ?_ | ((with_reducible apply R_cmp); rfl) | ((with_reducible apply R_idx); rfl) | ((with_reducible apply R_ty); rfl) | ((with_reducible apply R_blt); rfl) | ((with_reducible apply R_bnd); rfl) | ((with_reducible apply R_map); rfl) | ((with_reducible apply R_wlk); rfl) | ((with_reducible apply R_seq); rfl) | ((with_reducible apply R_srt); rfl) | ((with_reducible apply R_pow); rfl) | ((with_reducible apply R_adds); rfl) | ((with_reducible apply R_muls); rfl) | ((with_reducible apply iteY); rfl) | ((with_reducible apply iteN); rfl) | ((with_reducible apply X_bl); rfl) | ((with_reducible apply X_int); rfl) | ((with_reducible apply X_bind); rfl) | ((with_reducible apply X_and); rfl) | ((with_reducible refine R_mod ?_ ?_); omega) | ((with_reducible refine R_div ?_ ?_); omega) | ((with_reducible refine R_mul ?_ ?_); first | (left; omega) | (right; omega) | (left; decide)) | ((with_reducible apply C_nil); rfl; rfl) | ((with_reducible apply F_nil); rfl; rfl) | ((with_reducible apply C_none); rfl; rfl; rfl) | ((with_reducible apply C_some); rfl; rfl; rfl) | ((with_reducible apply F_cons); rfl; rfl; rfl) | ((with_reducible refine ⟨?_, ?_, ?_⟩); (first | omega | decide); (first | omega | decide)))
    exact q
  refine Rn_call rfl rfl ?_
  repeat (first | with_reducible refine pl _ _ _ ?_ | with_reducible refine Rn_of_eq (nm_8 _ _) ?_ | ((with_reducible apply E_var); rfl) | with_reducible refine E_cst ?_ | with_reducible refine V_e ?_ | with_reducible refine V_l ?_ | with_reducible refine A_nil ?_ | with_reducible refine A_cons ?_ | with_reducible refine S_cons ?_ | with_reducible refine S_nil ?_ | with_reducible refine S_ret ?_ | with_reducible refine S_if ?_ | with_reducible refine S_asg ?_ | with_reducible refine T_val ?_ | with_reducible refine T_not ?_ | with_reducible refine T_cmp ?_ | with_reducible refine T_or1 ?_ | with_reducible refine T_or ?_ | with_reducible refine T_and1 ?_ | with_reducible refine T_and ?_ | with_reducible refine T_chn ?_ | with_reducible refine E_idx ?_ | with_reducible refine E_tup ?_ | with_reducible refine E_bin ?_ | with_reducible refine E_cmp ?_ | with_reducible refine E_isi ?_ | with_reducible refine E_blt ?_ | with_reducible refine E_call ?_ | with_reducible refine E_callK ?_ | with_reducible refine E_chn ?_ | with_reducible refine E_and1 ?_ | with_reducible refine E_and ?_ | with_reducible refine E_or1 ?_ | with_reducible refine E_or ?_ | with_reducible refine E_not ?_ | with_reducible refine E_neg ?_ | with_reducible refine E_lis ?_ | with_reducible refine E_new ?_ | with_reducible refine E_ndic ?_ | with_reducible refine E_ite ?_ | with_reducible refine E_didx ?_ | with_reducible refine E_dget ?_ | with_reducible refine E_app ?_ | with_reducible refine L_lst ?_ | with_reducible refine L_cat ?_ | with_reducible refine L_slc ?_ | with_reducible refine L_lof ?_ | with_reducible refine L_srt ?_ | with_reducible refine L_comp ?_ | with_reducible refine O_none ?_ | with_reducible refine O_some ?_ | with_reducible refine I_v ?_ | with_reducible refine I_rng ?_ | with_reducible refine I_zip ?_ | with_reducible refine I_enm ?_ | with_reducible refine S_for ?_ | with_reducible refine S_lcp ?_ | with_reducible refine S_lc ?_ | with_reducible refine S_par ?_ | with_reducible refine S_sub ?_ | with_reducible refine S_dsub ?_ | with_reducible refine S_exp ?_ | with_reducible refine R_add ?_ | with_reducible refine R_sub ?_ | ((with_reducible apply R_cmp); rfl) | ((with_reducible apply R_idx); rfl) | ((with_reducible apply R_ty); rfl) | ((with_reducible apply R_blt); rfl) | ((with_reducible apply R_bnd); rfl) | ((with_reducible apply R_map); rfl) | ((with_reducible apply R_wlk); rfl) | ((with_reducible apply R_seq); rfl) | ((with_reducible apply R_srt); rfl) | ((with_reducible apply R_pow); rfl) | ((with_reducible apply R_adds); rfl) | ((with_reducible apply R_muls); rfl) | ((with_reducible apply iteY); rfl) | ((with_reducible apply iteN); rfl) | ((with_reducible apply X_bl); rfl) | ((with_reducible apply X_int); rfl) | ((with_reducible apply X_bind); rfl) | ((with_reducible apply X_and); rfl) | ((with_reducible refine R_mod ?_ ?_); omega) | ((with_reducible refine R_div ?_ ?_); omega) | ((with_reducible refine R_mul ?_ ?_); first | (left; omega) | (right; omega) | (left; decide)) | ((with_reducible apply C_nil); rfl; rfl) | ((with_reducible apply F_nil); rfl; rfl) | ((with_reducible apply C_none); rfl; rfl; rfl) | ((with_reducible apply C_some); rfl; rfl; rfl) | ((with_reducible apply F_cons); rfl; rfl; rfl) | ((with_reducible refine ⟨?_, ?_, ?_⟩); (first | omega | decide); (first | omega | decide)))
  exact q
end K01


set_option linter.all false
set_option maxRecDepth 100000
set_option maxHeartbeats 4000000
namespace K01
open VM
def Kn (h : VH) (k : Ad) (m : Nat) : Prop := ∃ ks : List W, h.get k = some (.lst ks) ∧ (∀ w ∈ ks, ∃ n, n ∈ XY ∧ w = .str n) ∧ ks.length ≤ m ∧ k.num < h.nx.num
def PQ : List W := [.str [112], .str [113]]
theorem X_lst {h : VH} {x : W} {z : List W} {Q : Prop} (hd : lstOf h (.w x) = some z) (q : Q) : (∃ z, lstOf h (.w x) = some z) ∧ Q := ⟨⟨z, hd⟩, q⟩
theorem last_at (ks : List W) (y : W) : ((ix (ks ++ [y]).length (-1)).bind fun j => nth (ks ++ [y]) j) = some y := by
  have e1 : ix (ks ++ [y]).length (-1) = some ks.length := by
    show (if Nat.blt 0 (ks ++ [y]).length then some ((ks ++ [y]).length - (0 + 1)) else none) = _
    rw [List.length_append, show [y].length = 1 from rfl, Nat.blt_eq.mpr (Nat.succ_pos _)]
    rfl
  rw [e1]
  show nth (ks ++ [y]) ks.length = some y
  induction ks with
  | nil => rfl
  | cons a l ih =>
    refine ih ?_
    show (if Nat.blt 0 (l ++ [y]).length then some ((l ++ [y]).length - (0 + 1)) else none) = _
    rw [List.length_append, show [y].length = 1 from rfl, Nat.blt_eq.mpr (Nat.succ_pos _)]
    rfl
theorem elem_at {ws : List W} {r : Int} {h : VH} (h0 : 0 ≤ r) (h1 : r < ws.length) : ∃ w, w ∈ ws ∧ idxA h (.w (.lis ws)) (.int r) = some w := by
  obtain ⟨j, rfl⟩ := Int.eq_ofNat_of_zero_le h0
  have hj : j < ws.length := by omega
  have e1 : ix ws.length (j : Int) = some j := by
    show (if Nat.blt j ws.length then some j else none) = _
    rw [Nat.blt_eq.mpr hj]; rfl
  have e2 : ∀ (l : List W) (j : Nat), j < l.length → ∃ w, w ∈ l ∧ nth l j = some w := by
    intro l
    induction l with
    | nil => intro j hj; exact absurd hj (Nat.not_lt_zero _)
    | cons a l ih =>
      intro j hj
      cases j with
      | zero => exact ⟨a, List.mem_cons_self, rfl⟩
      | succ j =>
        obtain ⟨w, a1, a2⟩ := ih j (Nat.lt_of_succ_lt_succ hj)
        exact ⟨w, List.mem_cons_of_mem _ a1, a2⟩
  obtain ⟨w, hw, e⟩ := e2 ws j hj
  refine ⟨w, hw, ?_⟩
  show (ix ws.length (j : Int)).bind (fun j => nth ws j) = _
  rw [e1]
  exact e
def After (p k : Ad) (m : Nat) (h h' : VH) : Prop := Pool h' p ∧ Kn h' k m ∧ (∀ z, z ≠ p → z ≠ k → z.num < h.nx.num → h'.get z = h.get z) ∧ h.nx.num ≤ h'.nx.num
theorem Kn.fr {h h' : VH} {p k : Ad} {m : Nat} (a : Kn h k m) (f : Frm p h h') (n : p ≠ k) : Kn h' k m := by
  obtain ⟨ks, k1, k2, k3, k4⟩ := a
  exact ⟨ks, (f.1 k (Ne.symm n) k4).trans k1, k2, k3, Nat.lt_of_lt_of_le k4 f.2⟩
theorem stage3 {d : Nat} {p k : Ad} {m : Nat} {pl : W} {v3 v5 : Option W} {h : VH} {N B C' : Env → VH → Prop} {Q : W → VH → Prop} (hp : Pool h p) (hk : Kn h k m) (hm : m < 100) (hpk : p ≠ k) (hpl : Pl pl) (q : ∀ w h', Deed w → After p k (m + 1) h h' → Q w h') :
    Sn ((lvl (C (d + 2)) 60).S [.asg (.nm 5) (.idx (.l (.lst [.cst (.str [114, 101, 97, 100]), .cst (.str [114, 101, 97, 100]), .cst (.str [97, 100, 100]), .cst (.str [97, 100, 100]), .cst (.str [112, 117, 116]), .cst (.str [114, 97, 105, 115, 101]), .cst (.str [108, 111, 119, 101, 114])])) (.call 7 [.var 0, .cst (.int 7)])),
    .ifs (.cmp .eq (.e (.var 5)) (.e (.cst (.str [114, 101, 97, 100])))) [.exp (.app (.var 2) (.idx (.l (.lst [.cst (.str [120]), .cst (.str [121])])) (.call 7 [.var 0, .cst (.int 2)]))),
    .ret (.tup [.cst (.str [114, 101, 97, 100]), .var 4, .idx (.e (.var 2)) (.neg (.cst (.int 1)))])] [],
    .ret (.tup [.var 5, .var 4, .call 8 [.var 0, .lis (.cat (.e (.var 1)) (.e (.var 2)))]])] [some (.ref p), some (.lis PQ), some (.ref k), v3, some pl, v5] h) N Q B C' := by
  repeat (first | ((with_reducible apply E_var); rfl) | with_reducible refine E_cst ?_ | with_reducible refine V_e ?_ | with_reducible refine V_l ?_ | with_reducible refine A_nil ?_ | with_reducible refine A_cons ?_ | with_reducible refine S_cons ?_ | with_reducible refine S_nil ?_ | with_reducible refine S_ret ?_ | with_reducible refine S_if ?_ | with_reducible refine S_asg ?_ | with_reducible refine T_val ?_ | with_reducible refine T_not ?_ | with_reducible refine T_cmp ?_ | with_reducible refine T_or1 ?_ | with_reducible refine T_or ?_ | with_reducible refine T_and1 ?_ | with_reducible refine T_and ?_ | with_reducible refine T_chn ?_ | with_reducible refine E_idx ?_ | with_reducible refine E_tup ?_ | with_reducible refine E_bin ?_ | with_reducible refine E_cmp ?_ | with_reducible refine E_isi ?_ | with_reducible refine E_blt ?_ | with_reducible refine E_call ?_ | with_reducible refine E_callK ?_ | with_reducible refine E_chn ?_ | with_reducible refine E_and1 ?_ | with_reducible refine E_and ?_ | with_reducible refine E_or1 ?_ | with_reducible refine E_or ?_ | with_reducible refine E_not ?_ | with_reducible refine E_neg ?_ | with_reducible refine E_lis ?_ | with_reducible refine E_new ?_ | with_reducible refine E_ndic ?_ | with_reducible refine E_ite ?_ | with_reducible refine E_didx ?_ | with_reducible refine E_dget ?_ | with_reducible refine E_app ?_ | with_reducible refine L_lst ?_ | with_reducible refine L_cat ?_ | with_reducible refine L_slc ?_ | with_reducible refine L_lof ?_ | with_reducible refine L_srt ?_ | with_reducible refine L_comp ?_ | with_reducible refine O_none ?_ | with_reducible refine O_some ?_ | with_reducible refine I_v ?_ | with_reducible refine I_rng ?_ | with_reducible refine I_zip ?_ | with_reducible refine I_enm ?_ | with_reducible refine S_for ?_ | with_reducible refine S_lcp ?_ | with_reducible refine S_lc ?_ | with_reducible refine S_par ?_ | with_reducible refine S_sub ?_ | with_reducible refine S_dsub ?_ | with_reducible refine S_exp ?_ | with_reducible refine R_add ?_ | with_reducible refine R_sub ?_ | ((with_reducible apply R_cmp); rfl) | ((with_reducible apply R_idx); rfl) | ((with_reducible apply R_ty); rfl) | ((with_reducible apply R_blt); rfl) | ((with_reducible apply R_bnd); rfl) | ((with_reducible apply R_map); rfl) | ((with_reducible apply R_wlk); rfl) | ((with_reducible apply R_seq); rfl) | ((with_reducible apply R_srt); rfl) | ((with_reducible apply R_pow); rfl) | ((with_reducible apply R_adds); rfl) | ((with_reducible apply R_muls); rfl) | ((with_reducible apply iteY); rfl) | ((with_reducible apply iteN); rfl) | ((with_reducible apply X_bl); rfl) | ((with_reducible apply X_int); rfl) | ((with_reducible apply X_bind); rfl) | ((with_reducible apply X_and); rfl) | ((with_reducible refine R_mod ?_ ?_); omega) | ((with_reducible refine R_div ?_ ?_); omega) | ((with_reducible refine R_mul ?_ ?_); first | (left; omega) | (right; omega) | (left; decide)) | ((with_reducible apply C_nil); rfl; rfl) | ((with_reducible apply F_nil); rfl; rfl) | ((with_reducible apply C_none); rfl; rfl; rfl) | ((with_reducible apply C_some); rfl; rfl; rfl) | ((with_reducible apply F_cons); rfl; rfl; rfl) | ((with_reducible refine ⟨?_, ?_, ?_⟩); (first | omega | decide); (first | omega | decide)))
  refine draw_spec hp (by decide) (by decide) fun r h1 r0 r1 hp1 fr1 => ?_
  have hk1 := hk.fr fr1 hpk
  obtain ⟨ks, k1, k2, k3, k4⟩ := _root_.id hk1
  have c1 : lstOf h1 (.w (.ref k)) = some ks := cell_of k1
  have cat : ((ownOf h1 (.w (.lis PQ))).bind fun us => (ownOf h1 (.w (.ref k))).bind fun ws => if Nat.ble (us.length + ws.length) size then some (us ++ ws) else none) = some (PQ ++ ks) := by
    have e : ownOf h1 (.w (.ref k)) = some ks := by
      show (match h1.get k with | some (.lst ws) => some ws | _ => none) = _
      rw [k1]
    rw [e]
    show (if Nat.ble (2 + ks.length) size then some (PQ ++ ks) else none) = _
    rw [Nat.ble_eq.mpr (show 2 + ks.length ≤ size from Nat.le_trans (by omega : 2 + ks.length ≤ 200) (by decide))]
    rfl
  have sums : ∀ n, n ∈ WD → Rn (C (d + 2) 8 [.ref p, .lis (PQ ++ ks)] h1) fun w h2 => Q (.tup [.str n, pl, w]) h2 := by
    intro n hn
    refine sum_spec hp1 (Nat.lt_of_lt_of_le (by decide : 0 < 2) (by rw [List.length_append]; exact Nat.le_add_right _ _)) (by rw [List.length_append]; show 2 + ks.length < 1000; omega) (fun w hw => ?_) fun w h2 hs hp2 fr2 => ?_
    · rcases List.mem_append.mp hw with hw | hw
      · simp only [PQ, List.mem_cons, List.not_mem_nil, or_false] at hw
        rcases hw with rfl | rfl
        · exact ⟨[112], by simp [NM], rfl⟩
        · exact ⟨[113], by simp [NM], rfl⟩
      · obtain ⟨n, hn, e⟩ := k2 w hw
        exact ⟨n, XY_NM hn, e⟩
    · have fr := fr1.trans fr2
      obtain ⟨ks, j1, j2, j3, j4⟩ := hk1.fr fr2 hpk
      exact q _ _ (.sum hpl hn hs) ⟨hp2, ⟨ks, j1, j2, Nat.le_succ_of_le j3, j4⟩, fun z z1 _ z3 => fr.1 z z1 z3, fr.2⟩
  have reads : ∀ n, n ∈ XY → ∀ h2, Pool h2 p → Frm p h1 h2 → ∀ N' : Env → VH → Prop, W.ref k = .ref k ∧ h2.get k = some (.lst ks) ∧ Nat.blt ks.length size = true ∧ Sn ((lvl (C (d + 2)) 59).S [.ret (.tup [.cst (.str [114, 101, 97, 100]), .var 4, .idx (.e (.var 2)) (.neg (.cst (.int 1)))])] [some (.ref p), some (.lis PQ), some (.ref k), v3, some pl, some (.str [114, 101, 97, 100])] (h2.set k (.lst (ks ++ [.str n])))) N' Q B C' := by
    intro n hn h2 hp2 fr2 N'
    have g2 : h2.get k = some (.lst ks) := (fr2.1 k (Ne.symm hpk) k4).trans k1
    refine ⟨rfl, g2, Nat.blt_eq.mpr (Nat.lt_of_le_of_lt k3 (Nat.lt_trans hm (by decide))), ?_⟩
    have g3 : (h2.set k (.lst (ks ++ [.str n]))).get k = some (.lst (ks ++ [.str n])) := VH.get_set_same _ _ _
    have c3 := cell_of g3
    repeat (first | with_reducible refine R_ixc c3 (last_at ks (.str n)) ?_ | ((with_reducible apply E_var); rfl) | with_reducible refine E_cst ?_ | with_reducible refine V_e ?_ | with_reducible refine V_l ?_ | with_reducible refine A_nil ?_ | with_reducible refine A_cons ?_ | with_reducible refine S_cons ?_ | with_reducible refine S_nil ?_ | with_reducible refine S_ret ?_ | with_reducible refine S_if ?_ | with_reducible refine S_asg ?_ | with_reducible refine T_val ?_ | with_reducible refine T_not ?_ | with_reducible refine T_cmp ?_ | with_reducible refine T_or1 ?_ | with_reducible refine T_or ?_ | with_reducible refine T_and1 ?_ | with_reducible refine T_and ?_ | with_reducible refine T_chn ?_ | with_reducible refine E_idx ?_ | with_reducible refine E_tup ?_ | with_reducible refine E_bin ?_ | with_reducible refine E_cmp ?_ | with_reducible refine E_isi ?_ | with_reducible refine E_blt ?_ | with_reducible refine E_call ?_ | with_reducible refine E_callK ?_ | with_reducible refine E_chn ?_ | with_reducible refine E_and1 ?_ | with_reducible refine E_and ?_ | with_reducible refine E_or1 ?_ | with_reducible refine E_or ?_ | with_reducible refine E_not ?_ | with_reducible refine E_neg ?_ | with_reducible refine E_lis ?_ | with_reducible refine E_new ?_ | with_reducible refine E_ndic ?_ | with_reducible refine E_ite ?_ | with_reducible refine E_didx ?_ | with_reducible refine E_dget ?_ | with_reducible refine E_app ?_ | with_reducible refine L_lst ?_ | with_reducible refine L_cat ?_ | with_reducible refine L_slc ?_ | with_reducible refine L_lof ?_ | with_reducible refine L_srt ?_ | with_reducible refine L_comp ?_ | with_reducible refine O_none ?_ | with_reducible refine O_some ?_ | with_reducible refine I_v ?_ | with_reducible refine I_rng ?_ | with_reducible refine I_zip ?_ | with_reducible refine I_enm ?_ | with_reducible refine S_for ?_ | with_reducible refine S_lcp ?_ | with_reducible refine S_lc ?_ | with_reducible refine S_par ?_ | with_reducible refine S_sub ?_ | with_reducible refine S_dsub ?_ | with_reducible refine S_exp ?_ | with_reducible refine R_add ?_ | with_reducible refine R_sub ?_ | ((with_reducible apply R_cmp); rfl) | ((with_reducible apply R_idx); rfl) | ((with_reducible apply R_ty); rfl) | ((with_reducible apply R_blt); rfl) | ((with_reducible apply R_bnd); rfl) | ((with_reducible apply R_map); rfl) | ((with_reducible apply R_wlk); rfl) | ((with_reducible apply R_seq); rfl) | ((with_reducible apply R_srt); rfl) | ((with_reducible apply R_pow); rfl) | ((with_reducible apply R_adds); rfl) | ((with_reducible apply R_muls); rfl) | ((with_reducible apply iteY); rfl) | ((with_reducible apply iteN); rfl) | ((with_reducible apply X_bl); rfl) | ((with_reducible apply X_int); rfl) | ((with_reducible apply X_bind); rfl) | ((with_reducible apply X_and); rfl) | ((with_reducible refine R_mod ?_ ?_); omega) | ((with_reducible refine R_div ?_ ?_); omega) | ((with_reducible refine R_mul ?_ ?_); first | (left; omega) | (right; omega) | (left; decide)) | ((with_reducible apply C_nil); rfl; rfl) | ((with_reducible apply F_nil); rfl; rfl) | ((with_reducible apply C_none); rfl; rfl; rfl) | ((with_reducible apply C_some); rfl; rfl; rfl) | ((with_reducible apply F_cons); rfl; rfl; rfl) | ((with_reducible refine ⟨?_, ?_, ?_⟩); (first | omega | decide); (first | omega | decide)))
    have fr := fr1.trans fr2
    obtain ⟨a, b, p0, p1, p2, p3, p4⟩ := hp2
    refine q _ _ (.read hpl hn) ⟨⟨a, b, (VH.get_set_ne _ _ hpk).trans p0, p1, p2, p3, p4⟩, ⟨_, g3, fun w hw => ?_, ?_, Nat.lt_of_lt_of_le k4 fr2.2⟩, fun z z1 z2 z3 => (VH.get_set_ne _ _ z2).trans (fr.1 z z1 z3), fr.2⟩
    · rcases List.mem_append.mp hw with hw | hw
      · exact k2 w hw
      · simp only [List.mem_cons, List.not_mem_nil, or_false] at hw
        exact ⟨n, hn, hw⟩
    · rw [List.length_append]; show ks.length + 1 ≤ m + 1; omega
  have h3 : r = 0 ∨ r = 1 ∨ r = 2 ∨ r = 3 ∨ r = 4 ∨ r = 5 ∨ r = 6 := by omega
  rcases h3 with rfl | rfl | rfl | rfl | rfl | rfl | rfl
  · repeat (first | with_reducible refine X_lst c1 ?_ | ((with_reducible apply E_var); rfl) | with_reducible refine E_cst ?_ | with_reducible refine V_e ?_ | with_reducible refine V_l ?_ | with_reducible refine A_nil ?_ | with_reducible refine A_cons ?_ | with_reducible refine S_cons ?_ | with_reducible refine S_nil ?_ | with_reducible refine S_ret ?_ | with_reducible refine S_if ?_ | with_reducible refine S_asg ?_ | with_reducible refine T_val ?_ | with_reducible refine T_not ?_ | with_reducible refine T_cmp ?_ | with_reducible refine T_or1 ?_ | with_reducible refine T_or ?_ | with_reducible refine T_and1 ?_ | with_reducible refine T_and ?_ | with_reducible refine T_chn ?_ | with_reducible refine E_idx ?_ | with_reducible refine E_tup ?_ | with_reducible refine E_bin ?_ | with_reducible refine E_cmp ?_ | with_reducible refine E_isi ?_ | with_reducible refine E_blt ?_ | with_reducible refine E_call ?_ | with_reducible refine E_callK ?_ | with_reducible refine E_chn ?_ | with_reducible refine E_and1 ?_ | with_reducible refine E_and ?_ | with_reducible refine E_or1 ?_ | with_reducible refine E_or ?_ | with_reducible refine E_not ?_ | with_reducible refine E_neg ?_ | with_reducible refine E_lis ?_ | with_reducible refine E_new ?_ | with_reducible refine E_ndic ?_ | with_reducible refine E_ite ?_ | with_reducible refine E_didx ?_ | with_reducible refine E_dget ?_ | with_reducible refine E_app ?_ | with_reducible refine L_lst ?_ | with_reducible refine L_cat ?_ | with_reducible refine L_slc ?_ | with_reducible refine L_lof ?_ | with_reducible refine L_srt ?_ | with_reducible refine L_comp ?_ | with_reducible refine O_none ?_ | with_reducible refine O_some ?_ | with_reducible refine I_v ?_ | with_reducible refine I_rng ?_ | with_reducible refine I_zip ?_ | with_reducible refine I_enm ?_ | with_reducible refine S_for ?_ | with_reducible refine S_lcp ?_ | with_reducible refine S_lc ?_ | with_reducible refine S_par ?_ | with_reducible refine S_sub ?_ | with_reducible refine S_dsub ?_ | with_reducible refine S_exp ?_ | with_reducible refine R_add ?_ | with_reducible refine R_sub ?_ | ((with_reducible apply R_cmp); rfl) | ((with_reducible apply R_idx); rfl) | ((with_reducible apply R_ty); rfl) | ((with_reducible apply R_blt); rfl) | ((with_reducible apply R_bnd); rfl) | ((with_reducible apply R_map); rfl) | ((with_reducible apply R_wlk); rfl) | ((with_reducible apply R_seq); rfl) | ((with_reducible apply R_srt); rfl) | ((with_reducible apply R_pow); rfl) | ((with_reducible apply R_adds); rfl) | ((with_reducible apply R_muls); rfl) | ((with_reducible apply iteY); rfl) | ((with_reducible apply iteN); rfl) | ((with_reducible apply X_bl); rfl) | ((with_reducible apply X_int); rfl) | ((with_reducible apply X_bind); rfl) | ((with_reducible apply X_and); rfl) | ((with_reducible refine R_mod ?_ ?_); omega) | ((with_reducible refine R_div ?_ ?_); omega) | ((with_reducible refine R_mul ?_ ?_); first | (left; omega) | (right; omega) | (left; decide)) | ((with_reducible apply C_nil); rfl; rfl) | ((with_reducible apply F_nil); rfl; rfl) | ((with_reducible apply C_none); rfl; rfl; rfl) | ((with_reducible apply C_some); rfl; rfl; rfl) | ((with_reducible apply F_cons); rfl; rfl; rfl) | ((with_reducible refine ⟨?_, ?_, ?_⟩); (first | omega | decide); (first | omega | decide)))
    refine draw_spec hp1 (by decide) (by decide) fun s h2 s0 s1 hp2 fr2 => ?_
    have h3 : s = 0 ∨ s = 1 := by omega
    rcases h3 with rfl | rfl
    · repeat (first | ((with_reducible apply E_var); rfl) | with_reducible refine E_cst ?_ | with_reducible refine V_e ?_ | with_reducible refine V_l ?_ | with_reducible refine A_nil ?_ | with_reducible refine A_cons ?_ | with_reducible refine S_nil ?_ | with_reducible refine S_ret ?_ | with_reducible refine S_if ?_ | with_reducible refine S_asg ?_ | with_reducible refine T_val ?_ | with_reducible refine T_not ?_ | with_reducible refine T_cmp ?_ | with_reducible refine T_or1 ?_ | with_reducible refine T_or ?_ | with_reducible refine T_and1 ?_ | with_reducible refine T_and ?_ | with_reducible refine T_chn ?_ | with_reducible refine E_idx ?_ | with_reducible refine E_tup ?_ | with_reducible refine E_bin ?_ | with_reducible refine E_cmp ?_ | with_reducible refine E_isi ?_ | with_reducible refine E_blt ?_ | with_reducible refine E_call ?_ | with_reducible refine E_callK ?_ | with_reducible refine E_chn ?_ | with_reducible refine E_and1 ?_ | with_reducible refine E_and ?_ | with_reducible refine E_or1 ?_ | with_reducible refine E_or ?_ | with_reducible refine E_not ?_ | with_reducible refine E_neg ?_ | with_reducible refine E_lis ?_ | with_reducible refine E_new ?_ | with_reducible refine E_ndic ?_ | with_reducible refine E_ite ?_ | with_reducible refine E_didx ?_ | with_reducible refine E_dget ?_ | with_reducible refine E_app ?_ | with_reducible refine L_lst ?_ | with_reducible refine L_cat ?_ | with_reducible refine L_slc ?_ | with_reducible refine L_lof ?_ | with_reducible refine L_srt ?_ | with_reducible refine L_comp ?_ | with_reducible refine O_none ?_ | with_reducible refine O_some ?_ | with_reducible refine I_v ?_ | with_reducible refine I_rng ?_ | with_reducible refine I_zip ?_ | with_reducible refine I_enm ?_ | with_reducible refine S_for ?_ | with_reducible refine S_lcp ?_ | with_reducible refine S_lc ?_ | with_reducible refine S_par ?_ | with_reducible refine S_sub ?_ | with_reducible refine S_dsub ?_ | with_reducible refine S_exp ?_ | with_reducible refine R_add ?_ | with_reducible refine R_sub ?_ | ((with_reducible apply R_cmp); rfl) | ((with_reducible apply R_idx); rfl) | ((with_reducible apply R_ty); rfl) | ((with_reducible apply R_blt); rfl) | ((with_reducible apply R_bnd); rfl) | ((with_reducible apply R_map); rfl) | ((with_reducible apply R_wlk); rfl) | ((with_reducible apply R_seq); rfl) | ((with_reducible apply R_srt); rfl) | ((with_reducible apply R_pow); rfl) | ((with_reducible apply R_adds); rfl) | ((with_reducible apply R_muls); rfl) | ((with_reducible apply iteY); rfl) | ((with_reducible apply iteN); rfl) | ((with_reducible apply X_bl); rfl) | ((with_reducible apply X_int); rfl) | ((with_reducible apply X_bind); rfl) | ((with_reducible apply X_and); rfl) | ((with_reducible refine R_mod ?_ ?_); omega) | ((with_reducible refine R_div ?_ ?_); omega) | ((with_reducible refine R_mul ?_ ?_); first | (left; omega) | (right; omega) | (left; decide)) | ((with_reducible apply C_nil); rfl; rfl) | ((with_reducible apply F_nil); rfl; rfl) | ((with_reducible apply C_none); rfl; rfl; rfl) | ((with_reducible apply C_some); rfl; rfl; rfl) | ((with_reducible apply F_cons); rfl; rfl; rfl) | ((with_reducible refine ⟨?_, ?_, ?_⟩); (first | omega | decide); (first | omega | decide)))
      exact reads [120] (by simp [XY]) h2 hp2 fr2 _
    · repeat (first | ((with_reducible apply E_var); rfl) | with_reducible refine E_cst ?_ | with_reducible refine V_e ?_ | with_reducible refine V_l ?_ | with_reducible refine A_nil ?_ | with_reducible refine A_cons ?_ | with_reducible refine S_nil ?_ | with_reducible refine S_ret ?_ | with_reducible refine S_if ?_ | with_reducible refine S_asg ?_ | with_reducible refine T_val ?_ | with_reducible refine T_not ?_ | with_reducible refine T_cmp ?_ | with_reducible refine T_or1 ?_ | with_reducible refine T_or ?_ | with_reducible refine T_and1 ?_ | with_reducible refine T_and ?_ | with_reducible refine T_chn ?_ | with_reducible refine E_idx ?_ | with_reducible refine E_tup ?_ | with_reducible refine E_bin ?_ | with_reducible refine E_cmp ?_ | with_reducible refine E_isi ?_ | with_reducible refine E_blt ?_ | with_reducible refine E_call ?_ | with_reducible refine E_callK ?_ | with_reducible refine E_chn ?_ | with_reducible refine E_and1 ?_ | with_reducible refine E_and ?_ | with_reducible refine E_or1 ?_ | with_reducible refine E_or ?_ | with_reducible refine E_not ?_ | with_reducible refine E_neg ?_ | with_reducible refine E_lis ?_ | with_reducible refine E_new ?_ | with_reducible refine E_ndic ?_ | with_reducible refine E_ite ?_ | with_reducible refine E_didx ?_ | with_reducible refine E_dget ?_ | with_reducible refine E_app ?_ | with_reducible refine L_lst ?_ | with_reducible refine L_cat ?_ | with_reducible refine L_slc ?_ | with_reducible refine L_lof ?_ | with_reducible refine L_srt ?_ | with_reducible refine L_comp ?_ | with_reducible refine O_none ?_ | with_reducible refine O_some ?_ | with_reducible refine I_v ?_ | with_reducible refine I_rng ?_ | with_reducible refine I_zip ?_ | with_reducible refine I_enm ?_ | with_reducible refine S_for ?_ | with_reducible refine S_lcp ?_ | with_reducible refine S_lc ?_ | with_reducible refine S_par ?_ | with_reducible refine S_sub ?_ | with_reducible refine S_dsub ?_ | with_reducible refine S_exp ?_ | with_reducible refine R_add ?_ | with_reducible refine R_sub ?_ | ((with_reducible apply R_cmp); rfl) | ((with_reducible apply R_idx); rfl) | ((with_reducible apply R_ty); rfl) | ((with_reducible apply R_blt); rfl) | ((with_reducible apply R_bnd); rfl) | ((with_reducible apply R_map); rfl) | ((with_reducible apply R_wlk); rfl) | ((with_reducible apply R_seq); rfl) | ((with_reducible apply R_srt); rfl) | ((with_reducible apply R_pow); rfl) | ((with_reducible apply R_adds); rfl) | ((with_reducible apply R_muls); rfl) | ((with_reducible apply iteY); rfl) | ((with_reducible apply iteN); rfl) | ((with_reducible apply X_bl); rfl) | ((with_reducible apply X_int); rfl) | ((with_reducible apply X_bind); rfl) | ((with_reducible apply X_and); rfl) | ((with_reducible refine R_mod ?_ ?_); omega) | ((with_reducible refine R_div ?_ ?_); omega) | ((with_reducible refine R_mul ?_ ?_); first | (left; omega) | (right; omega) | (left; decide)) | ((with_reducible apply C_nil); rfl; rfl) | ((with_reducible apply F_nil); rfl; rfl) | ((with_reducible apply C_none); rfl; rfl; rfl) | ((with_reducible apply C_some); rfl; rfl; rfl) | ((with_reducible apply F_cons); rfl; rfl; rfl) | ((with_reducible refine ⟨?_, ?_, ?_⟩); (first | omega | decide); (first | omega | decide)))
      exact reads [121] (by simp [XY]) h2 hp2 fr2 _
  · repeat (first | with_reducible refine X_lst c1 ?_ | ((with_reducible apply E_var); rfl) | with_reducible refine E_cst ?_ | with_reducible refine V_e ?_ | with_reducible refine V_l ?_ | with_reducible refine A_nil ?_ | with_reducible refine A_cons ?_ | with_reducible refine S_cons ?_ | with_reducible refine S_nil ?_ | with_reducible refine S_ret ?_ | with_reducible refine S_if ?_ | with_reducible refine S_asg ?_ | with_reducible refine T_val ?_ | with_reducible refine T_not ?_ | with_reducible refine T_cmp ?_ | with_reducible refine T_or1 ?_ | with_reducible refine T_or ?_ | with_reducible refine T_and1 ?_ | with_reducible refine T_and ?_ | with_reducible refine T_chn ?_ | with_reducible refine E_idx ?_ | with_reducible refine E_tup ?_ | with_reducible refine E_bin ?_ | with_reducible refine E_cmp ?_ | with_reducible refine E_isi ?_ | with_reducible refine E_blt ?_ | with_reducible refine E_call ?_ | with_reducible refine E_callK ?_ | with_reducible refine E_chn ?_ | with_reducible refine E_and1 ?_ | with_reducible refine E_and ?_ | with_reducible refine E_or1 ?_ | with_reducible refine E_or ?_ | with_reducible refine E_not ?_ | with_reducible refine E_neg ?_ | with_reducible refine E_lis ?_ | with_reducible refine E_new ?_ | with_reducible refine E_ndic ?_ | with_reducible refine E_ite ?_ | with_reducible refine E_didx ?_ | with_reducible refine E_dget ?_ | with_reducible refine E_app ?_ | with_reducible refine L_lst ?_ | with_reducible refine L_cat ?_ | with_reducible refine L_slc ?_ | with_reducible refine L_lof ?_ | with_reducible refine L_srt ?_ | with_reducible refine L_comp ?_ | with_reducible refine O_none ?_ | with_reducible refine O_some ?_ | with_reducible refine I_v ?_ | with_reducible refine I_rng ?_ | with_reducible refine I_zip ?_ | with_reducible refine I_enm ?_ | with_reducible refine S_for ?_ | with_reducible refine S_lcp ?_ | with_reducible refine S_lc ?_ | with_reducible refine S_par ?_ | with_reducible refine S_sub ?_ | with_reducible refine S_dsub ?_ | with_reducible refine S_exp ?_ | with_reducible refine R_add ?_ | with_reducible refine R_sub ?_ | ((with_reducible apply R_cmp); rfl) | ((with_reducible apply R_idx); rfl) | ((with_reducible apply R_ty); rfl) | ((with_reducible apply R_blt); rfl) | ((with_reducible apply R_bnd); rfl) | ((with_reducible apply R_map); rfl) | ((with_reducible apply R_wlk); rfl) | ((with_reducible apply R_seq); rfl) | ((with_reducible apply R_srt); rfl) | ((with_reducible apply R_pow); rfl) | ((with_reducible apply R_adds); rfl) | ((with_reducible apply R_muls); rfl) | ((with_reducible apply iteY); rfl) | ((with_reducible apply iteN); rfl) | ((with_reducible apply X_bl); rfl) | ((with_reducible apply X_int); rfl) | ((with_reducible apply X_bind); rfl) | ((with_reducible apply X_and); rfl) | ((with_reducible refine R_mod ?_ ?_); omega) | ((with_reducible refine R_div ?_ ?_); omega) | ((with_reducible refine R_mul ?_ ?_); first | (left; omega) | (right; omega) | (left; decide)) | ((with_reducible apply C_nil); rfl; rfl) | ((with_reducible apply F_nil); rfl; rfl) | ((with_reducible apply C_none); rfl; rfl; rfl) | ((with_reducible apply C_some); rfl; rfl; rfl) | ((with_reducible apply F_cons); rfl; rfl; rfl) | ((with_reducible refine ⟨?_, ?_, ?_⟩); (first | omega | decide); (first | omega | decide)))
    refine draw_spec hp1 (by decide) (by decide) fun s h2 s0 s1 hp2 fr2 => ?_
    have h3 : s = 0 ∨ s = 1 := by omega
    rcases h3 with rfl | rfl
    · repeat (first | ((with_reducible apply E_var); rfl) | with_reducible refine E_cst ?_ | with_reducible refine V_e ?_ | with_reducible refine V_l ?_ | with_reducible refine A_nil ?_ | with_reducible refine A_cons ?_ | with_reducible refine S_nil ?_ | with_reducible refine S_ret ?_ | with_reducible refine S_if ?_ | with_reducible refine S_asg ?_ | with_reducible refine T_val ?_ | with_reducible refine T_not ?_ | with_reducible refine T_cmp ?_ | with_reducible refine T_or1 ?_ | with_reducible refine T_or ?_ | with_reducible refine T_and1 ?_ | with_reducible refine T_and ?_ | with_reducible refine T_chn ?_ | with_reducible refine E_idx ?_ | with_reducible refine E_tup ?_ | with_reducible refine E_bin ?_ | with_reducible refine E_cmp ?_ | with_reducible refine E_isi ?_ | with_reducible refine E_blt ?_ | with_reducible refine E_call ?_ | with_reducible refine E_callK ?_ | with_reducible refine E_chn ?_ | with_reducible refine E_and1 ?_ | with_reducible refine E_and ?_ | with_reducible refine E_or1 ?_ | with_reducible refine E_or ?_ | with_reducible refine E_not ?_ | with_reducible refine E_neg ?_ | with_reducible refine E_lis ?_ | with_reducible refine E_new ?_ | with_reducible refine E_ndic ?_ | with_reducible refine E_ite ?_ | with_reducible refine E_didx ?_ | with_reducible refine E_dget ?_ | with_reducible refine E_app ?_ | with_reducible refine L_lst ?_ | with_reducible refine L_cat ?_ | with_reducible refine L_slc ?_ | with_reducible refine L_lof ?_ | with_reducible refine L_srt ?_ | with_reducible refine L_comp ?_ | with_reducible refine O_none ?_ | with_reducible refine O_some ?_ | with_reducible refine I_v ?_ | with_reducible refine I_rng ?_ | with_reducible refine I_zip ?_ | with_reducible refine I_enm ?_ | with_reducible refine S_for ?_ | with_reducible refine S_lcp ?_ | with_reducible refine S_lc ?_ | with_reducible refine S_par ?_ | with_reducible refine S_sub ?_ | with_reducible refine S_dsub ?_ | with_reducible refine S_exp ?_ | with_reducible refine R_add ?_ | with_reducible refine R_sub ?_ | ((with_reducible apply R_cmp); rfl) | ((with_reducible apply R_idx); rfl) | ((with_reducible apply R_ty); rfl) | ((with_reducible apply R_blt); rfl) | ((with_reducible apply R_bnd); rfl) | ((with_reducible apply R_map); rfl) | ((with_reducible apply R_wlk); rfl) | ((with_reducible apply R_seq); rfl) | ((with_reducible apply R_srt); rfl) | ((with_reducible apply R_pow); rfl) | ((with_reducible apply R_adds); rfl) | ((with_reducible apply R_muls); rfl) | ((with_reducible apply iteY); rfl) | ((with_reducible apply iteN); rfl) | ((with_reducible apply X_bl); rfl) | ((with_reducible apply X_int); rfl) | ((with_reducible apply X_bind); rfl) | ((with_reducible apply X_and); rfl) | ((with_reducible refine R_mod ?_ ?_); omega) | ((with_reducible refine R_div ?_ ?_); omega) | ((with_reducible refine R_mul ?_ ?_); first | (left; omega) | (right; omega) | (left; decide)) | ((with_reducible apply C_nil); rfl; rfl) | ((with_reducible apply F_nil); rfl; rfl) | ((with_reducible apply C_none); rfl; rfl; rfl) | ((with_reducible apply C_some); rfl; rfl; rfl) | ((with_reducible apply F_cons); rfl; rfl; rfl) | ((with_reducible refine ⟨?_, ?_, ?_⟩); (first | omega | decide); (first | omega | decide)))
      exact reads [120] (by simp [XY]) h2 hp2 fr2 _
    · repeat (first | ((with_reducible apply E_var); rfl) | with_reducible refine E_cst ?_ | with_reducible refine V_e ?_ | with_reducible refine V_l ?_ | with_reducible refine A_nil ?_ | with_reducible refine A_cons ?_ | with_reducible refine S_nil ?_ | with_reducible refine S_ret ?_ | with_reducible refine S_if ?_ | with_reducible refine S_asg ?_ | with_reducible refine T_val ?_ | with_reducible refine T_not ?_ | with_reducible refine T_cmp ?_ | with_reducible refine T_or1 ?_ | with_reducible refine T_or ?_ | with_reducible refine T_and1 ?_ | with_reducible refine T_and ?_ | with_reducible refine T_chn ?_ | with_reducible refine E_idx ?_ | with_reducible refine E_tup ?_ | with_reducible refine E_bin ?_ | with_reducible refine E_cmp ?_ | with_reducible refine E_isi ?_ | with_reducible refine E_blt ?_ | with_reducible refine E_call ?_ | with_reducible refine E_callK ?_ | with_reducible refine E_chn ?_ | with_reducible refine E_and1 ?_ | with_reducible refine E_and ?_ | with_reducible refine E_or1 ?_ | with_reducible refine E_or ?_ | with_reducible refine E_not ?_ | with_reducible refine E_neg ?_ | with_reducible refine E_lis ?_ | with_reducible refine E_new ?_ | with_reducible refine E_ndic ?_ | with_reducible refine E_ite ?_ | with_reducible refine E_didx ?_ | with_reducible refine E_dget ?_ | with_reducible refine E_app ?_ | with_reducible refine L_lst ?_ | with_reducible refine L_cat ?_ | with_reducible refine L_slc ?_ | with_reducible refine L_lof ?_ | with_reducible refine L_srt ?_ | with_reducible refine L_comp ?_ | with_reducible refine O_none ?_ | with_reducible refine O_some ?_ | with_reducible refine I_v ?_ | with_reducible refine I_rng ?_ | with_reducible refine I_zip ?_ | with_reducible refine I_enm ?_ | with_reducible refine S_for ?_ | with_reducible refine S_lcp ?_ | with_reducible refine S_lc ?_ | with_reducible refine S_par ?_ | with_reducible refine S_sub ?_ | with_reducible refine S_dsub ?_ | with_reducible refine S_exp ?_ | with_reducible refine R_add ?_ | with_reducible refine R_sub ?_ | ((with_reducible apply R_cmp); rfl) | ((with_reducible apply R_idx); rfl) | ((with_reducible apply R_ty); rfl) | ((with_reducible apply R_blt); rfl) | ((with_reducible apply R_bnd); rfl) | ((with_reducible apply R_map); rfl) | ((with_reducible apply R_wlk); rfl) | ((with_reducible apply R_seq); rfl) | ((with_reducible apply R_srt); rfl) | ((with_reducible apply R_pow); rfl) | ((with_reducible apply R_adds); rfl) | ((with_reducible apply R_muls); rfl) | ((with_reducible apply iteY); rfl) | ((with_reducible apply iteN); rfl) | ((with_reducible apply X_bl); rfl) | ((with_reducible apply X_int); rfl) | ((with_reducible apply X_bind); rfl) | ((with_reducible apply X_and); rfl) | ((with_reducible refine R_mod ?_ ?_); omega) | ((with_reducible refine R_div ?_ ?_); omega) | ((with_reducible refine R_mul ?_ ?_); first | (left; omega) | (right; omega) | (left; decide)) | ((with_reducible apply C_nil); rfl; rfl) | ((with_reducible apply F_nil); rfl; rfl) | ((with_reducible apply C_none); rfl; rfl; rfl) | ((with_reducible apply C_some); rfl; rfl; rfl) | ((with_reducible apply F_cons); rfl; rfl; rfl) | ((with_reducible refine ⟨?_, ?_, ?_⟩); (first | omega | decide); (first | omega | decide)))
      exact reads [121] (by simp [XY]) h2 hp2 fr2 _
  · repeat (first | with_reducible refine R_bnd cat ?_ | ((with_reducible apply E_var); rfl) | with_reducible refine E_cst ?_ | with_reducible refine V_e ?_ | with_reducible refine V_l ?_ | with_reducible refine A_nil ?_ | with_reducible refine A_cons ?_ | with_reducible refine S_cons ?_ | with_reducible refine S_nil ?_ | with_reducible refine S_ret ?_ | with_reducible refine S_if ?_ | with_reducible refine S_asg ?_ | with_reducible refine T_val ?_ | with_reducible refine T_not ?_ | with_reducible refine T_cmp ?_ | with_reducible refine T_or1 ?_ | with_reducible refine T_or ?_ | with_reducible refine T_and1 ?_ | with_reducible refine T_and ?_ | with_reducible refine T_chn ?_ | with_reducible refine E_idx ?_ | with_reducible refine E_tup ?_ | with_reducible refine E_bin ?_ | with_reducible refine E_cmp ?_ | with_reducible refine E_isi ?_ | with_reducible refine E_blt ?_ | with_reducible refine E_call ?_ | with_reducible refine E_callK ?_ | with_reducible refine E_chn ?_ | with_reducible refine E_and1 ?_ | with_reducible refine E_and ?_ | with_reducible refine E_or1 ?_ | with_reducible refine E_or ?_ | with_reducible refine E_not ?_ | with_reducible refine E_neg ?_ | with_reducible refine E_lis ?_ | with_reducible refine E_new ?_ | with_reducible refine E_ndic ?_ | with_reducible refine E_ite ?_ | with_reducible refine E_didx ?_ | with_reducible refine E_dget ?_ | with_reducible refine E_app ?_ | with_reducible refine L_lst ?_ | with_reducible refine L_cat ?_ | with_reducible refine L_slc ?_ | with_reducible refine L_lof ?_ | with_reducible refine L_srt ?_ | with_reducible refine L_comp ?_ | with_reducible refine O_none ?_ | with_reducible refine O_some ?_ | with_reducible refine I_v ?_ | with_reducible refine I_rng ?_ | with_reducible refine I_zip ?_ | with_reducible refine I_enm ?_ | with_reducible refine S_for ?_ | with_reducible refine S_lcp ?_ | with_reducible refine S_lc ?_ | with_reducible refine S_par ?_ | with_reducible refine S_sub ?_ | with_reducible refine S_dsub ?_ | with_reducible refine S_exp ?_ | with_reducible refine R_add ?_ | with_reducible refine R_sub ?_ | ((with_reducible apply R_cmp); rfl) | ((with_reducible apply R_idx); rfl) | ((with_reducible apply R_ty); rfl) | ((with_reducible apply R_blt); rfl) | ((with_reducible apply R_bnd); rfl) | ((with_reducible apply R_map); rfl) | ((with_reducible apply R_wlk); rfl) | ((with_reducible apply R_seq); rfl) | ((with_reducible apply R_srt); rfl) | ((with_reducible apply R_pow); rfl) | ((with_reducible apply R_adds); rfl) | ((with_reducible apply R_muls); rfl) | ((with_reducible apply iteY); rfl) | ((with_reducible apply iteN); rfl) | ((with_reducible apply X_bl); rfl) | ((with_reducible apply X_int); rfl) | ((with_reducible apply X_bind); rfl) | ((with_reducible apply X_and); rfl) | ((with_reducible refine R_mod ?_ ?_); omega) | ((with_reducible refine R_div ?_ ?_); omega) | ((with_reducible refine R_mul ?_ ?_); first | (left; omega) | (right; omega) | (left; decide)) | ((with_reducible apply C_nil); rfl; rfl) | ((with_reducible apply F_nil); rfl; rfl) | ((with_reducible apply C_none); rfl; rfl; rfl) | ((with_reducible apply C_some); rfl; rfl; rfl) | ((with_reducible apply F_cons); rfl; rfl; rfl) | ((with_reducible refine ⟨?_, ?_, ?_⟩); (first | omega | decide); (first | omega | decide)))
    exact sums _ (by simp [WD])
  · repeat (first | with_reducible refine R_bnd cat ?_ | ((with_reducible apply E_var); rfl) | with_reducible refine E_cst ?_ | with_reducible refine V_e ?_ | with_reducible refine V_l ?_ | with_reducible refine A_nil ?_ | with_reducible refine A_cons ?_ | with_reducible refine S_cons ?_ | with_reducible refine S_nil ?_ | with_reducible refine S_ret ?_ | with_reducible refine S_if ?_ | with_reducible refine S_asg ?_ | with_reducible refine T_val ?_ | with_reducible refine T_not ?_ | with_reducible refine T_cmp ?_ | with_reducible refine T_or1 ?_ | with_reducible refine T_or ?_ | with_reducible refine T_and1 ?_ | with_reducible refine T_and ?_ | with_reducible refine T_chn ?_ | with_reducible refine E_idx ?_ | with_reducible refine E_tup ?_ | with_reducible refine E_bin ?_ | with_reducible refine E_cmp ?_ | with_reducible refine E_isi ?_ | with_reducible refine E_blt ?_ | with_reducible refine E_call ?_ | with_reducible refine E_callK ?_ | with_reducible refine E_chn ?_ | with_reducible refine E_and1 ?_ | with_reducible refine E_and ?_ | with_reducible refine E_or1 ?_ | with_reducible refine E_or ?_ | with_reducible refine E_not ?_ | with_reducible refine E_neg ?_ | with_reducible refine E_lis ?_ | with_reducible refine E_new ?_ | with_reducible refine E_ndic ?_ | with_reducible refine E_ite ?_ | with_reducible refine E_didx ?_ | with_reducible refine E_dget ?_ | with_reducible refine E_app ?_ | with_reducible refine L_lst ?_ | with_reducible refine L_cat ?_ | with_reducible refine L_slc ?_ | with_reducible refine L_lof ?_ | with_reducible refine L_srt ?_ | with_reducible refine L_comp ?_ | with_reducible refine O_none ?_ | with_reducible refine O_some ?_ | with_reducible refine I_v ?_ | with_reducible refine I_rng ?_ | with_reducible refine I_zip ?_ | with_reducible refine I_enm ?_ | with_reducible refine S_for ?_ | with_reducible refine S_lcp ?_ | with_reducible refine S_lc ?_ | with_reducible refine S_par ?_ | with_reducible refine S_sub ?_ | with_reducible refine S_dsub ?_ | with_reducible refine S_exp ?_ | with_reducible refine R_add ?_ | with_reducible refine R_sub ?_ | ((with_reducible apply R_cmp); rfl) | ((with_reducible apply R_idx); rfl) | ((with_reducible apply R_ty); rfl) | ((with_reducible apply R_blt); rfl) | ((with_reducible apply R_bnd); rfl) | ((with_reducible apply R_map); rfl) | ((with_reducible apply R_wlk); rfl) | ((with_reducible apply R_seq); rfl) | ((with_reducible apply R_srt); rfl) | ((with_reducible apply R_pow); rfl) | ((with_reducible apply R_adds); rfl) | ((with_reducible apply R_muls); rfl) | ((with_reducible apply iteY); rfl) | ((with_reducible apply iteN); rfl) | ((with_reducible apply X_bl); rfl) | ((with_reducible apply X_int); rfl) | ((with_reducible apply X_bind); rfl) | ((with_reducible apply X_and); rfl) | ((with_reducible refine R_mod ?_ ?_); omega) | ((with_reducible refine R_div ?_ ?_); omega) | ((with_reducible refine R_mul ?_ ?_); first | (left; omega) | (right; omega) | (left; decide)) | ((with_reducible apply C_nil); rfl; rfl) | ((with_reducible apply F_nil); rfl; rfl) | ((with_reducible apply C_none); rfl; rfl; rfl) | ((with_reducible apply C_some); rfl; rfl; rfl) | ((with_reducible apply F_cons); rfl; rfl; rfl) | ((with_reducible refine ⟨?_, ?_, ?_⟩); (first | omega | decide); (first | omega | decide)))
    exact sums _ (by simp [WD])
  · repeat (first | with_reducible refine R_bnd cat ?_ | ((with_reducible apply E_var); rfl) | with_reducible refine E_cst ?_ | with_reducible refine V_e ?_ | with_reducible refine V_l ?_ | with_reducible refine A_nil ?_ | with_reducible refine A_cons ?_ | with_reducible refine S_cons ?_ | with_reducible refine S_nil ?_ | with_reducible refine S_ret ?_ | with_reducible refine S_if ?_ | with_reducible refine S_asg ?_ | with_reducible refine T_val ?_ | with_reducible refine T_not ?_ | with_reducible refine T_cmp ?_ | with_reducible refine T_or1 ?_ | with_reducible refine T_or ?_ | with_reducible refine T_and1 ?_ | with_reducible refine T_and ?_ | with_reducible refine T_chn ?_ | with_reducible refine E_idx ?_ | with_reducible refine E_tup ?_ | with_reducible refine E_bin ?_ | with_reducible refine E_cmp ?_ | with_reducible refine E_isi ?_ | with_reducible refine E_blt ?_ | with_reducible refine E_call ?_ | with_reducible refine E_callK ?_ | with_reducible refine E_chn ?_ | with_reducible refine E_and1 ?_ | with_reducible refine E_and ?_ | with_reducible refine E_or1 ?_ | with_reducible refine E_or ?_ | with_reducible refine E_not ?_ | with_reducible refine E_neg ?_ | with_reducible refine E_lis ?_ | with_reducible refine E_new ?_ | with_reducible refine E_ndic ?_ | with_reducible refine E_ite ?_ | with_reducible refine E_didx ?_ | with_reducible refine E_dget ?_ | with_reducible refine E_app ?_ | with_reducible refine L_lst ?_ | with_reducible refine L_cat ?_ | with_reducible refine L_slc ?_ | with_reducible refine L_lof ?_ | with_reducible refine L_srt ?_ | with_reducible refine L_comp ?_ | with_reducible refine O_none ?_ | with_reducible refine O_some ?_ | with_reducible refine I_v ?_ | with_reducible refine I_rng ?_ | with_reducible refine I_zip ?_ | with_reducible refine I_enm ?_ | with_reducible refine S_for ?_ | with_reducible refine S_lcp ?_ | with_reducible refine S_lc ?_ | with_reducible refine S_par ?_ | with_reducible refine S_sub ?_ | with_reducible refine S_dsub ?_ | with_reducible refine S_exp ?_ | with_reducible refine R_add ?_ | with_reducible refine R_sub ?_ | ((with_reducible apply R_cmp); rfl) | ((with_reducible apply R_idx); rfl) | ((with_reducible apply R_ty); rfl) | ((with_reducible apply R_blt); rfl) | ((with_reducible apply R_bnd); rfl) | ((with_reducible apply R_map); rfl) | ((with_reducible apply R_wlk); rfl) | ((with_reducible apply R_seq); rfl) | ((with_reducible apply R_srt); rfl) | ((with_reducible apply R_pow); rfl) | ((with_reducible apply R_adds); rfl) | ((with_reducible apply R_muls); rfl) | ((with_reducible apply iteY); rfl) | ((with_reducible apply iteN); rfl) | ((with_reducible apply X_bl); rfl) | ((with_reducible apply X_int); rfl) | ((with_reducible apply X_bind); rfl) | ((with_reducible apply X_and); rfl) | ((with_reducible refine R_mod ?_ ?_); omega) | ((with_reducible refine R_div ?_ ?_); omega) | ((with_reducible refine R_mul ?_ ?_); first | (left; omega) | (right; omega) | (left; decide)) | ((with_reducible apply C_nil); rfl; rfl) | ((with_reducible apply F_nil); rfl; rfl) | ((with_reducible apply C_none); rfl; rfl; rfl) | ((with_reducible apply C_some); rfl; rfl; rfl) | ((with_reducible apply F_cons); rfl; rfl; rfl) | ((with_reducible refine ⟨?_, ?_, ?_⟩); (first | omega | decide); (first | omega | decide)))
    exact sums _ (by simp [WD])
  · repeat (first | with_reducible refine R_bnd cat ?_ | ((with_reducible apply E_var); rfl) | with_reducible refine E_cst ?_ | with_reducible refine V_e ?_ | with_reducible refine V_l ?_ | with_reducible refine A_nil ?_ | with_reducible refine A_cons ?_ | with_reducible refine S_cons ?_ | with_reducible refine S_nil ?_ | with_reducible refine S_ret ?_ | with_reducible refine S_if ?_ | with_reducible refine S_asg ?_ | with_reducible refine T_val ?_ | with_reducible refine T_not ?_ | with_reducible refine T_cmp ?_ | with_reducible refine T_or1 ?_ | with_reducible refine T_or ?_ | with_reducible refine T_and1 ?_ | with_reducible refine T_and ?_ | with_reducible refine T_chn ?_ | with_reducible refine E_idx ?_ | with_reducible refine E_tup ?_ | with_reducible refine E_bin ?_ | with_reducible refine E_cmp ?_ | with_reducible refine E_isi ?_ | with_reducible refine E_blt ?_ | with_reducible refine E_call ?_ | with_reducible refine E_callK ?_ | with_reducible refine E_chn ?_ | with_reducible refine E_and1 ?_ | with_reducible refine E_and ?_ | with_reducible refine E_or1 ?_ | with_reducible refine E_or ?_ | with_reducible refine E_not ?_ | with_reducible refine E_neg ?_ | with_reducible refine E_lis ?_ | with_reducible refine E_new ?_ | with_reducible refine E_ndic ?_ | with_reducible refine E_ite ?_ | with_reducible refine E_didx ?_ | with_reducible refine E_dget ?_ | with_reducible refine E_app ?_ | with_reducible refine L_lst ?_ | with_reducible refine L_cat ?_ | with_reducible refine L_slc ?_ | with_reducible refine L_lof ?_ | with_reducible refine L_srt ?_ | with_reducible refine L_comp ?_ | with_reducible refine O_none ?_ | with_reducible refine O_some ?_ | with_reducible refine I_v ?_ | with_reducible refine I_rng ?_ | with_reducible refine I_zip ?_ | with_reducible refine I_enm ?_ | with_reducible refine S_for ?_ | with_reducible refine S_lcp ?_ | with_reducible refine S_lc ?_ | with_reducible refine S_par ?_ | with_reducible refine S_sub ?_ | with_reducible refine S_dsub ?_ | with_reducible refine S_exp ?_ | with_reducible refine R_add ?_ | with_reducible refine R_sub ?_ | ((with_reducible apply R_cmp); rfl) | ((with_reducible apply R_idx); rfl) | ((with_reducible apply R_ty); rfl) | ((with_reducible apply R_blt); rfl) | ((with_reducible apply R_bnd); rfl) | ((with_reducible apply R_map); rfl) | ((with_reducible apply R_wlk); rfl) | ((with_reducible apply R_seq); rfl) | ((with_reducible apply R_srt); rfl) | ((with_reducible apply R_pow); rfl) | ((with_reducible apply R_adds); rfl) | ((with_reducible apply R_muls); rfl) | ((with_reducible apply iteY); rfl) | ((with_reducible apply iteN); rfl) | ((with_reducible apply X_bl); rfl) | ((with_reducible apply X_int); rfl) | ((with_reducible apply X_bind); rfl) | ((with_reducible apply X_and); rfl) | ((with_reducible refine R_mod ?_ ?_); omega) | ((with_reducible refine R_div ?_ ?_); omega) | ((with_reducible refine R_mul ?_ ?_); first | (left; omega) | (right; omega) | (left; decide)) | ((with_reducible apply C_nil); rfl; rfl) | ((with_reducible apply F_nil); rfl; rfl) | ((with_reducible apply C_none); rfl; rfl; rfl) | ((with_reducible apply C_some); rfl; rfl; rfl) | ((with_reducible apply F_cons); rfl; rfl; rfl) | ((with_reducible refine ⟨?_, ?_, ?_⟩); (first | omega | decide); (first | omega | decide)))
    exact sums _ (by simp [WD])
  · repeat (first | with_reducible refine R_bnd cat ?_ | ((with_reducible apply E_var); rfl) | with_reducible refine E_cst ?_ | with_reducible refine V_e ?_ | with_reducible refine V_l ?_ | with_reducible refine A_nil ?_ | with_reducible refine A_cons ?_ | with_reducible refine S_cons ?_ | with_reducible refine S_nil ?_ | with_reducible refine S_ret ?_ | with_reducible refine S_if ?_ | with_reducible refine S_asg ?_ | with_reducible refine T_val ?_ | with_reducible refine T_not ?_ | with_reducible refine T_cmp ?_ | with_reducible refine T_or1 ?_ | with_reducible refine T_or ?_ | with_reducible refine T_and1 ?_ | with_reducible refine T_and ?_ | with_reducible refine T_chn ?_ | with_reducible refine E_idx ?_ | with_reducible refine E_tup ?_ | with_reducible refine E_bin ?_ | with_reducible refine E_cmp ?_ | with_reducible refine E_isi ?_ | with_reducible refine E_blt ?_ | with_reducible refine E_call ?_ | with_reducible refine E_callK ?_ | with_reducible refine E_chn ?_ | with_reducible refine E_and1 ?_ | with_reducible refine E_and ?_ | with_reducible refine E_or1 ?_ | with_reducible refine E_or ?_ | with_reducible refine E_not ?_ | with_reducible refine E_neg ?_ | with_reducible refine E_lis ?_ | with_reducible refine E_new ?_ | with_reducible refine E_ndic ?_ | with_reducible refine E_ite ?_ | with_reducible refine E_didx ?_ | with_reducible refine E_dget ?_ | with_reducible refine E_app ?_ | with_reducible refine L_lst ?_ | with_reducible refine L_cat ?_ | with_reducible refine L_slc ?_ | with_reducible refine L_lof ?_ | with_reducible refine L_srt ?_ | with_reducible refine L_comp ?_ | with_reducible refine O_none ?_ | with_reducible refine O_some ?_ | with_reducible refine I_v ?_ | with_reducible refine I_rng ?_ | with_reducible refine I_zip ?_ | with_reducible refine I_enm ?_ | with_reducible refine S_for ?_ | with_reducible refine S_lcp ?_ | with_reducible refine S_lc ?_ | with_reducible refine S_par ?_ | with_reducible refine S_sub ?_ | with_reducible refine S_dsub ?_ | with_reducible refine S_exp ?_ | with_reducible refine R_add ?_ | with_reducible refine R_sub ?_ | ((with_reducible apply R_cmp); rfl) | ((with_reducible apply R_idx); rfl) | ((with_reducible apply R_ty); rfl) | ((with_reducible apply R_blt); rfl) | ((with_reducible apply R_bnd); rfl) | ((with_reducible apply R_map); rfl) | ((with_reducible apply R_wlk); rfl) | ((with_reducible apply R_seq); rfl) | ((with_reducible apply R_srt); rfl) | ((with_reducible apply R_pow); rfl) | ((with_reducible apply R_adds); rfl) | ((with_reducible apply R_muls); rfl) | ((with_reducible apply iteY); rfl) | ((with_reducible apply iteN); rfl) | ((with_reducible apply X_bl); rfl) | ((with_reducible apply X_int); rfl) | ((with_reducible apply X_bind); rfl) | ((with_reducible apply X_and); rfl) | ((with_reducible refine R_mod ?_ ?_); omega) | ((with_reducible refine R_div ?_ ?_); omega) | ((with_reducible refine R_mul ?_ ?_); first | (left; omega) | (right; omega) | (left; decide)) | ((with_reducible apply C_nil); rfl; rfl) | ((with_reducible apply F_nil); rfl; rfl) | ((with_reducible apply C_none); rfl; rfl; rfl) | ((with_reducible apply C_some); rfl; rfl; rfl) | ((with_reducible apply F_cons); rfl; rfl; rfl) | ((with_reducible refine ⟨?_, ?_, ?_⟩); (first | omega | decide); (first | omega | decide)))
    exact sums _ (by simp [WD])
def SM (sm : List W) : Prop := (∀ w ∈ sm, w ∈ PLs) ∧ 0 < sm.length ∧ sm.length < 100
theorem stage2 {d : Nat} {p k : Ad} {m : Nat} {sm : List W} {v4 v5 : Option W} {h : VH} {N B C' : Env → VH → Prop} {Q : W → VH → Prop} (hp : Pool h p) (hk : Kn h k m) (hm : m < 100) (hpk : p ≠ k) (hsm : SM sm) (q : ∀ w h', Deed w → After p k (m + 1) h h' → Q w h') :
    Sn ((lvl (C (d + 2)) 60).S [.asg (.nm 4) (.tup [.idx (.l (.lst [.cst (.str [97]), .cst (.str [98])])) (.call 7 [.var 0, .cst (.int 2)]), .idx (.e (.var 3)) (.call 7 [.var 0, .blt .len [.e (.var 3)]])]),
    .asg (.nm 5) (.idx (.l (.lst [.cst (.str [114, 101, 97, 100]), .cst (.str [114, 101, 97, 100]), .cst (.str [97, 100, 100]), .cst (.str [97, 100, 100]), .cst (.str [112, 117, 116]), .cst (.str [114, 97, 105, 115, 101]), .cst (.str [108, 111, 119, 101, 114])])) (.call 7 [.var 0, .cst (.int 7)])),
    .ifs (.cmp .eq (.e (.var 5)) (.e (.cst (.str [114, 101, 97, 100])))) [.exp (.app (.var 2) (.idx (.l (.lst [.cst (.str [120]), .cst (.str [121])])) (.call 7 [.var 0, .cst (.int 2)]))),
    .ret (.tup [.cst (.str [114, 101, 97, 100]), .var 4, .idx (.e (.var 2)) (.neg (.cst (.int 1)))])] [],
    .ret (.tup [.var 5, .var 4, .call 8 [.var 0, .lis (.cat (.e (.var 1)) (.e (.var 2)))]])] [some (.ref p), some (.lis PQ), some (.ref k), some (.lis sm), v4, v5] h) N Q B C' := by
  obtain ⟨s1, s2, s3⟩ := hsm
  refine S_cons (S_asg ?_)
  repeat (first | ((with_reducible apply E_var); rfl) | with_reducible refine E_cst ?_ | with_reducible refine V_e ?_ | with_reducible refine V_l ?_ | with_reducible refine A_nil ?_ | with_reducible refine A_cons ?_ | with_reducible refine S_nil ?_ | with_reducible refine S_ret ?_ | with_reducible refine S_if ?_ | with_reducible refine S_asg ?_ | with_reducible refine T_val ?_ | with_reducible refine T_not ?_ | with_reducible refine T_cmp ?_ | with_reducible refine T_or1 ?_ | with_reducible refine T_or ?_ | with_reducible refine T_and1 ?_ | with_reducible refine T_and ?_ | with_reducible refine T_chn ?_ | with_reducible refine E_idx ?_ | with_reducible refine E_tup ?_ | with_reducible refine E_bin ?_ | with_reducible refine E_cmp ?_ | with_reducible refine E_isi ?_ | with_reducible refine E_blt ?_ | with_reducible refine E_call ?_ | with_reducible refine E_callK ?_ | with_reducible refine E_chn ?_ | with_reducible refine E_and1 ?_ | with_reducible refine E_and ?_ | with_reducible refine E_or1 ?_ | with_reducible refine E_or ?_ | with_reducible refine E_not ?_ | with_reducible refine E_neg ?_ | with_reducible refine E_lis ?_ | with_reducible refine E_new ?_ | with_reducible refine E_ndic ?_ | with_reducible refine E_ite ?_ | with_reducible refine E_didx ?_ | with_reducible refine E_dget ?_ | with_reducible refine E_app ?_ | with_reducible refine L_lst ?_ | with_reducible refine L_cat ?_ | with_reducible refine L_slc ?_ | with_reducible refine L_lof ?_ | with_reducible refine L_srt ?_ | with_reducible refine L_comp ?_ | with_reducible refine O_none ?_ | with_reducible refine O_some ?_ | with_reducible refine I_v ?_ | with_reducible refine I_rng ?_ | with_reducible refine I_zip ?_ | with_reducible refine I_enm ?_ | with_reducible refine S_for ?_ | with_reducible refine S_lcp ?_ | with_reducible refine S_lc ?_ | with_reducible refine S_par ?_ | with_reducible refine S_sub ?_ | with_reducible refine S_dsub ?_ | with_reducible refine S_exp ?_ | with_reducible refine R_add ?_ | with_reducible refine R_sub ?_ | ((with_reducible apply R_cmp); rfl) | ((with_reducible apply R_idx); rfl) | ((with_reducible apply R_ty); rfl) | ((with_reducible apply R_blt); rfl) | ((with_reducible apply R_bnd); rfl) | ((with_reducible apply R_map); rfl) | ((with_reducible apply R_wlk); rfl) | ((with_reducible apply R_seq); rfl) | ((with_reducible apply R_srt); rfl) | ((with_reducible apply R_pow); rfl) | ((with_reducible apply R_adds); rfl) | ((with_reducible apply R_muls); rfl) | ((with_reducible apply iteY); rfl) | ((with_reducible apply iteN); rfl) | ((with_reducible apply X_bl); rfl) | ((with_reducible apply X_int); rfl) | ((with_reducible apply X_bind); rfl) | ((with_reducible apply X_and); rfl) | ((with_reducible refine R_mod ?_ ?_); omega) | ((with_reducible refine R_div ?_ ?_); omega) | ((with_reducible refine R_mul ?_ ?_); first | (left; omega) | (right; omega) | (left; decide)) | ((with_reducible apply C_nil); rfl; rfl) | ((with_reducible apply F_nil); rfl; rfl) | ((with_reducible apply C_none); rfl; rfl; rfl) | ((with_reducible apply C_some); rfl; rfl; rfl) | ((with_reducible apply F_cons); rfl; rfl; rfl) | ((with_reducible refine ⟨?_, ?_, ?_⟩); (first | omega | decide); (first | omega | decide)))
  refine draw_spec hp (by decide) (by decide) fun r h1 r0 r1 hp1 fr1 => ?_
  have go : ∀ s : List Nat, (s = [97] ∨ s = [98]) → ∀ h2 x, x ∈ PLs → Pool h2 p → Frm p h1 h2 → Sn ((lvl (C (d + 2)) 60).S [.asg (.nm 5) (.idx (.l (.lst [.cst (.str [114, 101, 97, 100]), .cst (.str [114, 101, 97, 100]), .cst (.str [97, 100, 100]), .cst (.str [97, 100, 100]), .cst (.str [112, 117, 116]), .cst (.str [114, 97, 105, 115, 101]), .cst (.str [108, 111, 119, 101, 114])])) (.call 7 [.var 0, .cst (.int 7)])),
    .ifs (.cmp .eq (.e (.var 5)) (.e (.cst (.str [114, 101, 97, 100])))) [.exp (.app (.var 2) (.idx (.l (.lst [.cst (.str [120]), .cst (.str [121])])) (.call 7 [.var 0, .cst (.int 2)]))),
    .ret (.tup [.cst (.str [114, 101, 97, 100]), .var 4, .idx (.e (.var 2)) (.neg (.cst (.int 1)))])] [],
    .ret (.tup [.var 5, .var 4, .call 8 [.var 0, .lis (.cat (.e (.var 1)) (.e (.var 2)))]])] [some (.ref p), some (.lis PQ), some (.ref k), some (.lis sm), some (.tup [.str s, x]), v5] h2) N Q B C' := by
    intro s hs h2 x hx hp2 fr2
    have fr := fr1.trans fr2
    refine stage3 hp2 (hk.fr fr hpk) hm hpk ⟨s, x, hs, hx, rfl⟩ fun w h3 hw ⟨a1, a2, a3, a4⟩ => q w h3 hw ⟨a1, a2, fun z z1 z2 z3 => (a3 z z1 z2 (Nat.lt_of_lt_of_le z3 fr.2)).trans (fr.1 z z1 z3), Nat.le_trans fr.2 a4⟩
  have h3 : r = 0 ∨ r = 1 := by omega
  rcases h3 with rfl | rfl
  · repeat (first | ((with_reducible apply E_var); rfl) | with_reducible refine E_cst ?_ | with_reducible refine V_e ?_ | with_reducible refine V_l ?_ | with_reducible refine A_nil ?_ | with_reducible refine A_cons ?_ | with_reducible refine S_nil ?_ | with_reducible refine S_ret ?_ | with_reducible refine S_if ?_ | with_reducible refine S_asg ?_ | with_reducible refine T_val ?_ | with_reducible refine T_not ?_ | with_reducible refine T_cmp ?_ | with_reducible refine T_or1 ?_ | with_reducible refine T_or ?_ | with_reducible refine T_and1 ?_ | with_reducible refine T_and ?_ | with_reducible refine T_chn ?_ | with_reducible refine E_idx ?_ | with_reducible refine E_tup ?_ | with_reducible refine E_bin ?_ | with_reducible refine E_cmp ?_ | with_reducible refine E_isi ?_ | with_reducible refine E_blt ?_ | with_reducible refine E_call ?_ | with_reducible refine E_callK ?_ | with_reducible refine E_chn ?_ | with_reducible refine E_and1 ?_ | with_reducible refine E_and ?_ | with_reducible refine E_or1 ?_ | with_reducible refine E_or ?_ | with_reducible refine E_not ?_ | with_reducible refine E_neg ?_ | with_reducible refine E_lis ?_ | with_reducible refine E_new ?_ | with_reducible refine E_ndic ?_ | with_reducible refine E_ite ?_ | with_reducible refine E_didx ?_ | with_reducible refine E_dget ?_ | with_reducible refine E_app ?_ | with_reducible refine L_lst ?_ | with_reducible refine L_cat ?_ | with_reducible refine L_slc ?_ | with_reducible refine L_lof ?_ | with_reducible refine L_srt ?_ | with_reducible refine L_comp ?_ | with_reducible refine O_none ?_ | with_reducible refine O_some ?_ | with_reducible refine I_v ?_ | with_reducible refine I_rng ?_ | with_reducible refine I_zip ?_ | with_reducible refine I_enm ?_ | with_reducible refine S_for ?_ | with_reducible refine S_lcp ?_ | with_reducible refine S_lc ?_ | with_reducible refine S_par ?_ | with_reducible refine S_sub ?_ | with_reducible refine S_dsub ?_ | with_reducible refine S_exp ?_ | with_reducible refine R_add ?_ | with_reducible refine R_sub ?_ | ((with_reducible apply R_cmp); rfl) | ((with_reducible apply R_idx); rfl) | ((with_reducible apply R_ty); rfl) | ((with_reducible apply R_blt); rfl) | ((with_reducible apply R_bnd); rfl) | ((with_reducible apply R_map); rfl) | ((with_reducible apply R_wlk); rfl) | ((with_reducible apply R_seq); rfl) | ((with_reducible apply R_srt); rfl) | ((with_reducible apply R_pow); rfl) | ((with_reducible apply R_adds); rfl) | ((with_reducible apply R_muls); rfl) | ((with_reducible apply iteY); rfl) | ((with_reducible apply iteN); rfl) | ((with_reducible apply X_bl); rfl) | ((with_reducible apply X_int); rfl) | ((with_reducible apply X_bind); rfl) | ((with_reducible apply X_and); rfl) | ((with_reducible refine R_mod ?_ ?_); omega) | ((with_reducible refine R_div ?_ ?_); omega) | ((with_reducible refine R_mul ?_ ?_); first | (left; omega) | (right; omega) | (left; decide)) | ((with_reducible apply C_nil); rfl; rfl) | ((with_reducible apply F_nil); rfl; rfl) | ((with_reducible apply C_none); rfl; rfl; rfl) | ((with_reducible apply C_some); rfl; rfl; rfl) | ((with_reducible apply F_cons); rfl; rfl; rfl) | ((with_reducible refine ⟨?_, ?_, ?_⟩); (first | omega | decide); (first | omega | decide)))
    refine draw_spec hp1 (by show (0 : Int) < ((sm.length : Nat) : Int); omega) (by show ((sm.length : Nat) : Int) < _; omega) fun s h2 t0 t1 hp2 fr2 => ?_
    obtain ⟨x, hx, ex⟩ := elem_at (h := h2) t0 t1
    repeat (first | with_reducible refine R_idx ex ?_ | ((with_reducible apply E_var); rfl) | with_reducible refine E_cst ?_ | with_reducible refine V_e ?_ | with_reducible refine V_l ?_ | with_reducible refine A_nil ?_ | with_reducible refine A_cons ?_ | with_reducible refine S_nil ?_ | with_reducible refine S_ret ?_ | with_reducible refine S_if ?_ | with_reducible refine S_asg ?_ | with_reducible refine T_val ?_ | with_reducible refine T_not ?_ | with_reducible refine T_cmp ?_ | with_reducible refine T_or1 ?_ | with_reducible refine T_or ?_ | with_reducible refine T_and1 ?_ | with_reducible refine T_and ?_ | with_reducible refine T_chn ?_ | with_reducible refine E_idx ?_ | with_reducible refine E_tup ?_ | with_reducible refine E_bin ?_ | with_reducible refine E_cmp ?_ | with_reducible refine E_isi ?_ | with_reducible refine E_blt ?_ | with_reducible refine E_call ?_ | with_reducible refine E_callK ?_ | with_reducible refine E_chn ?_ | with_reducible refine E_and1 ?_ | with_reducible refine E_and ?_ | with_reducible refine E_or1 ?_ | with_reducible refine E_or ?_ | with_reducible refine E_not ?_ | with_reducible refine E_neg ?_ | with_reducible refine E_lis ?_ | with_reducible refine E_new ?_ | with_reducible refine E_ndic ?_ | with_reducible refine E_ite ?_ | with_reducible refine E_didx ?_ | with_reducible refine E_dget ?_ | with_reducible refine E_app ?_ | with_reducible refine L_lst ?_ | with_reducible refine L_cat ?_ | with_reducible refine L_slc ?_ | with_reducible refine L_lof ?_ | with_reducible refine L_srt ?_ | with_reducible refine L_comp ?_ | with_reducible refine O_none ?_ | with_reducible refine O_some ?_ | with_reducible refine I_v ?_ | with_reducible refine I_rng ?_ | with_reducible refine I_zip ?_ | with_reducible refine I_enm ?_ | with_reducible refine S_for ?_ | with_reducible refine S_lcp ?_ | with_reducible refine S_lc ?_ | with_reducible refine S_par ?_ | with_reducible refine S_sub ?_ | with_reducible refine S_dsub ?_ | with_reducible refine S_exp ?_ | with_reducible refine R_add ?_ | with_reducible refine R_sub ?_ | ((with_reducible apply R_cmp); rfl) | ((with_reducible apply R_idx); rfl) | ((with_reducible apply R_ty); rfl) | ((with_reducible apply R_blt); rfl) | ((with_reducible apply R_bnd); rfl) | ((with_reducible apply R_map); rfl) | ((with_reducible apply R_wlk); rfl) | ((with_reducible apply R_seq); rfl) | ((with_reducible apply R_srt); rfl) | ((with_reducible apply R_pow); rfl) | ((with_reducible apply R_adds); rfl) | ((with_reducible apply R_muls); rfl) | ((with_reducible apply iteY); rfl) | ((with_reducible apply iteN); rfl) | ((with_reducible apply X_bl); rfl) | ((with_reducible apply X_int); rfl) | ((with_reducible apply X_bind); rfl) | ((with_reducible apply X_and); rfl) | ((with_reducible refine R_mod ?_ ?_); omega) | ((with_reducible refine R_div ?_ ?_); omega) | ((with_reducible refine R_mul ?_ ?_); first | (left; omega) | (right; omega) | (left; decide)) | ((with_reducible apply C_nil); rfl; rfl) | ((with_reducible apply F_nil); rfl; rfl) | ((with_reducible apply C_none); rfl; rfl; rfl) | ((with_reducible apply C_some); rfl; rfl; rfl) | ((with_reducible apply F_cons); rfl; rfl; rfl) | ((with_reducible refine ⟨?_, ?_, ?_⟩); (first | omega | decide); (first | omega | decide)))
    exact go [97] (.inl rfl) h2 x (s1 x hx) hp2 fr2
  · repeat (first | ((with_reducible apply E_var); rfl) | with_reducible refine E_cst ?_ | with_reducible refine V_e ?_ | with_reducible refine V_l ?_ | with_reducible refine A_nil ?_ | with_reducible refine A_cons ?_ | with_reducible refine S_nil ?_ | with_reducible refine S_ret ?_ | with_reducible refine S_if ?_ | with_reducible refine S_asg ?_ | with_reducible refine T_val ?_ | with_reducible refine T_not ?_ | with_reducible refine T_cmp ?_ | with_reducible refine T_or1 ?_ | with_reducible refine T_or ?_ | with_reducible refine T_and1 ?_ | with_reducible refine T_and ?_ | with_reducible refine T_chn ?_ | with_reducible refine E_idx ?_ | with_reducible refine E_tup ?_ | with_reducible refine E_bin ?_ | with_reducible refine E_cmp ?_ | with_reducible refine E_isi ?_ | with_reducible refine E_blt ?_ | with_reducible refine E_call ?_ | with_reducible refine E_callK ?_ | with_reducible refine E_chn ?_ | with_reducible refine E_and1 ?_ | with_reducible refine E_and ?_ | with_reducible refine E_or1 ?_ | with_reducible refine E_or ?_ | with_reducible refine E_not ?_ | with_reducible refine E_neg ?_ | with_reducible refine E_lis ?_ | with_reducible refine E_new ?_ | with_reducible refine E_ndic ?_ | with_reducible refine E_ite ?_ | with_reducible refine E_didx ?_ | with_reducible refine E_dget ?_ | with_reducible refine E_app ?_ | with_reducible refine L_lst ?_ | with_reducible refine L_cat ?_ | with_reducible refine L_slc ?_ | with_reducible refine L_lof ?_ | with_reducible refine L_srt ?_ | with_reducible refine L_comp ?_ | with_reducible refine O_none ?_ | with_reducible refine O_some ?_ | with_reducible refine I_v ?_ | with_reducible refine I_rng ?_ | with_reducible refine I_zip ?_ | with_reducible refine I_enm ?_ | with_reducible refine S_for ?_ | with_reducible refine S_lcp ?_ | with_reducible refine S_lc ?_ | with_reducible refine S_par ?_ | with_reducible refine S_sub ?_ | with_reducible refine S_dsub ?_ | with_reducible refine S_exp ?_ | with_reducible refine R_add ?_ | with_reducible refine R_sub ?_ | ((with_reducible apply R_cmp); rfl) | ((with_reducible apply R_idx); rfl) | ((with_reducible apply R_ty); rfl) | ((with_reducible apply R_blt); rfl) | ((with_reducible apply R_bnd); rfl) | ((with_reducible apply R_map); rfl) | ((with_reducible apply R_wlk); rfl) | ((with_reducible apply R_seq); rfl) | ((with_reducible apply R_srt); rfl) | ((with_reducible apply R_pow); rfl) | ((with_reducible apply R_adds); rfl) | ((with_reducible apply R_muls); rfl) | ((with_reducible apply iteY); rfl) | ((with_reducible apply iteN); rfl) | ((with_reducible apply X_bl); rfl) | ((with_reducible apply X_int); rfl) | ((with_reducible apply X_bind); rfl) | ((with_reducible apply X_and); rfl) | ((with_reducible refine R_mod ?_ ?_); omega) | ((with_reducible refine R_div ?_ ?_); omega) | ((with_reducible refine R_mul ?_ ?_); first | (left; omega) | (right; omega) | (left; decide)) | ((with_reducible apply C_nil); rfl; rfl) | ((with_reducible apply F_nil); rfl; rfl) | ((with_reducible apply C_none); rfl; rfl; rfl) | ((with_reducible apply C_some); rfl; rfl; rfl) | ((with_reducible apply F_cons); rfl; rfl; rfl) | ((with_reducible refine ⟨?_, ?_, ?_⟩); (first | omega | decide); (first | omega | decide)))
    refine draw_spec hp1 (by show (0 : Int) < ((sm.length : Nat) : Int); omega) (by show ((sm.length : Nat) : Int) < _; omega) fun s h2 t0 t1 hp2 fr2 => ?_
    obtain ⟨x, hx, ex⟩ := elem_at (h := h2) t0 t1
    repeat (first | with_reducible refine R_idx ex ?_ | ((with_reducible apply E_var); rfl) | with_reducible refine E_cst ?_ | with_reducible refine V_e ?_ | with_reducible refine V_l ?_ | with_reducible refine A_nil ?_ | with_reducible refine A_cons ?_ | with_reducible refine S_nil ?_ | with_reducible refine S_ret ?_ | with_reducible refine S_if ?_ | with_reducible refine S_asg ?_ | with_reducible refine T_val ?_ | with_reducible refine T_not ?_ | with_reducible refine T_cmp ?_ | with_reducible refine T_or1 ?_ | with_reducible refine T_or ?_ | with_reducible refine T_and1 ?_ | with_reducible refine T_and ?_ | with_reducible refine T_chn ?_ | with_reducible refine E_idx ?_ | with_reducible refine E_tup ?_ | with_reducible refine E_bin ?_ | with_reducible refine E_cmp ?_ | with_reducible refine E_isi ?_ | with_reducible refine E_blt ?_ | with_reducible refine E_call ?_ | with_reducible refine E_callK ?_ | with_reducible refine E_chn ?_ | with_reducible refine E_and1 ?_ | with_reducible refine E_and ?_ | with_reducible refine E_or1 ?_ | with_reducible refine E_or ?_ | with_reducible refine E_not ?_ | with_reducible refine E_neg ?_ | with_reducible refine E_lis ?_ | with_reducible refine E_new ?_ | with_reducible refine E_ndic ?_ | with_reducible refine E_ite ?_ | with_reducible refine E_didx ?_ | with_reducible refine E_dget ?_ | with_reducible refine E_app ?_ | with_reducible refine L_lst ?_ | with_reducible refine L_cat ?_ | with_reducible refine L_slc ?_ | with_reducible refine L_lof ?_ | with_reducible refine L_srt ?_ | with_reducible refine L_comp ?_ | with_reducible refine O_none ?_ | with_reducible refine O_some ?_ | with_reducible refine I_v ?_ | with_reducible refine I_rng ?_ | with_reducible refine I_zip ?_ | with_reducible refine I_enm ?_ | with_reducible refine S_for ?_ | with_reducible refine S_lcp ?_ | with_reducible refine S_lc ?_ | with_reducible refine S_par ?_ | with_reducible refine S_sub ?_ | with_reducible refine S_dsub ?_ | with_reducible refine S_exp ?_ | with_reducible refine R_add ?_ | with_reducible refine R_sub ?_ | ((with_reducible apply R_cmp); rfl) | ((with_reducible apply R_idx); rfl) | ((with_reducible apply R_ty); rfl) | ((with_reducible apply R_blt); rfl) | ((with_reducible apply R_bnd); rfl) | ((with_reducible apply R_map); rfl) | ((with_reducible apply R_wlk); rfl) | ((with_reducible apply R_seq); rfl) | ((with_reducible apply R_srt); rfl) | ((with_reducible apply R_pow); rfl) | ((with_reducible apply R_adds); rfl) | ((with_reducible apply R_muls); rfl) | ((with_reducible apply iteY); rfl) | ((with_reducible apply iteN); rfl) | ((with_reducible apply X_bl); rfl) | ((with_reducible apply X_int); rfl) | ((with_reducible apply X_bind); rfl) | ((with_reducible apply X_and); rfl) | ((with_reducible refine R_mod ?_ ?_); omega) | ((with_reducible refine R_div ?_ ?_); omega) | ((with_reducible refine R_mul ?_ ?_); first | (left; omega) | (right; omega) | (left; decide)) | ((with_reducible apply C_nil); rfl; rfl) | ((with_reducible apply F_nil); rfl; rfl) | ((with_reducible apply C_none); rfl; rfl; rfl) | ((with_reducible apply C_some); rfl; rfl; rfl) | ((with_reducible apply F_cons); rfl; rfl; rfl) | ((with_reducible refine ⟨?_, ?_, ?_⟩); (first | omega | decide); (first | omega | decide)))
    exact go [98] (.inr rfl) h2 x (s1 x hx) hp2 fr2
theorem deed_spec {d : Nat} {p k : Ad} {m : Nat} {h : VH} {Q : W → VH → Prop} (hp : Pool h p) (hk : Kn h k m) (hm : m < 100) (hpk : p ≠ k) (q : ∀ w h', Deed w → After p k (m + 1) h h' → Q w h') : Rn (C (d + 3) 9 [.ref p, .lis PQ, .ref k] h) Q := by
  refine Rn_call rfl rfl ?_
  refine S_cons (S_asg ?_)
  repeat (first | ((with_reducible apply E_var); rfl) | with_reducible refine E_cst ?_ | with_reducible refine V_e ?_ | with_reducible refine V_l ?_ | with_reducible refine A_nil ?_ | with_reducible refine A_cons ?_ | with_reducible refine S_nil ?_ | with_reducible refine S_ret ?_ | with_reducible refine S_if ?_ | with_reducible refine S_asg ?_ | with_reducible refine T_val ?_ | with_reducible refine T_not ?_ | with_reducible refine T_cmp ?_ | with_reducible refine T_or1 ?_ | with_reducible refine T_or ?_ | with_reducible refine T_and1 ?_ | with_reducible refine T_and ?_ | with_reducible refine T_chn ?_ | with_reducible refine E_idx ?_ | with_reducible refine E_tup ?_ | with_reducible refine E_bin ?_ | with_reducible refine E_cmp ?_ | with_reducible refine E_isi ?_ | with_reducible refine E_blt ?_ | with_reducible refine E_call ?_ | with_reducible refine E_callK ?_ | with_reducible refine E_chn ?_ | with_reducible refine E_and1 ?_ | with_reducible refine E_and ?_ | with_reducible refine E_or1 ?_ | with_reducible refine E_or ?_ | with_reducible refine E_not ?_ | with_reducible refine E_neg ?_ | with_reducible refine E_lis ?_ | with_reducible refine E_new ?_ | with_reducible refine E_ndic ?_ | with_reducible refine E_ite ?_ | with_reducible refine E_didx ?_ | with_reducible refine E_dget ?_ | with_reducible refine E_app ?_ | with_reducible refine L_lst ?_ | with_reducible refine L_cat ?_ | with_reducible refine L_slc ?_ | with_reducible refine L_lof ?_ | with_reducible refine L_srt ?_ | with_reducible refine L_comp ?_ | with_reducible refine O_none ?_ | with_reducible refine O_some ?_ | with_reducible refine I_v ?_ | with_reducible refine I_rng ?_ | with_reducible refine I_zip ?_ | with_reducible refine I_enm ?_ | with_reducible refine S_for ?_ | with_reducible refine S_lcp ?_ | with_reducible refine S_lc ?_ | with_reducible refine S_par ?_ | with_reducible refine S_sub ?_ | with_reducible refine S_dsub ?_ | with_reducible refine S_exp ?_ | with_reducible refine R_add ?_ | with_reducible refine R_sub ?_ | ((with_reducible apply R_cmp); rfl) | ((with_reducible apply R_idx); rfl) | ((with_reducible apply R_ty); rfl) | ((with_reducible apply R_blt); rfl) | ((with_reducible apply R_bnd); rfl) | ((with_reducible apply R_map); rfl) | ((with_reducible apply R_wlk); rfl) | ((with_reducible apply R_seq); rfl) | ((with_reducible apply R_srt); rfl) | ((with_reducible apply R_pow); rfl) | ((with_reducible apply R_adds); rfl) | ((with_reducible apply R_muls); rfl) | ((with_reducible apply iteY); rfl) | ((with_reducible apply iteN); rfl) | ((with_reducible apply X_bl); rfl) | ((with_reducible apply X_int); rfl) | ((with_reducible apply X_bind); rfl) | ((with_reducible apply X_and); rfl) | ((with_reducible refine R_mod ?_ ?_); omega) | ((with_reducible refine R_div ?_ ?_); omega) | ((with_reducible refine R_mul ?_ ?_); first | (left; omega) | (right; omega) | (left; decide)) | ((with_reducible apply C_nil); rfl; rfl) | ((with_reducible apply F_nil); rfl; rfl) | ((with_reducible apply C_none); rfl; rfl; rfl) | ((with_reducible apply C_some); rfl; rfl; rfl) | ((with_reducible apply F_cons); rfl; rfl; rfl) | ((with_reducible refine ⟨?_, ?_, ?_⟩); (first | omega | decide); (first | omega | decide)))
  refine draw_spec hp (by decide) (by decide) fun r h1 r0 r1 hp1 fr1 => ?_
  have q1 : ∀ w h', Deed w → After p k (m + 1) h1 h' → Q w h' := fun w h3 hw ⟨a1, a2, a3, a4⟩ => q w h3 hw ⟨a1, a2, fun z z1 z2 z3 => (a3 z z1 z2 (Nat.lt_of_lt_of_le z3 fr1.2)).trans (fr1.1 z z1 z3), Nat.le_trans fr1.2 a4⟩
  have h3 : r = 0 ∨ r = 1 := by omega
  rcases h3 with rfl | rfl
  · repeat (first | ((with_reducible apply E_var); rfl) | with_reducible refine E_cst ?_ | with_reducible refine V_e ?_ | with_reducible refine V_l ?_ | with_reducible refine A_nil ?_ | with_reducible refine A_cons ?_ | with_reducible refine S_nil ?_ | with_reducible refine S_ret ?_ | with_reducible refine S_if ?_ | with_reducible refine S_asg ?_ | with_reducible refine T_val ?_ | with_reducible refine T_not ?_ | with_reducible refine T_cmp ?_ | with_reducible refine T_or1 ?_ | with_reducible refine T_or ?_ | with_reducible refine T_and1 ?_ | with_reducible refine T_and ?_ | with_reducible refine T_chn ?_ | with_reducible refine E_idx ?_ | with_reducible refine E_tup ?_ | with_reducible refine E_bin ?_ | with_reducible refine E_cmp ?_ | with_reducible refine E_isi ?_ | with_reducible refine E_blt ?_ | with_reducible refine E_call ?_ | with_reducible refine E_callK ?_ | with_reducible refine E_chn ?_ | with_reducible refine E_and1 ?_ | with_reducible refine E_and ?_ | with_reducible refine E_or1 ?_ | with_reducible refine E_or ?_ | with_reducible refine E_not ?_ | with_reducible refine E_neg ?_ | with_reducible refine E_lis ?_ | with_reducible refine E_new ?_ | with_reducible refine E_ndic ?_ | with_reducible refine E_ite ?_ | with_reducible refine E_didx ?_ | with_reducible refine E_dget ?_ | with_reducible refine E_app ?_ | with_reducible refine L_lst ?_ | with_reducible refine L_cat ?_ | with_reducible refine L_slc ?_ | with_reducible refine L_lof ?_ | with_reducible refine L_srt ?_ | with_reducible refine L_comp ?_ | with_reducible refine O_none ?_ | with_reducible refine O_some ?_ | with_reducible refine I_v ?_ | with_reducible refine I_rng ?_ | with_reducible refine I_zip ?_ | with_reducible refine I_enm ?_ | with_reducible refine S_for ?_ | with_reducible refine S_lcp ?_ | with_reducible refine S_lc ?_ | with_reducible refine S_par ?_ | with_reducible refine S_sub ?_ | with_reducible refine S_dsub ?_ | with_reducible refine S_exp ?_ | with_reducible refine R_add ?_ | with_reducible refine R_sub ?_ | ((with_reducible apply R_cmp); rfl) | ((with_reducible apply R_idx); rfl) | ((with_reducible apply R_ty); rfl) | ((with_reducible apply R_blt); rfl) | ((with_reducible apply R_bnd); rfl) | ((with_reducible apply R_map); rfl) | ((with_reducible apply R_wlk); rfl) | ((with_reducible apply R_seq); rfl) | ((with_reducible apply R_srt); rfl) | ((with_reducible apply R_pow); rfl) | ((with_reducible apply R_adds); rfl) | ((with_reducible apply R_muls); rfl) | ((with_reducible apply iteY); rfl) | ((with_reducible apply iteN); rfl) | ((with_reducible apply X_bl); rfl) | ((with_reducible apply X_int); rfl) | ((with_reducible apply X_bind); rfl) | ((with_reducible apply X_and); rfl) | ((with_reducible refine R_mod ?_ ?_); omega) | ((with_reducible refine R_div ?_ ?_); omega) | ((with_reducible refine R_mul ?_ ?_); first | (left; omega) | (right; omega) | (left; decide)) | ((with_reducible apply C_nil); rfl; rfl) | ((with_reducible apply F_nil); rfl; rfl) | ((with_reducible apply C_none); rfl; rfl; rfl) | ((with_reducible apply C_some); rfl; rfl; rfl) | ((with_reducible apply F_cons); rfl; rfl; rfl) | ((with_reducible refine ⟨?_, ?_, ?_⟩); (first | omega | decide); (first | omega | decide)))
    exact stage2 (sm := [.str [112], .str [113], .str [112], .str [113], .int 0]) hp1 (hk.fr fr1 hpk) hm hpk ⟨by simp [PLs], by decide, by decide⟩ q1
  · repeat (first | ((with_reducible apply E_var); rfl) | with_reducible refine E_cst ?_ | with_reducible refine V_e ?_ | with_reducible refine V_l ?_ | with_reducible refine A_nil ?_ | with_reducible refine A_cons ?_ | with_reducible refine S_nil ?_ | with_reducible refine S_ret ?_ | with_reducible refine S_if ?_ | with_reducible refine S_asg ?_ | with_reducible refine T_val ?_ | with_reducible refine T_not ?_ | with_reducible refine T_cmp ?_ | with_reducible refine T_or1 ?_ | with_reducible refine T_or ?_ | with_reducible refine T_and1 ?_ | with_reducible refine T_and ?_ | with_reducible refine T_chn ?_ | with_reducible refine E_idx ?_ | with_reducible refine E_tup ?_ | with_reducible refine E_bin ?_ | with_reducible refine E_cmp ?_ | with_reducible refine E_isi ?_ | with_reducible refine E_blt ?_ | with_reducible refine E_call ?_ | with_reducible refine E_callK ?_ | with_reducible refine E_chn ?_ | with_reducible refine E_and1 ?_ | with_reducible refine E_and ?_ | with_reducible refine E_or1 ?_ | with_reducible refine E_or ?_ | with_reducible refine E_not ?_ | with_reducible refine E_neg ?_ | with_reducible refine E_lis ?_ | with_reducible refine E_new ?_ | with_reducible refine E_ndic ?_ | with_reducible refine E_ite ?_ | with_reducible refine E_didx ?_ | with_reducible refine E_dget ?_ | with_reducible refine E_app ?_ | with_reducible refine L_lst ?_ | with_reducible refine L_cat ?_ | with_reducible refine L_slc ?_ | with_reducible refine L_lof ?_ | with_reducible refine L_srt ?_ | with_reducible refine L_comp ?_ | with_reducible refine O_none ?_ | with_reducible refine O_some ?_ | with_reducible refine I_v ?_ | with_reducible refine I_rng ?_ | with_reducible refine I_zip ?_ | with_reducible refine I_enm ?_ | with_reducible refine S_for ?_ | with_reducible refine S_lcp ?_ | with_reducible refine S_lc ?_ | with_reducible refine S_par ?_ | with_reducible refine S_sub ?_ | with_reducible refine S_dsub ?_ | with_reducible refine S_exp ?_ | with_reducible refine R_add ?_ | with_reducible refine R_sub ?_ | ((with_reducible apply R_cmp); rfl) | ((with_reducible apply R_idx); rfl) | ((with_reducible apply R_ty); rfl) | ((with_reducible apply R_blt); rfl) | ((with_reducible apply R_bnd); rfl) | ((with_reducible apply R_map); rfl) | ((with_reducible apply R_wlk); rfl) | ((with_reducible apply R_seq); rfl) | ((with_reducible apply R_srt); rfl) | ((with_reducible apply R_pow); rfl) | ((with_reducible apply R_adds); rfl) | ((with_reducible apply R_muls); rfl) | ((with_reducible apply iteY); rfl) | ((with_reducible apply iteN); rfl) | ((with_reducible apply X_bl); rfl) | ((with_reducible apply X_int); rfl) | ((with_reducible apply X_bind); rfl) | ((with_reducible apply X_and); rfl) | ((with_reducible refine R_mod ?_ ?_); omega) | ((with_reducible refine R_div ?_ ?_); omega) | ((with_reducible refine R_mul ?_ ?_); first | (left; omega) | (right; omega) | (left; decide)) | ((with_reducible apply C_nil); rfl; rfl) | ((with_reducible apply F_nil); rfl; rfl) | ((with_reducible apply C_none); rfl; rfl; rfl) | ((with_reducible apply C_some); rfl; rfl; rfl) | ((with_reducible apply F_cons); rfl; rfl; rfl) | ((with_reducible refine ⟨?_, ?_, ?_⟩); (first | omega | decide); (first | omega | decide)))
    exact stage2 (sm := [.str [112], .str [113], .str [112], .str [113], .int 0, .int 1]) hp1 (hk.fr fr1 hpk) hm hpk ⟨by simp [PLs], by decide, by decide⟩ q1
end K01


set_option linter.all false
set_option maxRecDepth 100000
set_option maxHeartbeats 4000000
namespace K01
open VM
/-- the heap bears the script -/
def Scr (o : O) (h : VH) : Prop := h.get .one = some o ∧ 1 < h.nx.num
theorem list_of {h : VH} {w : W} (hw : Deed w) : ∃ ws, seqOf h (.w w) = some ws := by
  cases hw <;> exact ⟨_, rfl⟩
theorem word_of {h : VH} {w : W} (hw : Deed w) : (∃ b, idxA h (.w w) (.int 0) = some (.str b) ∧ ((eqS b [114, 101, 97, 100] = true) ∨ (eqS b [114, 101, 97, 100] = false ∧ ∃ s, IsSum s ∧ idxA h (.w w) (.int 2) = some s))) := by
  cases hw with
  | read hp hn => exact ⟨_, rfl, .inl rfl⟩
  | sum hp hn hs =>
    simp only [WD, List.mem_cons, List.not_mem_nil, or_false] at hn
    rcases hn with rfl | rfl | rfl | rfl <;> exact ⟨_, rfl, .inr ⟨rfl, _, hs, rfl⟩⟩
theorem R_mule {h : VH} {i j : Int} {w : W} {Q : W → VH → Prop} (e : arith .mul (.int i) (.int j) = some w) (q : Q w h) : Rn (Res.of (arith .mul (.int i) (.int j)) h) Q := by rw [e]; exact q
theorem p50 : arith .pow (.int 10) (.int 50) = some (.int 100000000000000000000000000000000000000000000000000) := rfl
theorem m50 : arith .mul (.int 100000000000000000000000000000000000000000000000000) (.int 100000000000000000000000000000000000000000000000000) = some (.int 10000000000000000000000000000000000000000000000000000000000000000000000000000000000000000000000000000) := rfl
theorem p6 : arith .pow (.int 10) (.int 6) = some (.int 1000000) := rfl
theorem inner2 {d : Nat} {p k : Ad} {m : Nat} {o : O} {w : W} {v1 v2 v5 v7 : Option W} {h : VH} {N B C' : Env → VH → Prop} {Q : W → VH → Prop} (hw : Deed w) (hp : Pool h p) (hk : Kn h k m) (hpk : p ≠ k) (hs : Scr o h) (h1p : 1 < p.num)
    (q : ∀ v6' v7' h', Pool h' p → Kn h' k m → Scr o h' → N [some (.ref .one), v1, v2, some (.ref p), some (.ref k), v5, v6', v7'] h') :
    Sn ((lvl (C (d + 5)) 58).S [.asg (.nm 7) (.bin .sub (.bin .sub (.bin .mul (.bin .pow (.cst (.int 10)) (.cst (.int 50))) (.bin .pow (.cst (.int 10)) (.cst (.int 50)))) (.cst (.int 1))) (.call 7 [.var 3, .bin .pow (.cst (.int 10)) (.cst (.int 6))])),
    .ifs (.not (.val (.call 3 [.tup [.cst (.str [115, 117, 109]), .var 7, .tup [.tup [.neg (.var 7), .cst (.str [97, 98, 99, 100, 101, 102, 103, 104])]]]]))) [.ret (.cst (.bl false))] [],
    .ifs (.not (.val (.call 5 [.tup [.cst (.str [114, 101, 97, 100]), .tup [.cst (.str [122, 122]), .neg (.var 7)], .cst (.str [97, 98, 99, 100, 101, 102, 103, 104])]]))) [.ret (.cst (.bl false))] [],
    .ifs (.or [.val (.call 5 [.lis (.lof (.e (.var 6)))]), .val (.call 3 [.var 6])]) [.ret (.cst (.bl false))] []] [some (.ref .one), v1, v2, some (.ref p), some (.ref k), v5, some w, v7] h) N Q B C' := by
  repeat (first | with_reducible refine R_pow p50 ?_ | with_reducible refine R_pow p6 ?_ | with_reducible refine R_mule m50 ?_ | ((with_reducible apply E_var); rfl) | with_reducible refine E_cst ?_ | with_reducible refine V_e ?_ | with_reducible refine V_l ?_ | with_reducible refine A_nil ?_ | with_reducible refine A_cons ?_ | with_reducible refine S_cons ?_ | with_reducible refine S_nil ?_ | with_reducible refine S_ret ?_ | with_reducible refine S_if ?_ | with_reducible refine S_asg ?_ | with_reducible refine T_val ?_ | with_reducible refine T_not ?_ | with_reducible refine T_cmp ?_ | with_reducible refine T_or1 ?_ | with_reducible refine T_or ?_ | with_reducible refine T_and1 ?_ | with_reducible refine T_and ?_ | with_reducible refine T_chn ?_ | with_reducible refine E_idx ?_ | with_reducible refine E_tup ?_ | with_reducible refine E_bin ?_ | with_reducible refine E_cmp ?_ | with_reducible refine E_isi ?_ | with_reducible refine E_blt ?_ | with_reducible refine E_call ?_ | with_reducible refine E_callK ?_ | with_reducible refine E_chn ?_ | with_reducible refine E_and1 ?_ | with_reducible refine E_and ?_ | with_reducible refine E_or1 ?_ | with_reducible refine E_or ?_ | with_reducible refine E_not ?_ | with_reducible refine E_neg ?_ | with_reducible refine E_lis ?_ | with_reducible refine E_new ?_ | with_reducible refine E_ndic ?_ | with_reducible refine E_ite ?_ | with_reducible refine E_didx ?_ | with_reducible refine E_dget ?_ | with_reducible refine E_app ?_ | with_reducible refine L_lst ?_ | with_reducible refine L_cat ?_ | with_reducible refine L_slc ?_ | with_reducible refine L_lof ?_ | with_reducible refine L_srt ?_ | with_reducible refine L_comp ?_ | with_reducible refine O_none ?_ | with_reducible refine O_some ?_ | with_reducible refine I_v ?_ | with_reducible refine I_rng ?_ | with_reducible refine I_zip ?_ | with_reducible refine I_enm ?_ | with_reducible refine S_for ?_ | with_reducible refine S_lcp ?_ | with_reducible refine S_lc ?_ | with_reducible refine S_par ?_ | with_reducible refine S_sub ?_ | with_reducible refine S_dsub ?_ | with_reducible refine S_exp ?_ | with_reducible refine R_add ?_ | with_reducible refine R_sub ?_ | ((with_reducible apply R_cmp); rfl) | ((with_reducible apply R_idx); rfl) | ((with_reducible apply R_ty); rfl) | ((with_reducible apply R_blt); rfl) | ((with_reducible apply R_bnd); rfl) | ((with_reducible apply R_map); rfl) | ((with_reducible apply R_wlk); rfl) | ((with_reducible apply R_seq); rfl) | ((with_reducible apply R_srt); rfl) | ((with_reducible apply R_pow); rfl) | ((with_reducible apply R_adds); rfl) | ((with_reducible apply R_muls); rfl) | ((with_reducible apply iteY); rfl) | ((with_reducible apply iteN); rfl) | ((with_reducible apply X_bl); rfl) | ((with_reducible apply X_int); rfl) | ((with_reducible apply X_bind); rfl) | ((with_reducible apply X_and); rfl) | ((with_reducible refine R_mod ?_ ?_); omega) | ((with_reducible refine R_div ?_ ?_); omega) | ((with_reducible refine R_mul ?_ ?_); first | (left; omega) | (right; omega) | (left; decide)) | ((with_reducible apply C_nil); rfl; rfl) | ((with_reducible apply F_nil); rfl; rfl) | ((with_reducible apply C_none); rfl; rfl; rfl) | ((with_reducible apply C_some); rfl; rfl; rfl) | ((with_reducible apply F_cons); rfl; rfl; rfl) | ((with_reducible refine ⟨?_, ?_, ?_⟩); (first | omega | decide); (first | omega | decide)))
  refine draw_spec hp (by decide) (by decide) fun r h1 r0 r1 hp1 fr1 => ?_
  have s1 : Scr o h1 := ⟨(fr1.1 .one (num_ne h1p) hs.2).trans hs.1, Nat.lt_of_lt_of_le hs.2 fr1.2⟩
  obtain ⟨ls, hls⟩ := list_of (h := h1) hw
  repeat (first | ((with_reducible refine great_sum ?_ ?_ ?_); omega; omega) | ((with_reducible refine great_deed ?_ ?_ ?_); omega; omega) | with_reducible refine R_seq hls ?_ | with_reducible refine lis_deed ?_ | with_reducible refine deed_sum hw ?_ | ((with_reducible apply E_var); rfl) | with_reducible refine E_cst ?_ | with_reducible refine V_e ?_ | with_reducible refine V_l ?_ | with_reducible refine A_nil ?_ | with_reducible refine A_cons ?_ | with_reducible refine S_cons ?_ | with_reducible refine S_nil ?_ | with_reducible refine S_ret ?_ | with_reducible refine S_if ?_ | with_reducible refine S_asg ?_ | with_reducible refine T_val ?_ | with_reducible refine T_not ?_ | with_reducible refine T_cmp ?_ | with_reducible refine T_or1 ?_ | with_reducible refine T_or ?_ | with_reducible refine T_and1 ?_ | with_reducible refine T_and ?_ | with_reducible refine T_chn ?_ | with_reducible refine E_idx ?_ | with_reducible refine E_tup ?_ | with_reducible refine E_bin ?_ | with_reducible refine E_cmp ?_ | with_reducible refine E_isi ?_ | with_reducible refine E_blt ?_ | with_reducible refine E_call ?_ | with_reducible refine E_callK ?_ | with_reducible refine E_chn ?_ | with_reducible refine E_and1 ?_ | with_reducible refine E_and ?_ | with_reducible refine E_or1 ?_ | with_reducible refine E_or ?_ | with_reducible refine E_not ?_ | with_reducible refine E_neg ?_ | with_reducible refine E_lis ?_ | with_reducible refine E_new ?_ | with_reducible refine E_ndic ?_ | with_reducible refine E_ite ?_ | with_reducible refine E_didx ?_ | with_reducible refine E_dget ?_ | with_reducible refine E_app ?_ | with_reducible refine L_lst ?_ | with_reducible refine L_cat ?_ | with_reducible refine L_slc ?_ | with_reducible refine L_lof ?_ | with_reducible refine L_srt ?_ | with_reducible refine L_comp ?_ | with_reducible refine O_none ?_ | with_reducible refine O_some ?_ | with_reducible refine I_v ?_ | with_reducible refine I_rng ?_ | with_reducible refine I_zip ?_ | with_reducible refine I_enm ?_ | with_reducible refine S_for ?_ | with_reducible refine S_lcp ?_ | with_reducible refine S_lc ?_ | with_reducible refine S_par ?_ | with_reducible refine S_sub ?_ | with_reducible refine S_dsub ?_ | with_reducible refine S_exp ?_ | with_reducible refine R_add ?_ | with_reducible refine R_sub ?_ | ((with_reducible apply R_cmp); rfl) | ((with_reducible apply R_idx); rfl) | ((with_reducible apply R_ty); rfl) | ((with_reducible apply R_blt); rfl) | ((with_reducible apply R_bnd); rfl) | ((with_reducible apply R_map); rfl) | ((with_reducible apply R_wlk); rfl) | ((with_reducible apply R_seq); rfl) | ((with_reducible apply R_srt); rfl) | ((with_reducible apply R_pow); rfl) | ((with_reducible apply R_adds); rfl) | ((with_reducible apply R_muls); rfl) | ((with_reducible apply iteY); rfl) | ((with_reducible apply iteN); rfl) | ((with_reducible apply X_bl); rfl) | ((with_reducible apply X_int); rfl) | ((with_reducible apply X_bind); rfl) | ((with_reducible apply X_and); rfl) | ((with_reducible refine R_mod ?_ ?_); omega) | ((with_reducible refine R_div ?_ ?_); omega) | ((with_reducible refine R_mul ?_ ?_); first | (left; omega) | (right; omega) | (left; decide)) | ((with_reducible apply C_nil); rfl; rfl) | ((with_reducible apply F_nil); rfl; rfl) | ((with_reducible apply C_none); rfl; rfl; rfl) | ((with_reducible apply C_some); rfl; rfl; rfl) | ((with_reducible apply F_cons); rfl; rfl; rfl) | ((with_reducible refine ⟨?_, ?_, ?_⟩); (first | omega | decide); (first | omega | decide)))
  exact q _ _ h1 hp1 (hk.fr fr1 hpk) s1
theorem inner {d : Nat} {p k : Ad} {m : Nat} {o : O} {v1 v2 v5 v6 v7 : Option W} {h : VH} {N B C' : Env → VH → Prop} {Q : W → VH → Prop} (hp : Pool h p) (hk : Kn h k m) (hm : m < 100) (hpk : p ≠ k) (hs : Scr o h) (h1p : 1 < p.num) (h1k : 1 < k.num)
    (q : ∀ v6' v7' h', Pool h' p → Kn h' k (m + 1) → Scr o h' → N [some (.ref .one), v1, v2, some (.ref p), some (.ref k), v5, v6', v7'] h') :
    Sn ((lvl (C (d + 5)) 58).S [.asg (.nm 6) (.call 9 [.var 3, .lis (.lst [.cst (.str [112]), .cst (.str [113])]), .var 4]),
    .ifs (.cmp .isn (.e (.call 5 [.var 6])) (.e (.cst (.bl true)))) [.ret (.cst (.bl false))] [],
    .ifs (.and [.cmp .ne (.e (.idx (.e (.var 6)) (.cst (.int 0)))) (.e (.cst (.str [114, 101, 97, 100]))), .cmp .isn (.e (.call 3 [.idx (.e (.var 6)) (.cst (.int 2))])) (.e (.cst (.bl true)))]) [.ret (.cst (.bl false))] [],
    .asg (.nm 7) (.bin .sub (.bin .sub (.bin .mul (.bin .pow (.cst (.int 10)) (.cst (.int 50))) (.bin .pow (.cst (.int 10)) (.cst (.int 50)))) (.cst (.int 1))) (.call 7 [.var 3, .bin .pow (.cst (.int 10)) (.cst (.int 6))])),
    .ifs (.not (.val (.call 3 [.tup [.cst (.str [115, 117, 109]), .var 7, .tup [.tup [.neg (.var 7), .cst (.str [97, 98, 99, 100, 101, 102, 103, 104])]]]]))) [.ret (.cst (.bl false))] [],
    .ifs (.not (.val (.call 5 [.tup [.cst (.str [114, 101, 97, 100]), .tup [.cst (.str [122, 122]), .neg (.var 7)], .cst (.str [97, 98, 99, 100, 101, 102, 103, 104])]]))) [.ret (.cst (.bl false))] [],
    .ifs (.or [.val (.call 5 [.lis (.lof (.e (.var 6)))]), .val (.call 3 [.var 6])]) [.ret (.cst (.bl false))] []] [some (.ref .one), v1, v2, some (.ref p), some (.ref k), v5, v6, v7] h) N Q B C' := by
  have op : Ad.one ≠ p := num_ne h1p
  have ok : Ad.one ≠ k := num_ne h1k
  repeat (first | ((with_reducible apply E_var); rfl) | with_reducible refine E_cst ?_ | with_reducible refine V_e ?_ | with_reducible refine V_l ?_ | with_reducible refine A_nil ?_ | with_reducible refine A_cons ?_ | with_reducible refine S_cons ?_ | with_reducible refine S_nil ?_ | with_reducible refine S_ret ?_ | with_reducible refine S_if ?_ | with_reducible refine S_asg ?_ | with_reducible refine T_val ?_ | with_reducible refine T_not ?_ | with_reducible refine T_cmp ?_ | with_reducible refine T_or1 ?_ | with_reducible refine T_or ?_ | with_reducible refine T_and1 ?_ | with_reducible refine T_and ?_ | with_reducible refine T_chn ?_ | with_reducible refine E_idx ?_ | with_reducible refine E_tup ?_ | with_reducible refine E_bin ?_ | with_reducible refine E_cmp ?_ | with_reducible refine E_isi ?_ | with_reducible refine E_blt ?_ | with_reducible refine E_call ?_ | with_reducible refine E_callK ?_ | with_reducible refine E_chn ?_ | with_reducible refine E_and1 ?_ | with_reducible refine E_and ?_ | with_reducible refine E_or1 ?_ | with_reducible refine E_or ?_ | with_reducible refine E_not ?_ | with_reducible refine E_neg ?_ | with_reducible refine E_lis ?_ | with_reducible refine E_new ?_ | with_reducible refine E_ndic ?_ | with_reducible refine E_ite ?_ | with_reducible refine E_didx ?_ | with_reducible refine E_dget ?_ | with_reducible refine E_app ?_ | with_reducible refine L_lst ?_ | with_reducible refine L_cat ?_ | with_reducible refine L_slc ?_ | with_reducible refine L_lof ?_ | with_reducible refine L_srt ?_ | with_reducible refine L_comp ?_ | with_reducible refine O_none ?_ | with_reducible refine O_some ?_ | with_reducible refine I_v ?_ | with_reducible refine I_rng ?_ | with_reducible refine I_zip ?_ | with_reducible refine I_enm ?_ | with_reducible refine S_for ?_ | with_reducible refine S_lcp ?_ | with_reducible refine S_lc ?_ | with_reducible refine S_par ?_ | with_reducible refine S_sub ?_ | with_reducible refine S_dsub ?_ | with_reducible refine S_exp ?_ | with_reducible refine R_add ?_ | with_reducible refine R_sub ?_ | ((with_reducible apply R_cmp); rfl) | ((with_reducible apply R_idx); rfl) | ((with_reducible apply R_ty); rfl) | ((with_reducible apply R_blt); rfl) | ((with_reducible apply R_bnd); rfl) | ((with_reducible apply R_map); rfl) | ((with_reducible apply R_wlk); rfl) | ((with_reducible apply R_seq); rfl) | ((with_reducible apply R_srt); rfl) | ((with_reducible apply R_pow); rfl) | ((with_reducible apply R_adds); rfl) | ((with_reducible apply R_muls); rfl) | ((with_reducible apply iteY); rfl) | ((with_reducible apply iteN); rfl) | ((with_reducible apply X_bl); rfl) | ((with_reducible apply X_int); rfl) | ((with_reducible apply X_bind); rfl) | ((with_reducible apply X_and); rfl) | ((with_reducible refine R_mod ?_ ?_); omega) | ((with_reducible refine R_div ?_ ?_); omega) | ((with_reducible refine R_mul ?_ ?_); first | (left; omega) | (right; omega) | (left; decide)) | ((with_reducible apply C_nil); rfl; rfl) | ((with_reducible apply F_nil); rfl; rfl) | ((with_reducible apply C_none); rfl; rfl; rfl) | ((with_reducible apply C_some); rfl; rfl; rfl) | ((with_reducible apply F_cons); rfl; rfl; rfl) | ((with_reducible refine ⟨?_, ?_, ?_⟩); (first | omega | decide); (first | omega | decide)))
  refine deed_spec hp hk hm hpk fun w h1 hw ⟨a1, a2, a3, a4⟩ => ?_
  have s1 : Scr o h1 := ⟨(a3 .one op ok hs.2).trans hs.1, Nat.lt_of_lt_of_le hs.2 a4⟩
  obtain ⟨b, hb, hb2⟩ := word_of (h := h1) hw
  obtain ⟨ls, hls⟩ := list_of (h := h1) hw
  have fin : ∀ v7 : Option W, Sn ((lvl (C (d + 5)) 58).S [.asg (.nm 7) (.bin .sub (.bin .sub (.bin .mul (.bin .pow (.cst (.int 10)) (.cst (.int 50))) (.bin .pow (.cst (.int 10)) (.cst (.int 50)))) (.cst (.int 1))) (.call 7 [.var 3, .bin .pow (.cst (.int 10)) (.cst (.int 6))])),
    .ifs (.not (.val (.call 3 [.tup [.cst (.str [115, 117, 109]), .var 7, .tup [.tup [.neg (.var 7), .cst (.str [97, 98, 99, 100, 101, 102, 103, 104])]]]]))) [.ret (.cst (.bl false))] [],
    .ifs (.not (.val (.call 5 [.tup [.cst (.str [114, 101, 97, 100]), .tup [.cst (.str [122, 122]), .neg (.var 7)], .cst (.str [97, 98, 99, 100, 101, 102, 103, 104])]]))) [.ret (.cst (.bl false))] [],
    .ifs (.or [.val (.call 5 [.lis (.lof (.e (.var 6)))]), .val (.call 3 [.var 6])]) [.ret (.cst (.bl false))] []] [some (.ref .one), v1, v2, some (.ref p), some (.ref k), v5, some w, v7] h1) N Q B C' := fun v7 => inner2 hw a1 a2 hpk s1 h1p q
  repeat (first | ((with_reducible apply E_var); rfl) | with_reducible refine E_cst ?_ | with_reducible refine V_e ?_ | with_reducible refine V_l ?_ | with_reducible refine A_nil ?_ | with_reducible refine A_cons ?_ | with_reducible refine S_nil ?_ | with_reducible refine S_ret ?_ | with_reducible refine S_if ?_ | with_reducible refine S_asg ?_ | with_reducible refine T_val ?_ | with_reducible refine T_not ?_ | with_reducible refine T_cmp ?_ | with_reducible refine T_or1 ?_ | with_reducible refine T_or ?_ | with_reducible refine T_and1 ?_ | with_reducible refine T_and ?_ | with_reducible refine T_chn ?_ | with_reducible refine E_idx ?_ | with_reducible refine E_tup ?_ | with_reducible refine E_bin ?_ | with_reducible refine E_cmp ?_ | with_reducible refine E_isi ?_ | with_reducible refine E_blt ?_ | with_reducible refine E_call ?_ | with_reducible refine E_callK ?_ | with_reducible refine E_chn ?_ | with_reducible refine E_and1 ?_ | with_reducible refine E_and ?_ | with_reducible refine E_or1 ?_ | with_reducible refine E_or ?_ | with_reducible refine E_not ?_ | with_reducible refine E_neg ?_ | with_reducible refine E_lis ?_ | with_reducible refine E_new ?_ | with_reducible refine E_ndic ?_ | with_reducible refine E_ite ?_ | with_reducible refine E_didx ?_ | with_reducible refine E_dget ?_ | with_reducible refine E_app ?_ | with_reducible refine L_lst ?_ | with_reducible refine L_cat ?_ | with_reducible refine L_slc ?_ | with_reducible refine L_lof ?_ | with_reducible refine L_srt ?_ | with_reducible refine L_comp ?_ | with_reducible refine O_none ?_ | with_reducible refine O_some ?_ | with_reducible refine I_v ?_ | with_reducible refine I_rng ?_ | with_reducible refine I_zip ?_ | with_reducible refine I_enm ?_ | with_reducible refine S_for ?_ | with_reducible refine S_lcp ?_ | with_reducible refine S_lc ?_ | with_reducible refine S_par ?_ | with_reducible refine S_sub ?_ | with_reducible refine S_dsub ?_ | with_reducible refine S_exp ?_ | with_reducible refine R_add ?_ | with_reducible refine R_sub ?_ | ((with_reducible apply R_cmp); rfl) | ((with_reducible apply R_idx); rfl) | ((with_reducible apply R_ty); rfl) | ((with_reducible apply R_blt); rfl) | ((with_reducible apply R_bnd); rfl) | ((with_reducible apply R_map); rfl) | ((with_reducible apply R_wlk); rfl) | ((with_reducible apply R_seq); rfl) | ((with_reducible apply R_srt); rfl) | ((with_reducible apply R_pow); rfl) | ((with_reducible apply R_adds); rfl) | ((with_reducible apply R_muls); rfl) | ((with_reducible apply iteY); rfl) | ((with_reducible apply iteN); rfl) | ((with_reducible apply X_bl); rfl) | ((with_reducible apply X_int); rfl) | ((with_reducible apply X_bind); rfl) | ((with_reducible apply X_and); rfl) | ((with_reducible refine R_mod ?_ ?_); omega) | ((with_reducible refine R_div ?_ ?_); omega) | ((with_reducible refine R_mul ?_ ?_); first | (left; omega) | (right; omega) | (left; decide)) | ((with_reducible apply C_nil); rfl; rfl) | ((with_reducible apply F_nil); rfl; rfl) | ((with_reducible apply C_none); rfl; rfl; rfl) | ((with_reducible apply C_some); rfl; rfl; rfl) | ((with_reducible apply F_cons); rfl; rfl; rfl) | ((with_reducible refine ⟨?_, ?_, ?_⟩); (first | omega | decide); (first | omega | decide)))
  refine S_cons ?_
  repeat (first | with_reducible refine deed_true hw ?_ | ((with_reducible apply E_var); rfl) | with_reducible refine E_cst ?_ | with_reducible refine V_e ?_ | with_reducible refine V_l ?_ | with_reducible refine A_nil ?_ | with_reducible refine A_cons ?_ | with_reducible refine S_nil ?_ | with_reducible refine S_ret ?_ | with_reducible refine S_if ?_ | with_reducible refine S_asg ?_ | with_reducible refine T_val ?_ | with_reducible refine T_not ?_ | with_reducible refine T_cmp ?_ | with_reducible refine T_or1 ?_ | with_reducible refine T_or ?_ | with_reducible refine T_and1 ?_ | with_reducible refine T_and ?_ | with_reducible refine T_chn ?_ | with_reducible refine E_idx ?_ | with_reducible refine E_tup ?_ | with_reducible refine E_bin ?_ | with_reducible refine E_cmp ?_ | with_reducible refine E_isi ?_ | with_reducible refine E_blt ?_ | with_reducible refine E_call ?_ | with_reducible refine E_callK ?_ | with_reducible refine E_chn ?_ | with_reducible refine E_and1 ?_ | with_reducible refine E_and ?_ | with_reducible refine E_or1 ?_ | with_reducible refine E_or ?_ | with_reducible refine E_not ?_ | with_reducible refine E_neg ?_ | with_reducible refine E_lis ?_ | with_reducible refine E_new ?_ | with_reducible refine E_ndic ?_ | with_reducible refine E_ite ?_ | with_reducible refine E_didx ?_ | with_reducible refine E_dget ?_ | with_reducible refine E_app ?_ | with_reducible refine L_lst ?_ | with_reducible refine L_cat ?_ | with_reducible refine L_slc ?_ | with_reducible refine L_lof ?_ | with_reducible refine L_srt ?_ | with_reducible refine L_comp ?_ | with_reducible refine O_none ?_ | with_reducible refine O_some ?_ | with_reducible refine I_v ?_ | with_reducible refine I_rng ?_ | with_reducible refine I_zip ?_ | with_reducible refine I_enm ?_ | with_reducible refine S_for ?_ | with_reducible refine S_lcp ?_ | with_reducible refine S_lc ?_ | with_reducible refine S_par ?_ | with_reducible refine S_sub ?_ | with_reducible refine S_dsub ?_ | with_reducible refine S_exp ?_ | with_reducible refine R_add ?_ | with_reducible refine R_sub ?_ | ((with_reducible apply R_cmp); rfl) | ((with_reducible apply R_idx); rfl) | ((with_reducible apply R_ty); rfl) | ((with_reducible apply R_blt); rfl) | ((with_reducible apply R_bnd); rfl) | ((with_reducible apply R_map); rfl) | ((with_reducible apply R_wlk); rfl) | ((with_reducible apply R_seq); rfl) | ((with_reducible apply R_srt); rfl) | ((with_reducible apply R_pow); rfl) | ((with_reducible apply R_adds); rfl) | ((with_reducible apply R_muls); rfl) | ((with_reducible apply iteY); rfl) | ((with_reducible apply iteN); rfl) | ((with_reducible apply X_bl); rfl) | ((with_reducible apply X_int); rfl) | ((with_reducible apply X_bind); rfl) | ((with_reducible apply X_and); rfl) | ((with_reducible refine R_mod ?_ ?_); omega) | ((with_reducible refine R_div ?_ ?_); omega) | ((with_reducible refine R_mul ?_ ?_); first | (left; omega) | (right; omega) | (left; decide)) | ((with_reducible apply C_nil); rfl; rfl) | ((with_reducible apply F_nil); rfl; rfl) | ((with_reducible apply C_none); rfl; rfl; rfl) | ((with_reducible apply C_some); rfl; rfl; rfl) | ((with_reducible apply F_cons); rfl; rfl; rfl) | ((with_reducible refine ⟨?_, ?_, ?_⟩); (first | omega | decide); (first | omega | decide)))
  refine S_cons ?_
  repeat (first | with_reducible refine deed_true hw ?_ | with_reducible refine R_idx hb ?_ | ((with_reducible apply E_var); rfl) | with_reducible refine E_cst ?_ | with_reducible refine V_e ?_ | with_reducible refine V_l ?_ | with_reducible refine A_nil ?_ | with_reducible refine A_cons ?_ | with_reducible refine S_nil ?_ | with_reducible refine S_ret ?_ | with_reducible refine S_if ?_ | with_reducible refine S_asg ?_ | with_reducible refine T_val ?_ | with_reducible refine T_not ?_ | with_reducible refine T_cmp ?_ | with_reducible refine T_or1 ?_ | with_reducible refine T_or ?_ | with_reducible refine T_and1 ?_ | with_reducible refine T_and ?_ | with_reducible refine T_chn ?_ | with_reducible refine E_idx ?_ | with_reducible refine E_tup ?_ | with_reducible refine E_bin ?_ | with_reducible refine E_cmp ?_ | with_reducible refine E_isi ?_ | with_reducible refine E_blt ?_ | with_reducible refine E_call ?_ | with_reducible refine E_callK ?_ | with_reducible refine E_chn ?_ | with_reducible refine E_and1 ?_ | with_reducible refine E_and ?_ | with_reducible refine E_or1 ?_ | with_reducible refine E_or ?_ | with_reducible refine E_not ?_ | with_reducible refine E_neg ?_ | with_reducible refine E_lis ?_ | with_reducible refine E_new ?_ | with_reducible refine E_ndic ?_ | with_reducible refine E_ite ?_ | with_reducible refine E_didx ?_ | with_reducible refine E_dget ?_ | with_reducible refine E_app ?_ | with_reducible refine L_lst ?_ | with_reducible refine L_cat ?_ | with_reducible refine L_slc ?_ | with_reducible refine L_lof ?_ | with_reducible refine L_srt ?_ | with_reducible refine L_comp ?_ | with_reducible refine O_none ?_ | with_reducible refine O_some ?_ | with_reducible refine I_v ?_ | with_reducible refine I_rng ?_ | with_reducible refine I_zip ?_ | with_reducible refine I_enm ?_ | with_reducible refine S_for ?_ | with_reducible refine S_lcp ?_ | with_reducible refine S_lc ?_ | with_reducible refine S_par ?_ | with_reducible refine S_sub ?_ | with_reducible refine S_dsub ?_ | with_reducible refine S_exp ?_ | with_reducible refine R_add ?_ | with_reducible refine R_sub ?_ | ((with_reducible apply R_cmp); rfl) | ((with_reducible apply R_idx); rfl) | ((with_reducible apply R_ty); rfl) | ((with_reducible apply R_blt); rfl) | ((with_reducible apply R_bnd); rfl) | ((with_reducible apply R_map); rfl) | ((with_reducible apply R_wlk); rfl) | ((with_reducible apply R_seq); rfl) | ((with_reducible apply R_srt); rfl) | ((with_reducible apply R_pow); rfl) | ((with_reducible apply R_adds); rfl) | ((with_reducible apply R_muls); rfl) | ((with_reducible apply iteY); rfl) | ((with_reducible apply iteN); rfl) | ((with_reducible apply X_bl); rfl) | ((with_reducible apply X_int); rfl) | ((with_reducible apply X_bind); rfl) | ((with_reducible apply X_and); rfl) | ((with_reducible refine R_mod ?_ ?_); omega) | ((with_reducible refine R_div ?_ ?_); omega) | ((with_reducible refine R_mul ?_ ?_); first | (left; omega) | (right; omega) | (left; decide)) | ((with_reducible apply C_nil); rfl; rfl) | ((with_reducible apply F_nil); rfl; rfl) | ((with_reducible apply C_none); rfl; rfl; rfl) | ((with_reducible apply C_some); rfl; rfl; rfl) | ((with_reducible apply F_cons); rfl; rfl; rfl) | ((with_reducible refine ⟨?_, ?_, ?_⟩); (first | omega | decide); (first | omega | decide)))
  rcases hb2 with hb2 | ⟨hb2, s, hsm, his⟩
  · refine iteN (show (!eqS b [114, 101, 97, 100]) = false by rw [hb2]; rfl) ?_
    repeat (first | ((with_reducible apply E_var); rfl) | with_reducible refine E_cst ?_ | with_reducible refine V_e ?_ | with_reducible refine V_l ?_ | with_reducible refine A_nil ?_ | with_reducible refine A_cons ?_ | with_reducible refine S_nil ?_ | with_reducible refine S_ret ?_ | with_reducible refine S_if ?_ | with_reducible refine S_asg ?_ | with_reducible refine T_val ?_ | with_reducible refine T_not ?_ | with_reducible refine T_cmp ?_ | with_reducible refine T_or1 ?_ | with_reducible refine T_or ?_ | with_reducible refine T_and1 ?_ | with_reducible refine T_and ?_ | with_reducible refine T_chn ?_ | with_reducible refine E_idx ?_ | with_reducible refine E_tup ?_ | with_reducible refine E_bin ?_ | with_reducible refine E_cmp ?_ | with_reducible refine E_isi ?_ | with_reducible refine E_blt ?_ | with_reducible refine E_call ?_ | with_reducible refine E_callK ?_ | with_reducible refine E_chn ?_ | with_reducible refine E_and1 ?_ | with_reducible refine E_and ?_ | with_reducible refine E_or1 ?_ | with_reducible refine E_or ?_ | with_reducible refine E_not ?_ | with_reducible refine E_neg ?_ | with_reducible refine E_lis ?_ | with_reducible refine E_new ?_ | with_reducible refine E_ndic ?_ | with_reducible refine E_ite ?_ | with_reducible refine E_didx ?_ | with_reducible refine E_dget ?_ | with_reducible refine E_app ?_ | with_reducible refine L_lst ?_ | with_reducible refine L_cat ?_ | with_reducible refine L_slc ?_ | with_reducible refine L_lof ?_ | with_reducible refine L_srt ?_ | with_reducible refine L_comp ?_ | with_reducible refine O_none ?_ | with_reducible refine O_some ?_ | with_reducible refine I_v ?_ | with_reducible refine I_rng ?_ | with_reducible refine I_zip ?_ | with_reducible refine I_enm ?_ | with_reducible refine S_for ?_ | with_reducible refine S_lcp ?_ | with_reducible refine S_lc ?_ | with_reducible refine S_par ?_ | with_reducible refine S_sub ?_ | with_reducible refine S_dsub ?_ | with_reducible refine S_exp ?_ | with_reducible refine R_add ?_ | with_reducible refine R_sub ?_ | ((with_reducible apply R_cmp); rfl) | ((with_reducible apply R_idx); rfl) | ((with_reducible apply R_ty); rfl) | ((with_reducible apply R_blt); rfl) | ((with_reducible apply R_bnd); rfl) | ((with_reducible apply R_map); rfl) | ((with_reducible apply R_wlk); rfl) | ((with_reducible apply R_seq); rfl) | ((with_reducible apply R_srt); rfl) | ((with_reducible apply R_pow); rfl) | ((with_reducible apply R_adds); rfl) | ((with_reducible apply R_muls); rfl) | ((with_reducible apply iteY); rfl) | ((with_reducible apply iteN); rfl) | ((with_reducible apply X_bl); rfl) | ((with_reducible apply X_int); rfl) | ((with_reducible apply X_bind); rfl) | ((with_reducible apply X_and); rfl) | ((with_reducible refine R_mod ?_ ?_); omega) | ((with_reducible refine R_div ?_ ?_); omega) | ((with_reducible refine R_mul ?_ ?_); first | (left; omega) | (right; omega) | (left; decide)) | ((with_reducible apply C_nil); rfl; rfl) | ((with_reducible apply F_nil); rfl; rfl) | ((with_reducible apply C_none); rfl; rfl; rfl) | ((with_reducible apply C_some); rfl; rfl; rfl) | ((with_reducible apply F_cons); rfl; rfl; rfl) | ((with_reducible refine ⟨?_, ?_, ?_⟩); (first | omega | decide); (first | omega | decide)))
    exact fin _
  · refine iteY (show (!eqS b [114, 101, 97, 100]) = true by rw [hb2]; rfl) ?_
    repeat (first | with_reducible refine R_idx his ?_ | with_reducible refine sum_true hsm ?_ | ((with_reducible apply E_var); rfl) | with_reducible refine E_cst ?_ | with_reducible refine V_e ?_ | with_reducible refine V_l ?_ | with_reducible refine A_nil ?_ | with_reducible refine A_cons ?_ | with_reducible refine S_nil ?_ | with_reducible refine S_ret ?_ | with_reducible refine S_if ?_ | with_reducible refine S_asg ?_ | with_reducible refine T_val ?_ | with_reducible refine T_not ?_ | with_reducible refine T_cmp ?_ | with_reducible refine T_or1 ?_ | with_reducible refine T_or ?_ | with_reducible refine T_and1 ?_ | with_reducible refine T_and ?_ | with_reducible refine T_chn ?_ | with_reducible refine E_idx ?_ | with_reducible refine E_tup ?_ | with_reducible refine E_bin ?_ | with_reducible refine E_cmp ?_ | with_reducible refine E_isi ?_ | with_reducible refine E_blt ?_ | with_reducible refine E_call ?_ | with_reducible refine E_callK ?_ | with_reducible refine E_chn ?_ | with_reducible refine E_and1 ?_ | with_reducible refine E_and ?_ | with_reducible refine E_or1 ?_ | with_reducible refine E_or ?_ | with_reducible refine E_not ?_ | with_reducible refine E_neg ?_ | with_reducible refine E_lis ?_ | with_reducible refine E_new ?_ | with_reducible refine E_ndic ?_ | with_reducible refine E_ite ?_ | with_reducible refine E_didx ?_ | with_reducible refine E_dget ?_ | with_reducible refine E_app ?_ | with_reducible refine L_lst ?_ | with_reducible refine L_cat ?_ | with_reducible refine L_slc ?_ | with_reducible refine L_lof ?_ | with_reducible refine L_srt ?_ | with_reducible refine L_comp ?_ | with_reducible refine O_none ?_ | with_reducible refine O_some ?_ | with_reducible refine I_v ?_ | with_reducible refine I_rng ?_ | with_reducible refine I_zip ?_ | with_reducible refine I_enm ?_ | with_reducible refine S_for ?_ | with_reducible refine S_lcp ?_ | with_reducible refine S_lc ?_ | with_reducible refine S_par ?_ | with_reducible refine S_sub ?_ | with_reducible refine S_dsub ?_ | with_reducible refine S_exp ?_ | with_reducible refine R_add ?_ | with_reducible refine R_sub ?_ | ((with_reducible apply R_cmp); rfl) | ((with_reducible apply R_idx); rfl) | ((with_reducible apply R_ty); rfl) | ((with_reducible apply R_blt); rfl) | ((with_reducible apply R_bnd); rfl) | ((with_reducible apply R_map); rfl) | ((with_reducible apply R_wlk); rfl) | ((with_reducible apply R_seq); rfl) | ((with_reducible apply R_srt); rfl) | ((with_reducible apply R_pow); rfl) | ((with_reducible apply R_adds); rfl) | ((with_reducible apply R_muls); rfl) | ((with_reducible apply iteY); rfl) | ((with_reducible apply iteN); rfl) | ((with_reducible apply X_bl); rfl) | ((with_reducible apply X_int); rfl) | ((with_reducible apply X_bind); rfl) | ((with_reducible apply X_and); rfl) | ((with_reducible refine R_mod ?_ ?_); omega) | ((with_reducible refine R_div ?_ ?_); omega) | ((with_reducible refine R_mul ?_ ?_); first | (left; omega) | (right; omega) | (left; decide)) | ((with_reducible apply C_nil); rfl; rfl) | ((with_reducible apply F_nil); rfl; rfl) | ((with_reducible apply C_none); rfl; rfl; rfl) | ((with_reducible apply C_some); rfl; rfl; rfl) | ((with_reducible apply F_cons); rfl; rfl; rfl) | ((with_reducible refine ⟨?_, ?_, ?_⟩); (first | omega | decide); (first | omega | decide)))
    exact fin _

/-- the law's main loop, one turn -/
theorem iota_mem : ∀ (n : Nat) (lo : Int) (w : W), w ∈ iota lo n → ∃ k, w = .int k ∧ lo ≤ k ∧ k < lo + n
  | 0, lo, w, h => by cases h
  | n + 1, lo, w, h => by
    rcases List.mem_cons.mp h with h | h
    · exact ⟨lo, h, Int.le_refl _, by omega⟩
    · obtain ⟨k, e, a, b⟩ := iota_mem n (lo + 1) w h
      exact ⟨k, e, by omega, by omega⟩
theorem outer {d : Nat} {ns : List Int} {kk : Bool} {i : Int} {v1 v2 v3 v4 v5 v6 v7 : Option W} {h : VH} {N B C' : Env → VH → Prop} {Q : W → VH → Prop} (hi : 0 ≤ i) (hi2 : i < 8) (hs : Scr (.frz kk (ns.map W.int)) h)
    (q : ∀ v3' v4' v5' v6' v7' h', Scr (.frz kk (ns.map W.int)) h' → N [some (.ref .one), v1, some (.int i), v3', v4', v5', v6', v7'] h') :
    Sn ((lvl (C (d + 5)) 59).S [.asg (.nm 3) (.call 6 [.var 0, .var 2]),
    .asg (.nm 4) (.new (.lst [.cst (.str [120])])),
    .for (.nm 5) (.rng (.cst (.int 6))) [.asg (.nm 6) (.call 9 [.var 3, .lis (.lst [.cst (.str [112]), .cst (.str [113])]), .var 4]),
    .ifs (.cmp .isn (.e (.call 5 [.var 6])) (.e (.cst (.bl true)))) [.ret (.cst (.bl false))] [],
    .ifs (.and [.cmp .ne (.e (.idx (.e (.var 6)) (.cst (.int 0)))) (.e (.cst (.str [114, 101, 97, 100]))), .cmp .isn (.e (.call 3 [.idx (.e (.var 6)) (.cst (.int 2))])) (.e (.cst (.bl true)))]) [.ret (.cst (.bl false))] [],
    .asg (.nm 7) (.bin .sub (.bin .sub (.bin .mul (.bin .pow (.cst (.int 10)) (.cst (.int 50))) (.bin .pow (.cst (.int 10)) (.cst (.int 50)))) (.cst (.int 1))) (.call 7 [.var 3, .bin .pow (.cst (.int 10)) (.cst (.int 6))])),
    .ifs (.not (.val (.call 3 [.tup [.cst (.str [115, 117, 109]), .var 7, .tup [.tup [.neg (.var 7), .cst (.str [97, 98, 99, 100, 101, 102, 103, 104])]]]]))) [.ret (.cst (.bl false))] [],
    .ifs (.not (.val (.call 5 [.tup [.cst (.str [114, 101, 97, 100]), .tup [.cst (.str [122, 122]), .neg (.var 7)], .cst (.str [97, 98, 99, 100, 101, 102, 103, 104])]]))) [.ret (.cst (.bl false))] [],
    .ifs (.or [.val (.call 5 [.lis (.lof (.e (.var 6)))]), .val (.call 3 [.var 6])]) [.ret (.cst (.bl false))] []]] [some (.ref .one), v1, some (.int i), v3, v4, v5, v6, v7] h) N Q B C' := by
  repeat (first | ((with_reducible apply E_var); rfl) | with_reducible refine E_cst ?_ | with_reducible refine V_e ?_ | with_reducible refine V_l ?_ | with_reducible refine A_nil ?_ | with_reducible refine A_cons ?_ | with_reducible refine S_cons ?_ | with_reducible refine S_nil ?_ | with_reducible refine S_ret ?_ | with_reducible refine S_if ?_ | with_reducible refine S_asg ?_ | with_reducible refine T_val ?_ | with_reducible refine T_not ?_ | with_reducible refine T_cmp ?_ | with_reducible refine T_or1 ?_ | with_reducible refine T_or ?_ | with_reducible refine T_and1 ?_ | with_reducible refine T_and ?_ | with_reducible refine T_chn ?_ | with_reducible refine E_idx ?_ | with_reducible refine E_tup ?_ | with_reducible refine E_bin ?_ | with_reducible refine E_cmp ?_ | with_reducible refine E_isi ?_ | with_reducible refine E_blt ?_ | with_reducible refine E_call ?_ | with_reducible refine E_callK ?_ | with_reducible refine E_chn ?_ | with_reducible refine E_and1 ?_ | with_reducible refine E_and ?_ | with_reducible refine E_or1 ?_ | with_reducible refine E_or ?_ | with_reducible refine E_not ?_ | with_reducible refine E_neg ?_ | with_reducible refine E_lis ?_ | with_reducible refine E_new ?_ | with_reducible refine E_ndic ?_ | with_reducible refine E_ite ?_ | with_reducible refine E_didx ?_ | with_reducible refine E_dget ?_ | with_reducible refine E_app ?_ | with_reducible refine L_lst ?_ | with_reducible refine L_cat ?_ | with_reducible refine L_slc ?_ | with_reducible refine L_lof ?_ | with_reducible refine L_srt ?_ | with_reducible refine L_comp ?_ | with_reducible refine O_none ?_ | with_reducible refine O_some ?_ | with_reducible refine I_v ?_ | with_reducible refine I_rng ?_ | with_reducible refine I_zip ?_ | with_reducible refine I_enm ?_ | with_reducible refine S_for ?_ | with_reducible refine S_lcp ?_ | with_reducible refine S_lc ?_ | with_reducible refine S_par ?_ | with_reducible refine S_sub ?_ | with_reducible refine S_dsub ?_ | with_reducible refine S_exp ?_ | with_reducible refine R_add ?_ | with_reducible refine R_sub ?_ | ((with_reducible apply R_cmp); rfl) | ((with_reducible apply R_idx); rfl) | ((with_reducible apply R_ty); rfl) | ((with_reducible apply R_blt); rfl) | ((with_reducible apply R_bnd); rfl) | ((with_reducible apply R_map); rfl) | ((with_reducible apply R_wlk); rfl) | ((with_reducible apply R_seq); rfl) | ((with_reducible apply R_srt); rfl) | ((with_reducible apply R_pow); rfl) | ((with_reducible apply R_adds); rfl) | ((with_reducible apply R_muls); rfl) | ((with_reducible apply iteY); rfl) | ((with_reducible apply iteN); rfl) | ((with_reducible apply X_bl); rfl) | ((with_reducible apply X_int); rfl) | ((with_reducible apply X_bind); rfl) | ((with_reducible apply X_and); rfl) | ((with_reducible refine R_mod ?_ ?_); omega) | ((with_reducible refine R_div ?_ ?_); omega) | ((with_reducible refine R_mul ?_ ?_); first | (left; omega) | (right; omega) | (left; decide)) | ((with_reducible apply C_nil); rfl; rfl) | ((with_reducible apply F_nil); rfl; rfl) | ((with_reducible apply C_none); rfl; rfl; rfl) | ((with_reducible apply C_some); rfl; rfl; rfl) | ((with_reducible apply F_cons); rfl; rfl; rfl) | ((with_reducible refine ⟨?_, ?_, ?_⟩); (first | omega | decide); (first | omega | decide)))
  refine pool_spec hs.1 hi hi2 fun h1 hp1 g1 n1 => ?_
  have o1 : Scr (.frz kk (ns.map W.int)) h1 := ⟨(g1 .one hs.2).trans hs.1, by rw [n1, Ad.num_succ]; exact Nat.lt_succ_of_lt hs.2⟩
  have o2 : Scr (.frz kk (ns.map W.int)) (h1.push (.lst [.str [120]])) := ⟨(VH.get_push_ne _ _ (num_ne (show Ad.one.num < h1.nx.num from o1.2))).trans o1.1, by show 1 < h1.nx.succ.num; rw [Ad.num_succ]; exact Nat.lt_succ_of_lt o1.2⟩
  have hp2 : Pool (h1.push (.lst [.str [120]])) h.nx := by
    obtain ⟨a, b, p0, p1, p2, p3, p4⟩ := hp1
    refine ⟨a, b, (VH.get_push_ne _ _ (num_ne p4)).trans p0, p1, p2, p3, ?_⟩
    show h.nx.num < h1.nx.succ.num
    rw [Ad.num_succ]; exact Nat.lt_succ_of_lt p4
  have hk2 : Kn (h1.push (.lst [.str [120]])) h1.nx 1 := by
    refine ⟨[.str [120]], VH.get_push_same _ _, fun w hw => ?_, Nat.le_refl _, ?_⟩
    · simp only [List.mem_cons, List.not_mem_nil, or_false] at hw
      exact ⟨[120], by simp [XY], hw⟩
    · show h1.nx.num < h1.nx.succ.num
      rw [Ad.num_succ]; exact Nat.lt_succ_self _
  have pk : h.nx ≠ h1.nx := num_ne (by rw [n1, Ad.num_succ]; exact Nat.lt_succ_self _)
  have kp : 1 < h1.nx.num := o1.2
  repeat (first | ((with_reducible apply E_var); rfl) | with_reducible refine E_cst ?_ | with_reducible refine V_e ?_ | with_reducible refine V_l ?_ | with_reducible refine A_nil ?_ | with_reducible refine A_cons ?_ | with_reducible refine S_cons ?_ | with_reducible refine S_nil ?_ | with_reducible refine S_ret ?_ | with_reducible refine S_if ?_ | with_reducible refine S_asg ?_ | with_reducible refine T_val ?_ | with_reducible refine T_not ?_ | with_reducible refine T_cmp ?_ | with_reducible refine T_or1 ?_ | with_reducible refine T_or ?_ | with_reducible refine T_and1 ?_ | with_reducible refine T_and ?_ | with_reducible refine T_chn ?_ | with_reducible refine E_idx ?_ | with_reducible refine E_tup ?_ | with_reducible refine E_bin ?_ | with_reducible refine E_cmp ?_ | with_reducible refine E_isi ?_ | with_reducible refine E_blt ?_ | with_reducible refine E_call ?_ | with_reducible refine E_callK ?_ | with_reducible refine E_chn ?_ | with_reducible refine E_and1 ?_ | with_reducible refine E_and ?_ | with_reducible refine E_or1 ?_ | with_reducible refine E_or ?_ | with_reducible refine E_not ?_ | with_reducible refine E_neg ?_ | with_reducible refine E_lis ?_ | with_reducible refine E_new ?_ | with_reducible refine E_ndic ?_ | with_reducible refine E_ite ?_ | with_reducible refine E_didx ?_ | with_reducible refine E_dget ?_ | with_reducible refine E_app ?_ | with_reducible refine L_lst ?_ | with_reducible refine L_cat ?_ | with_reducible refine L_slc ?_ | with_reducible refine L_lof ?_ | with_reducible refine L_srt ?_ | with_reducible refine L_comp ?_ | with_reducible refine O_none ?_ | with_reducible refine O_some ?_ | with_reducible refine I_v ?_ | with_reducible refine I_rng ?_ | with_reducible refine I_zip ?_ | with_reducible refine I_enm ?_ | with_reducible refine S_for ?_ | with_reducible refine S_lcp ?_ | with_reducible refine S_lc ?_ | with_reducible refine S_par ?_ | with_reducible refine S_sub ?_ | with_reducible refine S_dsub ?_ | with_reducible refine S_exp ?_ | with_reducible refine R_add ?_ | with_reducible refine R_sub ?_ | ((with_reducible apply R_cmp); rfl) | ((with_reducible apply R_idx); rfl) | ((with_reducible apply R_ty); rfl) | ((with_reducible apply R_blt); rfl) | ((with_reducible apply R_bnd); rfl) | ((with_reducible apply R_map); rfl) | ((with_reducible apply R_wlk); rfl) | ((with_reducible apply R_seq); rfl) | ((with_reducible apply R_srt); rfl) | ((with_reducible apply R_pow); rfl) | ((with_reducible apply R_adds); rfl) | ((with_reducible apply R_muls); rfl) | ((with_reducible apply iteY); rfl) | ((with_reducible apply iteN); rfl) | ((with_reducible apply X_bl); rfl) | ((with_reducible apply X_int); rfl) | ((with_reducible apply X_bind); rfl) | ((with_reducible apply X_and); rfl) | ((with_reducible refine R_mod ?_ ?_); omega) | ((with_reducible refine R_div ?_ ?_); omega) | ((with_reducible refine R_mul ?_ ?_); first | (left; omega) | (right; omega) | (left; decide)) | ((with_reducible apply C_nil); rfl; rfl) | ((with_reducible apply C_none); rfl; rfl; rfl) | ((with_reducible apply C_some); rfl; rfl; rfl) | ((with_reducible refine ⟨?_, ?_, ?_⟩); (first | omega | decide); (first | omega | decide)))
  refine F_loop (fun ws r h' => ∃ v5' v6' v7', r = [some (.ref .one), v1, some (.int i), some (.ref h.nx), some (.ref h1.nx), v5', v6', v7'] ∧ Pool h' h.nx ∧ Kn h' h1.nx (7 - ws.length) ∧ ws.length ≤ 6 ∧ Scr (.frz kk (ns.map W.int)) h') (fun _ _ _ _ => rfl) ?_ ?_ _ _ _ ⟨_, _, _, rfl, hp2, (show Kn _ _ (7 - 6) from hk2), (show 6 ≤ 6 from Nat.le_refl _), o2⟩
  · rintro r h' ⟨v5', v6', v7', rfl, a1, a2, a3, a4⟩
    exact q _ _ _ _ _ h' a4
  · rintro w ws r h' ⟨v5', v6', v7', rfl, a1, a2, a3, a4⟩
    refine ⟨_, rfl, ?_⟩
    have a3 : ws.length + 1 ≤ 6 := a3
    refine inner a1 a2 (by show 7 - (ws.length + 1) < 100; omega) pk a4 hs.2 kp fun v6'' v7'' h'' b1 b2 b3 => ⟨_, v6'', v7'', rfl, b1, ?_, by omega, b3⟩
    have e : 7 - (w :: ws).length + 1 = 7 - ws.length := by show 7 - (ws.length + 1) + 1 = _; omega
    rw [← e]; exact b2
end K01


set_option linter.all false
set_option maxRecDepth 100000
set_option maxHeartbeats 40000000
namespace K01
open VM
def envO : SRes → Env
  | .nx r _ => r
  | _ => []
def hpO : SRes → VH
  | .nx _ h => h
  | _ => ⟨.lf, .one⟩
def h0 (o : O) : VH := ⟨PM.set .one o .lf, .o .one⟩
def lp1 (d : Nat) (o : O) : SRes := stepS (lvl (callF PF 60 (d + 4)) 59) (.for (.nm 1) (.v (.e (.call 10 []))) [.ifs (.or [.cmp .isn (.e (.call 3 [.var 1])) (.e (.cst (.bl false))), .cmp .isn (.e (.callK 3 [.var 1])) (.e (.cst (.bl false)))]) [.ret (.cst (.bl false))] []]) [some (.ref .one), none, none, none, none, none, none, none] (h0 o)
theorem odd1 (d : Nat) (o : O) : lp1 d o = .nx [some (.ref .one), getR (envO (lp1 d o)) 1, none, none, none, none, none, none] (hpO (lp1 d o)) := by kernel_rfl
theorem odd2 (d : Nat) (o : O) : (hpO (lp1 d o)).get .one = some o := by kernel_rfl
theorem odd3 (d : Nat) (o : O) : Nat.blt 1 (hpO (lp1 d o)).nx.num = true := by kernel_rfl
end K01


set_option linter.all false
set_option maxRecDepth 100000
set_option maxHeartbeats 40000000
namespace K01
open VM
def lp2 (d : Nat) (v1 : Option W) (h : VH) : SRes := stepS (lvl (callF PF 60 (d + 4)) 59) (.for (.nm 1) (.v (.e (.call 11 []))) [.ifs (.cmp .isn (.e (.call 5 [.var 1])) (.e (.cst (.bl false)))) [.ret (.cst (.bl false))] []]) [some (.ref .one), v1, none, none, none, none, none, none] h
theorem odd4 (d : Nat) (v1 : Option W) (h : VH) : lp2 d v1 h = .nx [some (.ref .one), getR (envO (lp2 d v1 h)) 1, none, none, none, none, none, none] h := by kernel_rfl
end K01


set_option linter.all false
set_option maxRecDepth 100000
set_option maxHeartbeats 400000
namespace K01
open VM
theorem Sn_eq {x : SRes} {r : Env} {h : VH} {N B C' : Env → VH → Prop} {T : W → VH → Prop} (e : x = .nx r h) (q : N r h) : Sn x N T B C' := by rw [e]; exact q
theorem nl : nth PF 12 = some ⟨1, 8, b_law⟩ := rfl
theorem law_of {d : Nat} {h : VH} {Q : W → VH → Prop} (hb : Sn ((lvl (C (d + 5)) 60).S b_law [some (.ref .one), none, none, none, none, none, none, none] h) (fun _ h => Q .non h) Q (fun _ _ => False) (fun _ _ => False)) : Rn (C (d + 6) 12 [.ref .one] h) Q := Rn_call nl rfl hb
theorem odd1e (d : Nat) (o : O) : stepS (lvl (C (d + 5)) 59) (.for (.nm 1) (.v (.e (.call 10 []))) [.ifs (.or [.cmp .isn (.e (.call 3 [.var 1])) (.e (.cst (.bl false))), .cmp .isn (.e (.callK 3 [.var 1])) (.e (.cst (.bl false)))]) [.ret (.cst (.bl false))] []]) [some (.ref .one), none, none, none, none, none, none, none] (h0 o) = .nx [some (.ref .one), getR (envO (lp1 (d + 1) o)) 1, none, none, none, none, none, none] (hpO (lp1 (d + 1) o)) := odd1 (d + 1) o
theorem odd4e (d : Nat) (v1 : Option W) (h : VH) : stepS (lvl (C (d + 5)) 59) (.for (.nm 1) (.v (.e (.call 11 []))) [.ifs (.cmp .isn (.e (.call 5 [.var 1])) (.e (.cst (.bl false)))) [.ret (.cst (.bl false))] []]) [some (.ref .one), v1, none, none, none, none, none, none] h = .nx [some (.ref .one), getR (envO (lp2 (d + 1) v1 h)) 1, none, none, none, none, none, none] h := odd4 (d + 1) v1 h
theorem law_main {d : Nat} {kk : Bool} {ns : List Int} (v2 : Option W) (h : VH) (o1 : Scr (.frz kk (ns.map W.int)) h) : Sn ((lvl (C (d + 5)) 60).S (b_law.drop 2) [some (.ref .one), v2, none, none, none, none, none, none] h) (fun _ _ => False) (fun w _ => w = .bl true) (fun _ _ => False) (fun _ _ => False) := by
  have hs := o1.1
  refine S_cons ?_
  repeat (first | with_reducible refine len_frz (w := .non) hs ?_ | ((with_reducible apply E_var); rfl) | with_reducible refine E_cst ?_ | with_reducible refine V_e ?_ | with_reducible refine V_l ?_ | with_reducible refine A_nil ?_ | with_reducible refine A_cons ?_ | with_reducible refine S_cons ?_ | with_reducible refine S_nil ?_ | with_reducible refine S_ret ?_ | with_reducible refine S_if ?_ | with_reducible refine S_asg ?_ | with_reducible refine T_val ?_ | with_reducible refine T_not ?_ | with_reducible refine T_cmp ?_ | with_reducible refine T_or1 ?_ | with_reducible refine T_or ?_ | with_reducible refine T_and1 ?_ | with_reducible refine T_and ?_ | with_reducible refine T_chn ?_ | with_reducible refine E_idx ?_ | with_reducible refine E_tup ?_ | with_reducible refine E_bin ?_ | with_reducible refine E_cmp ?_ | with_reducible refine E_isi ?_ | with_reducible refine E_blt ?_ | with_reducible refine E_call ?_ | with_reducible refine E_callK ?_ | with_reducible refine E_chn ?_ | with_reducible refine E_and1 ?_ | with_reducible refine E_and ?_ | with_reducible refine E_or1 ?_ | with_reducible refine E_or ?_ | with_reducible refine E_not ?_ | with_reducible refine E_neg ?_ | with_reducible refine E_lis ?_ | with_reducible refine E_new ?_ | with_reducible refine E_ndic ?_ | with_reducible refine E_ite ?_ | with_reducible refine E_didx ?_ | with_reducible refine E_dget ?_ | with_reducible refine E_app ?_ | with_reducible refine L_lst ?_ | with_reducible refine L_cat ?_ | with_reducible refine L_slc ?_ | with_reducible refine L_lof ?_ | with_reducible refine L_srt ?_ | with_reducible refine L_comp ?_ | with_reducible refine O_none ?_ | with_reducible refine O_some ?_ | with_reducible refine I_v ?_ | with_reducible refine I_rng ?_ | with_reducible refine I_zip ?_ | with_reducible refine I_enm ?_ | with_reducible refine S_for ?_ | with_reducible refine S_lcp ?_ | with_reducible refine S_lc ?_ | with_reducible refine S_par ?_ | with_reducible refine S_sub ?_ | with_reducible refine S_dsub ?_ | with_reducible refine S_exp ?_ | with_reducible refine R_add ?_ | with_reducible refine R_sub ?_ | ((with_reducible apply R_cmp); rfl) | ((with_reducible apply R_idx); rfl) | ((with_reducible apply R_ty); rfl) | ((with_reducible apply R_blt); rfl) | ((with_reducible apply R_bnd); rfl) | ((with_reducible apply R_map); rfl) | ((with_reducible apply R_wlk); rfl) | ((with_reducible apply R_seq); rfl) | ((with_reducible apply R_srt); rfl) | ((with_reducible apply R_pow); rfl) | ((with_reducible apply R_adds); rfl) | ((with_reducible apply R_muls); rfl) | ((with_reducible apply iteY); rfl) | ((with_reducible apply iteN); rfl) | ((with_reducible apply X_bl); rfl) | ((with_reducible apply X_int); rfl) | ((with_reducible apply X_bind); rfl) | ((with_reducible apply X_and); rfl) | ((with_reducible refine R_mod ?_ ?_); omega) | ((with_reducible refine R_div ?_ ?_); omega) | ((with_reducible refine R_mul ?_ ?_); first | (left; omega) | (right; omega) | (left; decide)) | ((with_reducible apply C_nil); rfl; rfl) | ((with_reducible apply C_none); rfl; rfl; rfl) | ((with_reducible apply C_some); rfl; rfl; rfl) | ((with_reducible refine ⟨?_, ?_, ?_⟩); (first | omega | decide); (first | omega | decide)))
  have hj : ∀ n : Nat, 1 ≤ (if (if (n : Int) < 8 then (n : Int) else 8) > 1 then (if (n : Int) < 8 then (n : Int) else 8) else 1 : Int) ∧ (if (if (n : Int) < 8 then (n : Int) else 8) > 1 then (if (n : Int) < 8 then (n : Int) else 8) else 1 : Int) ≤ 8 := by
    intro n
    split <;> split <;> omega
  obtain ⟨j1, j2⟩ := hj (ns.map W.int).length
  refine F_loop (fun ws r h' => (∀ w ∈ ws, ∃ k, w = .int k ∧ 0 ≤ k ∧ k < 8) ∧ (∃ v1 v2 v3 v4 v5 v6 v7, r = [some (.ref .one), v1, v2, v3, v4, v5, v6, v7]) ∧ Scr (.frz kk (ns.map W.int)) h') (fun _ _ _ _ => rfl) ?_ ?_ _ _ _ ⟨fun w hw => ?_, ⟨v2, none, none, none, none, none, none, rfl⟩, o1⟩
  · rintro r h' ⟨_, ⟨w1, w2, w3, w4, w5, w6, w7, rfl⟩, _⟩
    repeat (first | ((with_reducible apply E_var); rfl) | with_reducible refine E_cst ?_ | with_reducible refine V_e ?_ | with_reducible refine V_l ?_ | with_reducible refine A_nil ?_ | with_reducible refine A_cons ?_ | with_reducible refine S_cons ?_ | with_reducible refine S_nil ?_ | with_reducible refine S_ret ?_ | with_reducible refine S_if ?_ | with_reducible refine S_asg ?_ | with_reducible refine T_val ?_ | with_reducible refine T_not ?_ | with_reducible refine T_cmp ?_ | with_reducible refine T_or1 ?_ | with_reducible refine T_or ?_ | with_reducible refine T_and1 ?_ | with_reducible refine T_and ?_ | with_reducible refine T_chn ?_ | with_reducible refine E_idx ?_ | with_reducible refine E_tup ?_ | with_reducible refine E_bin ?_ | with_reducible refine E_cmp ?_ | with_reducible refine E_isi ?_ | with_reducible refine E_blt ?_ | with_reducible refine E_call ?_ | with_reducible refine E_callK ?_ | with_reducible refine E_chn ?_ | with_reducible refine E_and1 ?_ | with_reducible refine E_and ?_ | with_reducible refine E_or1 ?_ | with_reducible refine E_or ?_ | with_reducible refine E_not ?_ | with_reducible refine E_neg ?_ | with_reducible refine E_lis ?_ | with_reducible refine E_new ?_ | with_reducible refine E_ndic ?_ | with_reducible refine E_ite ?_ | with_reducible refine E_didx ?_ | with_reducible refine E_dget ?_ | with_reducible refine E_app ?_ | with_reducible refine L_lst ?_ | with_reducible refine L_cat ?_ | with_reducible refine L_slc ?_ | with_reducible refine L_lof ?_ | with_reducible refine L_srt ?_ | with_reducible refine L_comp ?_ | with_reducible refine O_none ?_ | with_reducible refine O_some ?_ | with_reducible refine I_v ?_ | with_reducible refine I_rng ?_ | with_reducible refine I_zip ?_ | with_reducible refine I_enm ?_ | with_reducible refine S_for ?_ | with_reducible refine S_lcp ?_ | with_reducible refine S_lc ?_ | with_reducible refine S_par ?_ | with_reducible refine S_sub ?_ | with_reducible refine S_dsub ?_ | with_reducible refine S_exp ?_ | with_reducible refine R_add ?_ | with_reducible refine R_sub ?_ | ((with_reducible apply R_cmp); rfl) | ((with_reducible apply R_idx); rfl) | ((with_reducible apply R_ty); rfl) | ((with_reducible apply R_blt); rfl) | ((with_reducible apply R_bnd); rfl) | ((with_reducible apply R_map); rfl) | ((with_reducible apply R_wlk); rfl) | ((with_reducible apply R_seq); rfl) | ((with_reducible apply R_srt); rfl) | ((with_reducible apply R_pow); rfl) | ((with_reducible apply R_adds); rfl) | ((with_reducible apply R_muls); rfl) | ((with_reducible apply iteY); rfl) | ((with_reducible apply iteN); rfl) | ((with_reducible apply X_bl); rfl) | ((with_reducible apply X_int); rfl) | ((with_reducible apply X_bind); rfl) | ((with_reducible apply X_and); rfl) | ((with_reducible refine R_mod ?_ ?_); omega) | ((with_reducible refine R_div ?_ ?_); omega) | ((with_reducible refine R_mul ?_ ?_); first | (left; omega) | (right; omega) | (left; decide)) | ((with_reducible apply C_nil); rfl; rfl) | ((with_reducible apply F_nil); rfl; rfl) | ((with_reducible apply C_none); rfl; rfl; rfl) | ((with_reducible apply C_some); rfl; rfl; rfl) | ((with_reducible apply F_cons); rfl; rfl; rfl) | ((with_reducible refine ⟨?_, ?_, ?_⟩); (first | omega | decide); (first | omega | decide)))
    rfl
  · rintro w ws r h' ⟨a1, ⟨w1, w2, w3, w4, w5, w6, w7, rfl⟩, a3⟩
    obtain ⟨k, rfl, k1, k2⟩ := a1 w List.mem_cons_self
    refine ⟨_, rfl, ?_⟩
    exact outer (v1 := w1) (v2 := none) (v3 := w3) (v4 := w4) (v5 := w5) (v6 := w6) (v7 := w7) k1 k2 a3 fun v3 v4 v5 v6 v7 h'' b => ⟨fun w hw => a1 w (List.mem_cons_of_mem _ hw), ⟨w1, some (.int k), v3, v4, v5, v6, v7, rfl⟩, b⟩
  · obtain ⟨k, e, a, b⟩ := iota_mem _ _ _ hw
    exact ⟨k, e, a, by omega⟩
theorem law_go {d : Nat} {v1 v2 : Option W} {h h2 : VH} (e : stepS (lvl (C (d + 5)) 59) (.for (.nm 1) (.v (.e (.call 10 []))) [.ifs (.or [.cmp .isn (.e (.call 3 [.var 1])) (.e (.cst (.bl false))), .cmp .isn (.e (.callK 3 [.var 1])) (.e (.cst (.bl false)))]) [.ret (.cst (.bl false))] []]) [some (.ref .one), none, none, none, none, none, none, none] h2 = .nx [some (.ref .one), v1, none, none, none, none, none, none] h)
    (e2 : stepS (lvl (C (d + 5)) 59) (.for (.nm 1) (.v (.e (.call 11 []))) [.ifs (.cmp .isn (.e (.call 5 [.var 1])) (.e (.cst (.bl false)))) [.ret (.cst (.bl false))] []]) [some (.ref .one), v1, none, none, none, none, none, none] h = .nx [some (.ref .one), v2, none, none, none, none, none, none] h)
    (q : Sn ((lvl (C (d + 5)) 60).S (b_law.drop 2) [some (.ref .one), v2, none, none, none, none, none, none] h) (fun _ _ => False) (fun w _ => w = .bl true) (fun _ _ => False) (fun _ _ => False)) : Sn ((lvl (C (d + 5)) 60).S b_law [some (.ref .one), none, none, none, none, none, none, none] h2) (fun _ _ => False) (fun w _ => w = .bl true) (fun _ _ => False) (fun _ _ => False) := by
  with_reducible refine S_cons ?_
  with_reducible refine Sn_eq e ?_
  with_reducible refine S_cons ?_
  with_reducible refine Sn_eq e2 ?_
  exact q
theorem law_run (d : Nat) (kk : Bool) (ns : List Int) : Sn ((lvl (C (d + 5)) 60).S b_law [some (.ref .one), none, none, none, none, none, none, none] (h0 (.frz kk (ns.map W.int)))) (fun _ _ => False) (fun w _ => w = .bl true) (fun _ _ => False) (fun _ _ => False) := by
  have o1 : Scr (.frz kk (ns.map W.int)) (hpO (lp1 (d + 1) (.frz kk (ns.map W.int)))) := ⟨odd2 _ _, Nat.blt_eq.mp (odd3 _ _)⟩
  with_reducible exact law_go (odd1e d (.frz kk (ns.map W.int))) (odd4e d _ _) (law_main _ _ o1)
end K01


set_option linter.all false
set_option maxRecDepth 100000
set_option maxHeartbeats 200000
namespace K01
open VM
theorem Sn_wk {x : SRes} {Q : W → VH → Prop} (h : Sn x (fun _ _ => False) Q (fun _ _ => False) (fun _ _ => False)) : Sn x (fun _ h => Q .non h) Q (fun _ _ => False) (fun _ _ => False) := by
  cases x with
  | nx _ _ => exact False.elim h
  | rt _ _ => exact h
  | bk _ _ => exact h
  | ct _ _ => exact h
  | bad => exact h
theorem ex_true {x : Res W} (h : Rn x fun w _ => w = .bl true) : ∃ h', x = .ok (.bl true) h' := by
  cases x with
  | ok w h' => exact ⟨h', congrArg (fun w => Res.ok w h') h⟩
  | bad => exact False.elim h
theorem fin_of {d : Nat} {h : VH} (hb : Sn ((lvl (C (d + 5)) 60).S b_law [some (.ref .one), none, none, none, none, none, none, none] h) (fun _ _ => False) (fun w _ => w = .bl true) (fun _ _ => False) (fun _ _ => False)) : ∃ h', C (d + 6) 12 [.ref .one] h = .ok (.bl true) h' := ex_true (law_of (Sn_wk hb))
theorem law_plain (kk : Bool) (ns : List Int) : ∃ h', C (0 + 6) 12 [.ref .one] (h0 (.frz kk (ns.map W.int))) = .ok (.bl true) h' := by
  with_reducible exact fin_of (law_run 0 kk ns)
end K01


set_option Elab.async false
set_option linter.all false
set_option maxRecDepth 100000
set_option maxHeartbeats 0
namespace K01
open PySem PySem.Spec PyProof.Rows L2 VM
abbrev hk : PySem.W.Hook := hookV 4 pg DS
abbrev RR : PySem.W.OpenRow := PySem.W.OpenLaw.row PySem.Challenge.rw_finestcuts_k01_sums_and_deeds
def ob (s : PySem.W.SharedT) : He.AlD × Bool := obsVG 4 pg DS (HandSHeadRun.getT s)
theorem ob_eq (s : PySem.W.SharedT) : ob s = hk.obs s.abs := obsVG_eq (HandSHeadRun.getT_eq s)
theorem run (w : World) : HandSHeadRun.RunEq RR (PySem.W.view RR.prog [19]) hk ob 4000 ["RESERVED", "MAX_LENGTH", "MAX_NUMBER", "is_integer", "is_short", "is_name", "SUMMED", "is_sum", "is_place", "is_deed", "_law_pool", "_law_draw", "_law_sum", "_law_deed", "_law_odd_sums", "_law_odd_deeds"] w := by
  intro os
  kernel_rfl
end K01


set_option Elab.async false
set_option linter.all false
set_option maxRecDepth 100000
set_option maxHeartbeats 0
namespace K01
open PySem PySem.Spec PyProof.Rows L2 VM
theorem bt : ∀ d ∈ DS, BindT pg d := by
  intro d hd
  simp only [DS, List.mem_cons, List.not_mem_nil, or_false] at hd
  rcases hd with rfl | rfl | rfl | rfl | rfl | rfl | rfl | rfl | rfl | rfl | rfl | rfl | rfl
  case inr.inr.inr.inl => exact ⟨fun _ _ _ _ _ _ us hl => match us, hl with | [_], _ => rfl, fun _ _ _ _ _ _ _ us hl => match us, hl with | [_], _ => rfl⟩
  all_goals first
    | exact ⟨fun _ _ _ _ _ _ us hl => match us, hl with | [_], _ => rfl, fun h => absurd h (by decide +kernel)⟩
    | exact ⟨fun _ _ _ _ _ _ us hl => match us, hl with | [_, _], _ => rfl, fun h => absurd h (by decide +kernel)⟩
    | exact ⟨fun _ _ _ _ _ _ us hl => match us, hl with | [_, _, _], _ => rfl, fun h => absurd h (by decide +kernel)⟩
    | exact ⟨fun _ _ _ _ _ _ us hl => match us, hl with | [], _ => rfl, fun h => absurd h (by decide +kernel)⟩
theorem facts {P : Program} {w : World} {K : PySem.W.Frag} {h : Heap} {mg : Str → Option Value} {f : Addr} (X : K.In h) (G : h.Ns mainGlobals mg) (hfa : mg ("law" : Str) = some (.ref f)) (c : SaysV pg DS K) :
    ∃ fd : FuncData, (∀ (s : Shared) (v : Value), BindsTo s fd ⟨[v], []⟩ [("_law_script", v)]) ∧ ∀ base : Heap, FnOk P w K mg base CX0 6 f fd ["_law_script"] (spOf K (callF PF 60 6) 12 1) := by
  obtain ⟨fa, fd, B⟩ := defs_of X G c ck fns bt
  have hm := B.mgl 12 d_law rfl
  have e := hfa.symm.trans hm
  cases e
  have b := (B.fn 12 d_law rfl).bindsA (ps := ["_law_script"]) fun _ _ _ _ _ _ us hl => match us, hl with | [_], _ => rfl
  refine ⟨fd 12, fun s v => b s [v] rfl, fun base => ?_⟩
  have z := B.ok (Pr := P) (wo := w) (base := base) (F := 60) 6 12 d_law rfl
  rw [pf] at z
  exact z
end K01
open PySem PySem.W PySem.Calls PyProof.Rows
theorem PySem.Challenge.cw_finestcuts_k01_sums_and_deeds_holds : PySem.Challenge.rw_finestcuts_k01_sums_and_deeds.Holds := by
  w_on; o_law
  refine HandSHeadRun.head_any (r := OpenLaw.row PySem.Challenge.rw_finestcuts_k01_sums_and_deeds) (q := view (OpenLaw.row PySem.Challenge.rw_finestcuts_k01_sums_and_deeds).prog [19]) (H := K01.hk) (ob := K01.ob) (M := 4000) (loose := ["RESERVED", "MAX_LENGTH", "MAX_NUMBER", "is_integer", "is_short", "is_name", "SUMMED", "is_sum", "is_place", "is_deed", "_law_pool", "_law_draw", "_law_sum", "_law_deed", "_law_odd_sums", "_law_odd_deeds"]) (d := HandSHeadRun.topDef (OpenLaw.row PySem.Challenge.rw_finestcuts_k01_sums_and_deeds).prog 19) (kwd := []) K01.ob_eq
    (by kernel_rfl) (fun s => by kernel_rfl) K01.run (by kernel_rfl) (by kernel_rfl) (by kernel_rfl) (by rfl) (by first | assumption | decide +kernel) (by decide +kernel) ⟨rfl, rfl, rfl, rfl, rfl, by decide +kernel⟩ ?hw ?hc
  case hw => w_witness2
  case hc =>
    refine L2.walk_ofE (l := PySem.Challenge.rw_finestcuts_k01_sums_and_deeds) (n := 63) (k := 6) (x := "_law_script") (CX := L2.CX0) rfl (by decide) (by kernel_rfl) ⟨rfl, by decide, by decide⟩ ?F (fun _ _ _ _ z => z)
    intro w mg fa h Y G hmg0
    obtain ⟨K, KX, c⟩ := Y
    have hmg : mg ("law" : PySem.Str) = some (.ref fa) := by
      have e : (HandSHeadRun.topDef (OpenLaw.row PySem.Challenge.rw_finestcuts_k01_sums_and_deeds).prog 19).name = ("law" : PySem.Str) := by kernel_rfl
      rw [← e]
      exact hmg0
    obtain ⟨fd, hb, hF⟩ := K01.facts (P := (PySem.Challenge.rw_finestcuts_k01_sums_and_deeds).prog) (w := w) KX G hmg c
    exact ⟨K, fd, VM.spOf K (VM.callF K01.PF 60 6) 12 1, KX, hb, fun H a ns hl ho hS => VM.sp_law ho hS fun k => K01.law_plain k ns, fun base _ _ => hF base⟩

